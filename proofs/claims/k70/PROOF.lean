import PyProof.Rows.All
import Wide.All
import OpenK.AllK
import Wide.FinOn
import HandS.ForMost
import HandS.Defaults
import HandS.Head0
import HandS.Head1
import HandS.Head2
import HandS.HeadEnd
import HandS.HeadHook1
import HandS.HeadHook2
import HandS.Property
import PyProof.Rows.RuleB_pow
import PyProof.Rows.SortShellAny
import HandS.TryOnly
import HandS.Wide
import HandS.Walk
import HandS.IsInst
import HandS.DictComp
import HandS.Style
import HandS.Flow
import HandS.TupAny
import HandS.ListItems
import HandS.Conv
import HandS.OwnEq
import KE.GoesMore
import KE.GoesEnum
import HandS.Iter
import HandS.SortKw
import HandS.More
import HandS.Finally
import KE.KDictSum
import HandS.SortRule
import HandS.SortOrd
import KE.KSortTup
import PyProof.ReprRoads
import HandS.Dict
import HandS.WordsExc
import HandS.ExcIs
import HandS.ExcField
import KE.KExcSuper
import KE.KSuper
import HandS.ExcInit
import PySem.Challenge.RW_ownslips_k70_whole_keeps_by_all_let_runs
set_option Elab.async false
set_option linter.all false
set_option maxRecDepth 100000
set_option maxHeartbeats 4000000
/-! Own hook: facts are any Bool of the written part, defs stand at any address that the written part tells. -/
namespace Oh
open PySem PySem.Spec PyProof.Rows L2
abbrev Frag := PySem.W.Frag
/-- a def: where it stands and its text -/
structure Dd where
  spot : Frag → Addr
  name : Str
  qual : Str
  st : Stmt
def Dd.fnd (d : Dd) (K : Frag) : He.FnW := (K.lookup (d.spot K)).bind fun o => match o.data with
  | .func fd => some (fd.name, fd.qualname, fd.params, fd.body, fd.scope, fd.globals, fd.closure, fd.builtins)
  | _ => none
def Dd.due (d : Dd) : He.FnW := some (d.name, d.qual, defArgs d.st, .stmts (defBody d.st), defScope d.st, mainGlobals, [], builtinsNs)
def isNon : Value → Bool
  | .none => true
  | _ => false
def Dd.good (d : Dd) (K : Frag) : Bool := match K.lookup (d.spot K) with
  | some o => (match o.data with
    | .func fd => PySem.W.keepIn K (.ref (d.spot K)) && (PySem.W.codeIn K fd.code d.qual && isNon fd.defaults)
    | _ => false)
  | none => false
theorem Dd.fun_ {d : Dd} {K : Frag} (e : d.fnd K = d.due) (g : d.good K = true) : ∃ fd, Fun K d.name d.qual d.st (d.spot K) fd := by
  unfold Dd.fnd at e
  unfold Dd.good at g
  cases q : K.lookup (d.spot K) with
  | none => rw [q] at g; cases g
  | some o =>
    obtain ⟨oc, od, dt, osl⟩ := o
    rw [q] at e g
    cases dt with
    | func fd =>
      obtain ⟨n1, n2, n3, n4, n5, n6, n7, n8, n9, n10, n11, n12, n13, n14, n15⟩ := fd
      have e2 : (some (n1, n2, n3, n4, n5, n6, n7, n15) : He.FnW) = some (d.name, d.qual, defArgs d.st, .stmts (defBody d.st), defScope d.st, mainGlobals, [], builtinsNs) := e
      have g2 : (PySem.W.keepIn K (.ref (d.spot K)) && (PySem.W.codeIn K n13 d.qual && isNon n8)) = true := g
      obtain ⟨g3, g4⟩ := Bool.and_eq_true_iff.mp g2
      obtain ⟨g5, g6⟩ := Bool.and_eq_true_iff.mp g4
      have e8 : n8 = .none := by
        cases n8 with
        | none => rfl
        | _ => cases g6
      simp only [Option.some.injEq, Prod.mk.injEq] at e2
      obtain ⟨h1, h2, h3, h4, h5, h6, h7, h8⟩ := e2
      subst h1 h2 h3 h4 h5 h6 h7 h8 e8
      exact ⟨_, ⟨oc, od, n9, n10, n11, n12, n13, n14, osl, rfl, q, g5⟩, g3⟩
    | _ => cases g
abbrev Ob : Type := Bool × List He.FnW
def see (fa : List (Frag → Bool)) (ds : List Dd) (K : Frag) : Ob := ((fa.all fun f => f K) && ds.all fun d => d.good K, ds.map fun d => d.fnd K)
def want (ds : List Dd) : Ob := (true, ds.map Dd.due)
def Told (fa : List (Frag → Bool)) (ds : List Dd) (K : Frag) : Prop := see fa ds K = want ds
def seeG (n : Nat) (fa : List (Frag → Bool)) (ds : List Dd) (g : Addr → Option Obj) : Ob := see fa ds (He.frG g (He.asD g n))
def hook (n : Nat) (fa : List (Frag → Bool)) (ds : List Dd) : PySem.W.Hook where
  α := Ob
  obs := fun s => seeG n fa ds s.heap.get?
  val := fun _ => want ds
  says := fun _ h => ∃ K : Frag, K.In h ∧ Told fa ds K
  of := fun _ _ e => ⟨_, He.frG_in, e⟩
  keeps := fun _ _ _ ⟨K, hK, c⟩ k => ⟨K, PySem.W.Frag.In.keeps hK k, c⟩
def obT (n : Nat) (fa : List (Frag → Bool)) (ds : List Dd) (s : PySem.W.SharedT) : Ob := seeG n fa ds (HandSHeadRun.getT s)
theorem obT_eq {n : Nat} {fa : List (Frag → Bool)} {ds : List Dd} (s : PySem.W.SharedT) : obT n fa ds s = (hook n fa ds).obs s.abs := by
  have e : HandSHeadRun.getT s = s.abs.heap.get? := funext (HandSHeadRun.getT_eq s)
  show seeG n fa ds (HandSHeadRun.getT s) = seeG n fa ds s.abs.heap.get?
  rw [e]
section
variable {fa : List (Frag → Bool)} {ds : List Dd} {K : Frag}
theorem Told.fact (c : Told fa ds K) (i : Nat) {f : Frag → Bool} (h : fa[i]? = some f) : f K = true := by
  have c1 := congrArg (fun z : Ob => z.1) c
  have c2 := (Bool.and_eq_true_iff.mp (show ((fa.all fun f => f K) && ds.all fun d => d.good K) = true from c1)).1
  exact List.all_eq_true.mp c2 f (List.mem_of_getElem? h)
theorem Told.def_ (c : Told fa ds K) (i : Nat) {d : Dd} (h : ds[i]? = some d) : ∃ fd, Fun K d.name d.qual d.st (d.spot K) fd := by
  have c1 := congrArg (fun z : Ob => z.1) c
  have c2 := (Bool.and_eq_true_iff.mp (show ((fa.all fun f => f K) && ds.all fun d => d.good K) = true from c1)).2
  have e : ds.map (fun d => d.fnd K) = ds.map Dd.due := congrArg (fun z : Ob => z.2) c
  have e2 : (ds.map fun d => d.fnd K)[i]? = (ds.map Dd.due)[i]? := by rw [e]
  rw [List.getElem?_map, List.getElem?_map, h] at e2
  exact Dd.fun_ (Option.some.inj e2) (List.all_eq_true.mp c2 d (List.mem_of_getElem? h))
end
/-! facts -/
def fo (f : He.Fa) : Frag → Bool := fun K => f.ok K
/-- the property's getter -/
def ga2 (K : Frag) (C f : Str) : Addr := match PySem.W.recIn K (He.ma K (He.ga K C) f) "property" with
  | some (.ref g :: _) => g
  | _ => 0
def isRefHd (o : Option (List Value)) (g : Addr) : Bool := match o with
  | some (.ref h :: _) => decide (h = g)
  | _ => false
/-- the class C has the name f as a property -/
def propB (C f : Str) : Frag → Bool := fun K => He.eqO (PySem.W.findIn K (.ref (He.ga K C)) f) (some (some (.ref (He.ma K (He.ga K C) f)))) &&
  (He.eqO (PySem.W.specialIn K (.ref (He.ma K (He.ga K C) f)) "__get__") (some (some (.builtin "property.__get__"))) &&
  (decide (PySem.W.takesIn K (.ref (He.ma K (He.ga K C) f)) = some true) && isRefHd (PySem.W.recIn K (He.ma K (He.ga K C) f) "property") (ga2 K C f)))
theorem propB_ok {C f : Str} {K : Frag} (h : propB C f K = true) : PropOf K (He.ga K C) f (He.ma K (He.ga K C) f) (ga2 K C f) := by
  obtain ⟨h1, h⟩ := Bool.and_eq_true_iff.mp h
  obtain ⟨h2, h⟩ := Bool.and_eq_true_iff.mp h
  obtain ⟨h3, h4⟩ := Bool.and_eq_true_iff.mp h
  refine ⟨He.eqO_ok h1, He.eqO_ok h2, of_decide_eq_true h3, ?_⟩
  unfold isRefHd at h4
  cases q : PySem.W.recIn K (He.ma K (He.ga K C) f) "property" with
  | none => rw [q] at h4; cases h4
  | some l =>
    rw [q] at h4
    cases l with
    | nil => cases h4
    | cons v r =>
      cases v with
      | ref g =>
        have e : g = ga2 K C f := of_decide_eq_true h4
        exact ⟨r, by rw [e]⟩
      | _ => cases h4
/-- how the law's def binds, at every heap -/
theorem bindsA {K : Frag} {x qual : Str} {st : Stmt} {f : Addr} {fd : FuncData} {ps : List Str} (F : Fun K x qual st f fd)
    (h : ∀ (kV doc pm : Value) (an : Option Addr) (cdv ct : Value) (us : List Value), us.length = ps.length → bindArgs (PySem.W.fnOf x qual (defArgs st) (defBody st) (defScope st) .none kV doc pm an cdv ct) ⟨us, []⟩ = pure (ps.zip us))
    (s : Shared) (us : List Value) (hl : us.length = ps.length) : BindsTo s fd ⟨us, []⟩ (ps.zip us) := by
  obtain ⟨_, _, kV, doc, pm, an, cdv, ct, _, e, _⟩ := F.ex
  subst e
  exact BindsTo.of_eq (h kV doc pm an cdv ct us hl)
end Oh

/-! Own layer: steps through a reading, one small lemma a construct, so that a tactic can take them by the goal's head. -/
namespace Ox
open PySem PySem.Spec PyProof.Rows L2
/-! ### further operators -/
section
variable {X : Cx}
theorem op_mulA : OpR X (binaryOp .Mult) (rI IntMulOk fun i j => .int (i * j)) := opI fun _ _ _ _ _ _ _ hc q => mul_int q hc
theorem op_fdivA : OpR X (binaryOp .FloorDiv) (rI CDivW fun i j => .int (i / j)) := op_fdivW
def CPowW (i j : Int) : Prop := 0 ≤ j ∧ (Builtin.Int.intBits i : Int) * j ≤ 2 ^ 27
theorem op_powW : OpR X (binaryOp .Pow) (rI CPowW fun i j => .int (i ^ j.toNat)) := opI fun _ _ _ _ _ _ _ hc q => pow_int hc.1 hc.2 q
end
theorem mulok_l {i j : Int} (h1 : -(2 ^ 63) ≤ i) (h2 : i < 2 ^ 63) : IntMulOk i j := CMul.ok (.inl ⟨by omega, by omega⟩)
theorem mulok_r {i j : Int} (h1 : -(2 ^ 63) ≤ j) (h2 : j < 2 ^ 63) : IntMulOk i j := CMul.ok (.inr ⟨by omega, by omega⟩)
theorem divok {i j : Int} (h : 0 < j) (h2 : j < 2 ^ 62) : CDivW i j := wide_div (b := 62) h (by omega) (by decide) (by decide)
/-! ### callees -/
section
variable (P : Program) (w : World) (K : PySem.W.Frag) (mg : Str → Option Value) (base : Heap)
/-- the module's name x is a def of level k that keeps the promise sp -/
structure Cal (k : Nat) (x : Str) (ps : List Str) (sp : Sp) : Prop where
  ex : ∃ f fd, FnOk P w K mg base CX0 k f fd ps sp ∧ mg x = some (.ref f) ∧ PySem.W.keepIn K (.ref f) = true ∧ Binds K fd ps []
/-- the module's name x is the class at C, made by an __init__ of level k -/
structure Mkc (C : Addr) (k : Nat) (x : Str) (ps : List Str) (sp : Sp) : Prop where
  ex : ∃ f fd, Mk K C f ∧ FnOk P w K mg base CX0 k f fd ps sp ∧ mg x = some (.ref C) ∧ Binds K fd ps []
structure Met (C : Addr) (k : Nat) (m : Str) (ps : List Str) (sp : Sp) : Prop where
  ex : ∃ f fd, Meth K C m f ∧ FnOk P w K mg base CX0 k f fd ps sp ∧ Binds K fd ps []
structure Prp (C : Addr) (k : Nat) (m : Str) (sp : Sp) : Prop where
  ex : ∃ p f fd, PropOf K C m p f ∧ FnOk P w K mg base CX0 k f fd ["self"] sp ∧ Binds K fd ["self"] []
end
section
variable {X : Cx} {k : Nat} {x : Str} {ps : List Str} {sp : Sp} {e : Expr} {es : List Expr} {t : TA} {pos p : Pos} {C : Addr} {ta : TE} {m : Str}
theorem pe_cal (c : Cal X.prog X.w X.K X.mg X.base k x ps sp) (hr : Room k X.A) (hg : Gl X x) (ha : PA X (e :: es) t)
    (hs : starEach (e :: es) X.env = (false, eval e X.env) :: starEach es X.env := by rfl) (hp : (backTo pos (starEach es X.env)).any (·.1) = false := by rfl)
    (hdb : (x == ("__debug__" : Str)) = false := by decide) : PE X (.Call (.Name x p) (e :: es) [] pos) (tCall sp [] E0 t) := by
  obtain ⟨f, fd, F, g, kp, b⟩ := c.ex
  exact pe_call F hr hg g kp b .nil pass0 ha hdb hs hp
theorem pe_cal0 (c : Cal X.prog X.w X.K X.mg X.base k x ps sp) (hr : Room k X.A) (hg : Gl X x)
    (hdb : (x == ("__debug__" : Str)) = false := by decide) : PE X (.Call (.Name x p) [] [] pos) (tCall sp [] E0 tNil) := by
  obtain ⟨f, fd, F, g, kp, b⟩ := c.ex
  exact pe_call0 F hr hg g kp b .nil pass0 hdb
theorem pe_mk (c : Mkc X.prog X.w X.K X.mg X.base C k x ps sp) (hr : Room (k + 1) X.A) (hg : Gl X x) (ha : PA X (e :: es) t)
    (hs : starEach (e :: es) X.env = (false, eval e X.env) :: starEach es X.env := by rfl) (hp : (backTo pos (starEach es X.env)).any (·.1) = false := by rfl)
    (hdb : (x == ("__debug__" : Str)) = false := by decide) : PE X (.Call (.Name x p) (e :: es) [] pos) (tMake C sp [] E0 t) := by
  obtain ⟨f, fd, M, F, g, b⟩ := c.ex
  exact pe_make M F hr hg g b .nil pass0 ha hdb hs hp
theorem pe_prp {p' : Expr} (c : Prp X.prog X.w X.K X.mg X.base C k m sp) (kc : Cls X.K C) (hr : Room (k + 1) X.A) (he : PE X p' ta)
    (hab : attributeBase p' m X.env (eval p' X.env) = eval p' X.env := by rfl) : PE X (.Attribute p' m pos) (tProp C sp [] E0 ta) := by
  obtain ⟨q, f, fd, hp, F, b⟩ := c.ex
  exact pe_prop he kc hp F hr b .nil pass0 hab
end
/-! ### steps -/
section
variable {σ : L2.St} {H : Hp} {Q : VK} {i : Nat} {v x y : V} {ta tb te tc : TE} {n : L2.St → Hp → Prop} {r : VK} {b c : L2.St → Hp → Prop} {t u : TS} {tt tu : TT} {R : Bool → Hp → Prop} {K : PySem.W.Frag} {al : TA} {W : List V → Hp → Prop}
theorem x_var (h : σ[i]? = some (some v)) (q : Q v H) : tVar i σ H Q := ⟨v, h, q⟩
theorem x_c (q : Q v H) : tC v σ H Q := q
theorem x_op {o : R2} (q : ta σ H fun x H1 => tb σ H1 fun y H2 => o x y H2 Q) : tOp o ta tb σ H Q := q
theorem x_un {o : V → Hp → VK → Prop} (q : ta σ H fun x H1 => o x H1 Q) : tUn o ta σ H Q := q
theorem x_I0 {g : Int → Int → V} {i j : Int} (q : Q (g i j) H) : rI0 g (.int i) (.int j) H Q := ⟨i, j, rfl, rfl, q⟩
theorem x_I {C : Int → Int → Prop} {g : Int → Int → V} {i j : Int} (hc : C i j) (q : Q (g i j) H) : rI C g (.int i) (.int j) H Q := ⟨i, j, rfl, rfl, hc, q⟩
theorem x_U {g : Int → V} {i : Int} (q : Q (g i) H) : rU g (.int i) H Q := ⟨i, rfl, q⟩
theorem x_eqI {i j : Int} (q : Q (.bl (decide (i = j))) H) : rEq (.int i) (.int j) H Q := ⟨rfl, by rw [show decide (V.int i = V.int j) = decide (i = j) from by simp]; exact q⟩
theorem x_eqS {i j : Str} (q : Q (.bl (decide (i = j))) H) : rEq (.str i) (.str j) H Q := ⟨rfl, by rw [show decide (V.str i = V.str j) = decide (i = j) from by simp]; exact q⟩
theorem x_eqB {i j : Bool} (q : Q (.bl (decide (i = j))) H) : rEq (.bl i) (.bl j) H Q := ⟨rfl, by rw [show decide (V.bl i = V.bl j) = decide (i = j) from by simp]; exact q⟩
theorem x_neI {i j : Int} (q : Q (.bl (!decide (i = j))) H) : rNe (.int i) (.int j) H Q := ⟨rfl, by rw [show decide (V.int i = V.int j) = decide (i = j) from by simp]; exact q⟩
theorem x_neS {i j : Str} (q : Q (.bl (!decide (i = j))) H) : rNe (.str i) (.str j) H Q := ⟨rfl, by rw [show decide (V.str i = V.str j) = decide (i = j) from by simp]; exact q⟩
theorem x_neB {i j : Bool} (q : Q (.bl (!decide (i = j))) H) : rNe (.bl i) (.bl j) H Q := ⟨rfl, by rw [show decide (V.bl i = V.bl j) = decide (i = j) from by simp]; exact q⟩
theorem x_bl {k : Bool} (q : R k H) : ∃ c, V.bl k = V.bl c ∧ R c H := ⟨k, rfl, q⟩
theorem x_test (q : te σ H fun x H1 => ∃ k, x = .bl k ∧ R k H1) : tTest te σ H R := q
theorem x_B (q : te σ H fun x H1 => ∃ k, x = .bl k ∧ R k H1) : tB te σ H R := q
theorem x_not (q : tt σ H fun c H1 => R (!c) H1) : tNot tt σ H R := q
theorem x_and (q : tt σ H fun c H1 => if c = true then tu σ H1 R else R false H1) : tAnd tt tu σ H R := q
theorem x_or (q : tt σ H fun c H1 => if c = true then R true H1 else tu σ H1 R) : tOr tt tu σ H R := q
theorem x_andV (q : ta σ H fun x H1 => ∃ c, x = .bl c ∧ if c = true then tb σ H1 Q else Q (.bl false) H1) : tAndV ta tb σ H Q := q
theorem x_orV (q : ta σ H fun x H1 => ∃ c, x = .bl c ∧ if c = true then Q (.bl true) H1 else tb σ H1 Q) : tOrV ta tb σ H Q := q
theorem x_notV (q : ta σ H fun x H1 => ∃ c, x = .bl c ∧ Q (.bl (!c)) H1) : tNotV ta σ H Q := q
theorem x_blV {k : Bool} {F : Bool → Prop} (q : F k) : ∃ c, V.bl k = V.bl c ∧ F c := ⟨k, rfl, q⟩
theorem x_ifE (q : tt σ H fun c H1 => if c = true then ta σ H1 Q else tb σ H1 Q) : tIf tt ta tb σ H Q := q
theorem x_chain {o o' : R2} (q : ta σ H fun x H1 => tb σ H1 fun y H2 => o x y H2 fun z H3 => ∃ k, z = .bl k ∧ (if k = true then tc σ H3 fun w' H4 => o' y w' H4 Q else Q (.bl false) H3)) : tChain o o' ta tb tc σ H Q := q
theorem x_nil (q : W [] H) : tNil σ H W := q
theorem x_cons {ar : TA} (q : ta σ H fun x H1 => ar σ H1 fun xs H2 => W (x :: xs) H2) : tCons ta ar σ H W := q
theorem x_tup (q : al σ H fun xs H1 => xs.length ≤ sizeLine ∧ ∀ p, H1 p = none → Q (.ref p) (upd H1 p (.tup xs))) : tTup al σ H Q := q
theorem x_lst (q : al σ H fun xs H1 => xs.length ≤ sizeLine ∧ ∀ p, H1 p = none → Q (.ref p) (upd H1 p (.lst xs))) : tLst al σ H Q := q
theorem x_cb {o : List V → Hp → VK → Prop} (q : al σ H fun vs H1 => o vs H1 Q) : tCB o al σ H Q := q
theorem x_call {sp : Sp} {E : XK} (q : al σ H fun vs H1 => sp vs H1 Q E) : tCall sp [] E al σ H Q := by
  show al σ H fun vs H1 => sp (vs ++ []) H1 Q E
  have e : (fun (vs : List V) (H1 : Hp) => sp (vs ++ []) H1 Q E) = fun vs H1 => sp vs H1 Q E := by
    funext vs H1
    rw [List.append_nil]
  rw [e]
  exact q
theorem x_make {C : Addr} {sp : Sp} {E : XK} (q : al σ H fun vs H1 => ∀ x dx, H1 x = none → H1 dx = none → dx ≠ x → sp (.ref x :: vs) (upd (upd H1 dx (.own x)) x (.ins C dx [])) (fun v H2 => v = .non ∧ Q (.ref x) H2) E) : tMake C sp [] E al σ H Q := by
  have e : (fun (vs : List V) (H1 : Hp) => ∀ x dx, H1 x = none → H1 dx = none → dx ≠ x → sp (.ref x :: (vs ++ [])) (upd (upd H1 dx (.own x)) x (.ins C dx [])) (fun v H2 => v = .non ∧ Q (.ref x) H2) E) =
      fun (vs : List V) (H1 : Hp) => ∀ x dx, H1 x = none → H1 dx = none → dx ≠ x → sp (.ref x :: vs) (upd (upd H1 dx (.own x)) x (.ins C dx [])) (fun v H2 => v = .non ∧ Q (.ref x) H2) E := by
    funext vs H1
    rw [List.append_nil]
  show al σ H fun vs H1 => ∀ x dx, H1 x = none → H1 dx = none → dx ≠ x → sp (.ref x :: (vs ++ [])) (upd (upd H1 dx (.own x)) x (.ins C dx [])) (fun v H2 => v = .non ∧ Q (.ref x) H2) E
  rw [e]
  exact q
/-! ### statements -/
theorem x_seq (h : t ⟨u ⟨n, r, b, c⟩, r, b, c⟩ σ H) : tSeq t u ⟨n, r, b, c⟩ σ H := h
theorem x_next (h : n σ H) : tNext ⟨n, r, b, c⟩ σ H := h
theorem x_brk (h : b σ H) : tBreak ⟨n, r, b, c⟩ σ H := h
theorem x_cont (h : c σ H) : tCont ⟨n, r, b, c⟩ σ H := h
theorem x_ret (h : te σ H r) : tRet te ⟨n, r, b, c⟩ σ H := h
theorem x_retN (h : r .non H) : tRetN ⟨n, r, b, c⟩ σ H := h
theorem x_drop (h : te σ H fun _ H1 => n σ H1) : tDrop te ⟨n, r, b, c⟩ σ H := h
theorem x_set (h : te σ H fun v H1 => n (σ.set i (some v)) H1) : tAsg te (gName i) ⟨n, r, b, c⟩ σ H := h
theorem x_if (h : tt σ H fun k H1 => if k = true then t ⟨n, r, b, c⟩ σ H1 else u ⟨n, r, b, c⟩ σ H1) : tIfS tt t u ⟨n, r, b, c⟩ σ H := h
theorem x_nx (h : n σ H) : (Ends.mk n r b c).nx σ H := h
theorem x_par {i j : Nat} (h : al σ H fun vs H1 => ∃ v w, vs = [v, w] ∧ n ((σ.set i (some v)).set j (some w)) H1) : tPar i j al ⟨n, r, b, c⟩ σ H := h
theorem x_par2 {F : V → V → Prop} {v w : V} (h : F v w) : ∃ v' w', [v, w] = [v', w'] ∧ F v' w' := ⟨v, w, rfl, h⟩
theorem x_aug {j : Nat} {tip : TIp} (hx : σ[j]? = some (some x)) (h : te σ H fun y H1 => tip x y H1 fun z H2 => n (σ.set j (some z)) H2) : tAug j te tip ⟨n, r, b, c⟩ σ H := ⟨x, hx, h⟩
theorem x_ipI {f : Int → Int → Int} {i j : Int} (q : Q (.int (f i j)) H) : ipI f (.int i) (.int j) H Q := ⟨i, j, rfl, rfl, q⟩
/-- xs[i] = v -/
theorem x_setL (h : te σ H fun v H0 => ta σ H0 fun o H1 => tb σ H1 fun k H2 => rSetL o k v H2 fun H3 => n σ H3) : tAsg te (gSub ta tb rSetL) ⟨n, r, b, c⟩ σ H := h
theorem x_setl {l : Addr} {xs : List V} {j : Nat} {k : Int} {N : Hp → Prop} (h : H l = some (.lst xs)) (hk : k = (j : Int)) (hj : j < xs.length) (q : N (upd H l (.lst (xs.set j v)))) : rSetL (.ref l) (.int k) v H N :=
  ⟨l, xs, k, j, rfl, rfl, h, by subst hk; unfold ixN; rw [if_pos (by omega), if_pos (by omega)]; simp, q⟩
/-- a test decided -/
theorem x_ite {A B : Prop} {k : Bool} (h1 : k = true → A) (h2 : k = false → B) : if k = true then A else B := by
  cases k with
  | true => exact h1 rfl
  | false =>
    show if false = true then A else B
    rw [if_neg Bool.false_ne_true]
    exact h2 rfl
theorem x_dec {A B p : Prop} [Decidable p] (h1 : p → A) (h2 : ¬ p → B) : if decide p = true then A else B := x_ite (fun e => h1 (of_decide_eq_true e)) fun e => h2 (of_decide_eq_false e)
theorem x_ndec {A B p : Prop} [Decidable p] (h1 : ¬ p → A) (h2 : p → B) : if (!decide p) = true then A else B := x_ite (fun e => h1 (of_decide_eq_false (by simpa using e))) fun e => h2 (of_decide_eq_true (by simpa using e))
theorem x_yes {A B p : Prop} [Decidable p] (hp : p) (h1 : A) : if decide p = true then A else B := x_dec (fun _ => h1) fun z => absurd hp z
theorem x_no {A B p : Prop} [Decidable p] (hp : ¬ p) (h2 : B) : if decide p = true then A else B := x_dec (fun z => absurd z hp) fun _ => h2
theorem x_T {A B : Prop} (h : A) : if true = true then A else B := x_ite (fun _ => h) fun z => by cases z
theorem x_F {A B : Prop} (h : B) : if false = true then A else B := x_ite (fun z => by cases z) fun _ => h
theorem x_nT {A B : Prop} (h : B) : if (!true) = true then A else B := x_F h
theorem x_nF {A B : Prop} (h : A) : if (!false) = true then A else B := x_T h
theorem x_nyes {A B p : Prop} [Decidable p] (hp : p) (h2 : B) : if (!decide p) = true then A else B := x_ndec (fun z => absurd hp z) fun _ => h2
theorem x_nno {A B p : Prop} [Decidable p] (hp : ¬ p) (h1 : A) : if (!decide p) = true then A else B := x_ndec (fun _ => h1) fun z => absurd z hp
/-! ### values of built-ins -/
theorem x_ixL {p : Addr} {xs : List V} {k : Int} (h : SqL K H p xs) (ha : atI xs k = some v) (q : Q v H) : rIxL K (.ref p) (.int k) H Q := ⟨p, xs, k, v, rfl, rfl, h, ha, q⟩
theorem x_ixT {p : Addr} {xs : List V} {k : Int} (h : SqT K H p xs) (ha : atI xs k = some v) (q : Q v H) : rIxT K (.ref p) (.int k) H Q := ⟨p, xs, k, v, rfl, rfl, h, ha, q⟩
theorem x_ixS {z : Str} {k : Int} {d : Nat} (h : z.length ≤ sizeLine) (ha : atI z.cps.toList k = some d) (q : Q (.str ⟨#[d]⟩) H) : rIxS (.str z) (.int k) H Q := ⟨z, k, d, rfl, rfl, h, ha, q⟩
theorem x_bm {T : String} {o : V → List V → Hp → VK → Prop} (q : ta σ H fun x H1 => tyV K T x H1 ∧ al σ H1 fun xs H2 => o x xs H2 Q) : tBM K T o ta al σ H Q := q
theorem x_bm0 {T : String} {o : V → List V → Hp → VK → Prop} (q : ta σ H fun x H1 => tyV K T x H1 ∧ o x [] H1 Q) : tBM0 K T o ta σ H Q := q
theorem x_tyL {p : Addr} {xs : List V} {A : Prop} (h : SqL K H p xs) (q : A) : tyV K "list" (.ref p) H ∧ A := ⟨.inl ⟨rfl, xs, h⟩, q⟩
theorem x_app {l : Addr} {xs : List V} (h : H l = some (.lst xs)) (hl : xs.length < sizeLine) (q : Q .non (upd H l (.lst (xs ++ [y])))) : rAppend (.ref l) [y] H Q := ⟨l, xs, y, rfl, rfl, h, hl, q⟩
theorem x_popAt {l : Addr} {xs : List V} {j : Nat} {k : Int} (h : H l = some (.lst xs)) (hk : k = (j : Int)) (hj : xs[j]? = some y) (hs : xs.length ≤ 10000) (q : Q y (upd H l (.lst (xs.eraseIdx j)))) : rPopAt (.ref l) [.int k] H Q := by
  have hlt : j < xs.length := (List.getElem?_eq_some_iff.mp hj).1
  subst hk
  refine ⟨l, xs, _, j, y, rfl, rfl, h, by omega, by omega, ?_, hj, q⟩
  unfold seqIndex?
  first
    | (rw [if_neg (by omega), if_pos (by omega)]; simp)
    | (simp; omega)
    | (simp [hlt])
end
/-! ### loops, each by a word over turn, slots and heap -/
section
variable {σ : L2.St} {H : Hp} {te : TE} {n : L2.St → Hp → Prop} {r : VK} {b c : L2.St → Hp → Prop} {tb : TS} {g : TG} {K : PySem.W.Frag} {al : TA} {p : Addr}
/-- the loop over what J tells -/
def Lp (J : It) (g : TG) (tb : TS) (D : Ends) (σ : L2.St) (H : Hp) : Prop := ∃ W : Nat → Nat → L2.St → Hp → Prop, (∃ m, W 0 m σ H) ∧ ∀ i m σ H, W i m σ H →
  (J.stop i H ∧ D.nx σ H) ∨ (J.go i H ∧ ∃ N : L2.St → Hp → Prop, (∀ σ' H', N σ' H' → ∃ m', m' < m ∧ W (i + 1) m' σ' H') ∧ ∀ x H', J.yld i H x H' → g x σ H' fun σ2 H2 => tb { D with nx := N, ct := N, bk := D.nx } σ2 H2)
def LpL (K : PySem.W.Frag) (g : TG) (tb : TS) (D : Ends) (σ : L2.St) (x : V) (H : Hp) : Prop := ∃ a, x = .ref a ∧ (∃ xs, SqL K H a xs) ∧ Lp (Itl K a) g tb D σ H
def LpT (K : PySem.W.Frag) (g : TG) (tb : TS) (D : Ends) (σ : L2.St) (x : V) (H : Hp) : Prop := ∃ a, x = .ref a ∧ (∃ xs, SqT K H a xs) ∧ Lp (Itt K a) g tb D σ H
def LpR (g : TG) (tb : TS) (D : Ends) (σ : L2.St) (vs : List V) (H : Hp) : Prop := ∃ j : Int, vs = [.int j] ∧ -(2 ^ 62) ≤ j ∧ j < 2 ^ 62 ∧ Lp (Itr 0 j.toNat) g tb D σ H
def LpR2 (g : TG) (tb : TS) (D : Ends) (σ : L2.St) (vs : List V) (H : Hp) : Prop := ∃ i j : Int, vs = [.int i, .int j] ∧ (-(2 ^ 62) ≤ i ∧ i < 2 ^ 62 ∧ -(2 ^ 62) ≤ j ∧ j < 2 ^ 62) ∧ Lp (Itr i (j - i).toNat) g tb D σ H
def LpS (g : TG) (tb : TS) (D : Ends) (σ : L2.St) (x : V) (H : Hp) : Prop := ∃ z, x = .str z ∧ Lp (Its z) g tb D σ H
def LpK (g : TG) (tb : TS) (D : Ends) (σ : L2.St) (x : V) (H : Hp) : Prop := ∃ d o, x = .ref d ∧ ((∃ kvs, H d = some (.frz o (.dK kvs)) ∧ Lp (Itk d o kvs) g tb D σ H) ∨ ∃ kvs, H d = some (.frz o (.dT kvs)) ∧ Lp (Itkt d o kvs) g tb D σ H)
def LpI (g : TG) (tb : TS) (D : Ends) (σ : L2.St) (x : V) (H : Hp) : Prop := ∃ d o kvs, x = .ref d ∧ H d = some (.frz o (.dK kvs)) ∧ Lp (Iti d o kvs) g tb D σ H
def LpV (g : TG) (tb : TS) (D : Ends) (σ : L2.St) (x : V) (H : Hp) : Prop := ∃ d o kvs, x = .ref d ∧ H d = some (.frz o (.dK kvs)) ∧ Lp (Itd d o kvs) g tb D σ H
theorem x_forL (h : te σ H fun x H1 => LpL K g tb ⟨n, r, b, c⟩ σ x H1) : tFor (iList K te) g tb ⟨n, r, b, c⟩ σ H := h
theorem x_forT (h : te σ H fun x H1 => LpT K g tb ⟨n, r, b, c⟩ σ x H1) : tFor (iTup K te) g tb ⟨n, r, b, c⟩ σ H := h
theorem x_forR (h : al σ H fun x H1 => LpR g tb ⟨n, r, b, c⟩ σ x H1) : tFor (iRng1 al) g tb ⟨n, r, b, c⟩ σ H := h
theorem x_forR2 (h : al σ H fun x H1 => LpR2 g tb ⟨n, r, b, c⟩ σ x H1) : tFor (iRng2 al) g tb ⟨n, r, b, c⟩ σ H := h
theorem x_forS (h : te σ H fun x H1 => LpS g tb ⟨n, r, b, c⟩ σ x H1) : tFor (iStr te) g tb ⟨n, r, b, c⟩ σ H := h
theorem x_forK (h : te σ H fun x H1 => LpK g tb ⟨n, r, b, c⟩ σ x H1) : tFor (iKeys te) g tb ⟨n, r, b, c⟩ σ H := h
theorem x_forI (h : te σ H fun x H1 => LpI g tb ⟨n, r, b, c⟩ σ x H1) : tFor (iItems te) g tb ⟨n, r, b, c⟩ σ H := h
theorem x_forV (h : te σ H fun x H1 => LpV g tb ⟨n, r, b, c⟩ σ x H1) : tFor (iVals te) g tb ⟨n, r, b, c⟩ σ H := h
/-- a name of the loop: the turn stores it -/
theorem lp_by {J : It} {m : Nat} {G : Hp → Prop} {Y : Nat → Hp → V → Hp → Prop} (w : L2.Walk J m G Y) (Pv : Nat → L2.St → Hp → Prop) (h0 : Pv 0 σ H) (hG : ∀ i σ H, i ≤ m → Pv i σ H → G H)
    (hs : ∀ i x σ H H', i < m → Pv i σ H → Y i H x H' → g x σ H' fun σ2 H2 => tb ⟨Pv (i + 1), r, n, Pv (i + 1)⟩ σ2 H2) (hd : ∀ σ H, Pv m σ H → n σ H) : Lp J g tb ⟨n, r, b, c⟩ σ H := L2.for_it w Pv h0 hG hs hd
theorem lpL {xs : List V} (Pv : Nat → L2.St → Hp → Prop) (h : SqL K H p xs) (h0 : Pv 0 σ H) (hG : ∀ i σ H, i ≤ xs.length → Pv i σ H → SqL K H p xs)
    (hs : ∀ i x σ H, xs[i]? = some x → Pv i σ H → g x σ H fun σ2 H2 => tb ⟨Pv (i + 1), r, n, Pv (i + 1)⟩ σ2 H2) (hd : ∀ σ H, Pv xs.length σ H → n σ H) : LpL K g tb ⟨n, r, b, c⟩ σ (.ref p) H :=
  ⟨p, rfl, ⟨xs, h⟩, lp_by walk_list Pv h0 hG (fun i x σ H H' _ hp y => by obtain ⟨rfl, e⟩ := y; exact hs i x σ _ e hp) hd⟩
theorem lpT {xs : List V} (Pv : Nat → L2.St → Hp → Prop) (h : SqT K H p xs) (h0 : Pv 0 σ H) (hG : ∀ i σ H, i ≤ xs.length → Pv i σ H → SqT K H p xs)
    (hs : ∀ i x σ H, xs[i]? = some x → Pv i σ H → g x σ H fun σ2 H2 => tb ⟨Pv (i + 1), r, n, Pv (i + 1)⟩ σ2 H2) (hd : ∀ σ H, Pv xs.length σ H → n σ H) : LpT K g tb ⟨n, r, b, c⟩ σ (.ref p) H :=
  ⟨p, rfl, ⟨xs, h⟩, lp_by walk_tup Pv h0 hG (fun i x σ H H' _ hp y => by obtain ⟨rfl, e⟩ := y; exact hs i x σ _ e hp) hd⟩
theorem lpR {j : Int} (Pv : Nat → L2.St → Hp → Prop) (hj : -(2 ^ 62) ≤ j ∧ j < 2 ^ 62) (h0 : Pv 0 σ H)
    (hs : ∀ i σ H, i < j.toNat → Pv i σ H → g (.int (i : Int)) σ H fun σ2 H2 => tb ⟨Pv (i + 1), r, n, Pv (i + 1)⟩ σ2 H2) (hd : ∀ σ H, Pv j.toNat σ H → n σ H) : LpR g tb ⟨n, r, b, c⟩ σ [.int j] H :=
  ⟨j, rfl, hj.1, hj.2, lp_by walk_range Pv h0 (fun _ _ _ _ _ => trivial) (fun i x σ H H' hi hp y => by
    obtain ⟨rfl, rfl⟩ := y
    dsimp only
    rw [Int.zero_add]
    exact hs i σ _ hi hp) hd⟩
theorem lpR2 {i0 j : Int} (Pv : Nat → L2.St → Hp → Prop) (hj : (-(2 ^ 62) ≤ i0 ∧ i0 < 2 ^ 62 ∧ -(2 ^ 62) ≤ j ∧ j < 2 ^ 62)) (h0 : Pv 0 σ H)
    (hs : ∀ i σ H, i < (j - i0).toNat → Pv i σ H → g (.int (i0 + (i : Int))) σ H fun σ2 H2 => tb ⟨Pv (i + 1), r, n, Pv (i + 1)⟩ σ2 H2) (hd : ∀ σ H, Pv (j - i0).toNat σ H → n σ H) : LpR2 g tb ⟨n, r, b, c⟩ σ [.int i0, .int j] H :=
  ⟨i0, j, rfl, hj, lp_by walk_range Pv h0 (fun _ _ _ _ _ => trivial) (fun i x σ H H' hi hp y => by
    obtain ⟨rfl, rfl⟩ := y
    exact hs i σ _ hi hp) hd⟩
theorem lpS {z : Str} (Pv : Nat → L2.St → Hp → Prop) (h0 : Pv 0 σ H)
    (hs : ∀ i d σ H, z.cps[i]? = some d → Pv i σ H → g (.str ⟨#[d]⟩) σ H fun σ2 H2 => tb ⟨Pv (i + 1), r, n, Pv (i + 1)⟩ σ2 H2) (hd : ∀ σ H, Pv z.cps.size σ H → n σ H) : LpS g tb ⟨n, r, b, c⟩ σ (.str z) H :=
  ⟨z, rfl, lp_by walk_str Pv h0 (fun _ _ _ _ _ => trivial) (fun i x σ H H' hi hp y => by
    obtain ⟨rfl, d, e, rfl⟩ := y
    exact hs i d σ _ e hp) hd⟩
theorem lpK {o : Obj} {kvs : List (Key × V)} (Pv : Nat → L2.St → Hp → Prop) (h : H p = some (.frz o (.dK kvs))) (h0 : Pv 0 σ H) (hG : ∀ i σ H, i ≤ kvs.length → Pv i σ H → H p = some (.frz o (.dK kvs)))
    (hs : ∀ i k v σ H, kvs[i]? = some (k, v) → Pv i σ H → g (kV k) σ H fun σ2 H2 => tb ⟨Pv (i + 1), r, n, Pv (i + 1)⟩ σ2 H2) (hd : ∀ σ H, Pv kvs.length σ H → n σ H) : LpK g tb ⟨n, r, b, c⟩ σ (.ref p) H :=
  ⟨p, o, rfl, .inl ⟨kvs, h, lp_by walk_keys Pv h0 hG (fun i x σ H H' _ hp y => by
    obtain ⟨rfl, k, v, e, rfl⟩ := y
    exact hs i k v σ _ e hp) hd⟩⟩
theorem lpV {o : Obj} {kvs : List (Key × V)} (Pv : Nat → L2.St → Hp → Prop) (h : H p = some (.frz o (.dK kvs))) (h0 : Pv 0 σ H) (hG : ∀ i σ H, i ≤ kvs.length → Pv i σ H → H p = some (.frz o (.dK kvs)))
    (hs : ∀ i k v σ H, kvs[i]? = some (k, v) → Pv i σ H → g v σ H fun σ2 H2 => tb ⟨Pv (i + 1), r, n, Pv (i + 1)⟩ σ2 H2) (hd : ∀ σ H, Pv kvs.length σ H → n σ H) : LpV g tb ⟨n, r, b, c⟩ σ (.ref p) H :=
  ⟨p, o, kvs, rfl, h, lp_by walk_values Pv h0 hG (fun i x σ H H' _ hp y => by
    obtain ⟨rfl, k, e⟩ := y
    exact hs i k x σ _ e hp) hd⟩
/-- the pairs, a new tuple each -/
theorem lpI {o : Obj} {kvs : List (Key × V)} (Pv : Nat → L2.St → Hp → Prop) (h : H p = some (.frz o (.dK kvs))) (h0 : Pv 0 σ H) (hG : ∀ i σ H, i ≤ kvs.length → Pv i σ H → H p = some (.frz o (.dK kvs)))
    (hs : ∀ i k v σ H T, kvs[i]? = some (k, v) → Pv i σ H → H T = none → g (.ref T) σ (upd H T (.tup [kV k, v])) fun σ2 H2 => tb ⟨Pv (i + 1), r, n, Pv (i + 1)⟩ σ2 H2) (hd : ∀ σ H, Pv kvs.length σ H → n σ H) : LpI g tb ⟨n, r, b, c⟩ σ (.ref p) H :=
  ⟨p, o, kvs, rfl, h, lp_by walk_items Pv h0 hG (fun i x σ H H' hi hp y => by
    obtain ⟨T, k, v, rfl, hT, rfl, e1, e2⟩ := y
    dsimp only at e1 e2
    cases e : kvs[i]? with
    | none => rw [e] at e1; cases e1
    | some kv =>
      rw [e] at e1 e2
      have e3 : kV kv.1 = k := Option.some.inj e1
      have e4 : kv.2 = v := Option.some.inj e2
      subst e3 e4
      exact hs i kv.1 kv.2 σ _ T e hp hT) hd⟩
theorem x_g1 {v : V} {i : Nat} {N : L2.St → Hp → Prop} (h : N (σ.set i (some v)) H) : gName i v σ H N := h
theorem x_g2 {T : Addr} {v w : V} {i j : Nat} {N : L2.St → Hp → Prop} (ht : SqT K H T [v, w]) (h : N ((σ.set i (some v)).set j (some w)) H) : gTup K 2 (gCons (gName i) (gCons (gName j) gNil)) (.ref T) σ H N :=
  ⟨T, [v, w], rfl, ht, rfl, v, [w], rfl, w, [], rfl, rfl, h⟩
end
/-! ### heaps: all but one kept -/
def But (p : Addr) (H H' : Hp) : Prop := ∀ b o, H b = some o → b ≠ p → H' b = some o
theorem But.refl {p : Addr} {H : Hp} : But p H H := fun _ _ h _ => h
theorem But.trans {p : Addr} {H H1 H2 : Hp} (a : But p H H1) (b : But p H1 H2) : But p H H2 := fun q o h e => b q o (a q o h e) e
theorem But.at_ {p : Addr} {H H' : Hp} {o : HO} (a : But p H H') : But p H (upd H' p o) := fun q u h e => by rw [upd_ne e]; exact a q u h e
theorem But.new {p q : Addr} {H H' : Hp} {o : HO} (a : But p H H') (h : H' q = none) : But p H (upd H' q o) := fun b u hb e => by
  have h1 := a b u hb e
  rw [upd_ne (ne_of_none h1 h)]
  exact h1
theorem But.of_same {p : Addr} {H H' : Hp} (a : L2.Same H H') : But p H H' := fun b o h _ => a b o h
theorem But.lst {K : PySem.W.Frag} {p q : Addr} {xs : List V} {H H' : Hp} (a : But p H H') (e : q ≠ p) (h : SqL K H q xs) : SqL K H' q xs := by
  rcases h with (h | ⟨o, h⟩) | h
  · exact .inl (.inl (a _ _ h e))
  · exact .inl (.inr ⟨o, a _ _ h e⟩)
  · exact .inr h
theorem ne_old {H : Hp} {a b : Addr} {o : HO} (h' : H b = none) (h : H a = some o) : a ≠ b := ne_of_none h h'
theorem ne_two {H : Hp} {a b : Addr} {o u : HO} (h : H a = some o) (h' : H b = some u) (d : o ≠ u) : a ≠ b := ne_of h h' d
/-! ### named readings of rules (so that a step can be told by its head) -/
def rLenA (K : PySem.W.Frag) : List V → Hp → VK → Prop := fun xs H Q => ∃ x n, xs = [x] ∧ LenV K x H n ∧ Q (.int n) H
def rLenDA : List V → Hp → VK → Prop := fun xs H Q => ∃ a kvs, xs = [V.ref a] ∧ Rd H a (.dK kvs) ∧ Q (.int kvs.length) H
def rIntA : List V → Hp → VK → Prop := fun xs H Q => (∃ i, xs = [.int i] ∧ Q (.int i) H) ∨ ∃ k, xs = [.bl k] ∧ Q (.int (if k then 1 else 0)) H
def rStrIA : List V → Hp → VK → Prop := fun xs H Q => ∃ i, xs = [.int i] ∧ i.natAbs.log2 < 1920 ∧ Q (.str (toString i)) H
def rAbsA : List V → Hp → VK → Prop := fun xs H Q => ∃ i, xs = [.int i] ∧ Q (.int (if i < 0 then -i else i)) H
def rMax2A : List V → Hp → VK → Prop := fun xs H Q => ∃ i j, xs = [.int i, .int j] ∧ Q (.int (if j > i then j else i)) H
def rMin2A : List V → Hp → VK → Prop := fun xs H Q => ∃ i j, xs = [.int i, .int j] ∧ Q (.int (if j < i then j else i)) H
def rListA (K : PySem.W.Frag) : List V → Hp → VK → Prop := fun xs H Q => ∃ p ys, xs = [.ref p] ∧ (SqL K H p ys ∨ SqT K H p ys) ∧ ∀ l, H l = none → Q (.ref l) (upd H l (.lst ys))
def rTupleA (K : PySem.W.Frag) : List V → Hp → VK → Prop := fun xs H Q => ∃ p ys, xs = [.ref p] ∧ ((SqL K H p ys ∧ ∀ l, H l = none → Q (.ref l) (upd H l (.tup ys))) ∨ (SqT K H p ys ∧ Q (.ref p) H))
def rDictA : List V → Hp → VK → Prop := fun xs H Q => ∃ (a : Addr) (kvs : List (Key × V)), xs = [.ref a] ∧ Rd H a (.dK kvs) ∧ ∀ p, H p = none → Q (.ref p) (upd H p (.dK kvs))
def rStr2 (g : Str → Str → Bool) : R2 := fun x y H Q => ∃ i j, x = .str i ∧ y = .str j ∧ Q (.bl (g i j)) H
def rAddSA : R2 := fun x y H Q => ∃ i j, x = .str i ∧ y = .str j ∧ i.length + j.length ≤ sizeLine ∧ Q (.str (i ++ j)) H
def rInSA : R2 := fun x y H Q => ∃ (c : Nat) (z : Str), x = .str ⟨#[c]⟩ ∧ y = .str z ∧ Q (.bl (decide (c ∈ z.cps.toList))) H
def rNinSA : R2 := fun x y H Q => ∃ (c : Nat) (z : Str), x = .str ⟨#[c]⟩ ∧ y = .str z ∧ Q (.bl (!decide (c ∈ z.cps.toList))) H
def rIsNA : R2 := fun x y H Q => y = .non ∧ Q (.bl (decide (x = .non))) H
def rNotNA : R2 := fun x y H Q => y = .non ∧ Q (.bl (!decide (x = .non))) H
section
variable {X : Cx}
theorem call_lenA : CallR X (.builtin "len") (rLenA X.K) := call_len
theorem call_lenDA : CallR X (.builtin "len") rLenDA := by
  intro pins s σ H xs us Q I r h
  obtain ⟨a, kvs, rfl, ha, q⟩ := h
  obtain ⟨u, rfl, ru⟩ := vals1 r
  cases ru
  exact d_len I ha fun t s' I' => ⟨.int kvs.length, H, I', ⟨t, rfl⟩, q⟩
theorem call_intA : CallR X (.type "int") rIntA := call_int1
theorem call_strIA : CallR X (.type "str") rStrIA := call_str_int
theorem call_absA : CallR X (.builtin "abs") rAbsA := call_abs
theorem call_max2A (hc : X.calm = true) : CallR X (.builtin "max") rMax2A := call_max2 hc
theorem call_min2A (hc : X.calm = true) : CallR X (.builtin "min") rMin2A := call_min2 hc
theorem call_listA : CallR X (.type "list") (rListA X.K) := call_list_of
theorem call_tupleA : CallR X (.type "tuple") (rTupleA X.K) := call_tuple_of
theorem call_dictA : CallR X (.type "dict") rDictA := call_dictD
theorem op_ltS : OpR X (compareOp .Lt) (rStr2 fun i j => decide (i.cps.toList < j.cps.toList)) := op_lt_str
theorem op_leS : OpR X (compareOp .LtE) (rStr2 fun i j => !decide (j.cps.toList < i.cps.toList)) := op_le_str
theorem op_gtS : OpR X (compareOp .Gt) (rStr2 fun i j => decide (j.cps.toList < i.cps.toList)) := op_gt_str
theorem op_geS : OpR X (compareOp .GtE) (rStr2 fun i j => !decide (i.cps.toList < j.cps.toList)) := op_ge_str
theorem op_addSA : OpR X (binaryOp .Add) rAddSA := op_add_str
theorem op_inSA : OpR X (compareOp .In) rInSA := op_in_sign
theorem op_ninSA : OpR X (compareOp .NotIn) rNinSA := op_notIn_sign
theorem op_isNA : OpR X (compareOp .Is) rIsNA := op_isN
theorem op_notNA : OpR X (compareOp .IsNot) rNotNA := op_notN
end
section
variable {σ : L2.St} {H : Hp} {Q : VK} {v x y : V} {ta : TE} {K : PySem.W.Frag}
theorem x_lenL {p : Addr} {xs : List V} (h : SqL K H p xs) (q : Q (.int xs.length) H) : rLenA K [V.ref p] H Q := ⟨_, _, rfl, .inl ⟨xs, h, rfl⟩, q⟩
theorem x_lenT {p : Addr} {xs : List V} (h : SqT K H p xs) (q : Q (.int xs.length) H) : rLenA K [V.ref p] H Q := ⟨_, _, rfl, .inr ⟨xs, h, rfl⟩, q⟩
theorem x_lenS {z : Str} (h : z.length ≤ sizeLine) (q : Q (.int z.length) H) : rLenA K [V.str z] H Q := ⟨_, _, rfl, ⟨h, rfl⟩, q⟩
theorem x_lenD {p : Addr} {kvs : List (Key × V)} (h : Rd H p (.dK kvs)) (q : Q (.int kvs.length) H) : rLenDA [V.ref p] H Q := ⟨p, kvs, rfl, h, q⟩
theorem x_intI {i : Int} (q : Q (.int i) H) : rIntA [V.int i] H Q := .inl ⟨i, rfl, q⟩
theorem x_strI {i : Int} (h : i.natAbs.log2 < 1920) (q : Q (.str (toString i)) H) : rStrIA [V.int i] H Q := ⟨i, rfl, h, q⟩
theorem x_abs {i : Int} (q : Q (.int (if i < 0 then -i else i)) H) : rAbsA [V.int i] H Q := ⟨i, rfl, q⟩
theorem x_max2 {i j : Int} (q : Q (.int (if j > i then j else i)) H) : rMax2A [V.int i, V.int j] H Q := ⟨i, j, rfl, q⟩
theorem x_min2 {i j : Int} (q : Q (.int (if j < i then j else i)) H) : rMin2A [V.int i, V.int j] H Q := ⟨i, j, rfl, q⟩
theorem x_str2 {g : Str → Str → Bool} {i j : Str} (q : Q (.bl (g i j)) H) : rStr2 g (.str i) (.str j) H Q := ⟨i, j, rfl, rfl, q⟩
theorem x_addS {i j : Str} (h : i.length + j.length ≤ sizeLine) (q : Q (.str (i ++ j)) H) : rAddSA (.str i) (.str j) H Q := ⟨i, j, rfl, rfl, h, q⟩
theorem x_inS {d : Nat} {z : Str} (q : Q (.bl (decide (d ∈ z.cps.toList))) H) : rInSA (.str ⟨#[d]⟩) (.str z) H Q := ⟨d, z, rfl, rfl, q⟩
theorem x_ninS {d : Nat} {z : Str} (q : Q (.bl (!decide (d ∈ z.cps.toList))) H) : rNinSA (.str ⟨#[d]⟩) (.str z) H Q := ⟨d, z, rfl, rfl, q⟩
theorem x_isN (q : Q (.bl (decide (x = .non))) H) : rIsNA x .non H Q := ⟨rfl, q⟩
theorem x_notN (q : Q (.bl (!decide (x = .non))) H) : rNotNA x .non H Q := ⟨rfl, q⟩
theorem x_listL {p : Addr} {xs : List V} (h : SqL K H p xs) (q : ∀ l, H l = none → Q (.ref l) (upd H l (.lst xs))) : rListA K [V.ref p] H Q := ⟨p, xs, rfl, .inl h, q⟩
theorem x_listT {p : Addr} {xs : List V} (h : SqT K H p xs) (q : ∀ l, H l = none → Q (.ref l) (upd H l (.lst xs))) : rListA K [V.ref p] H Q := ⟨p, xs, rfl, .inr h, q⟩
theorem x_tupL {p : Addr} {xs : List V} (h : SqL K H p xs) (q : ∀ l, H l = none → Q (.ref l) (upd H l (.tup xs))) : rTupleA K [V.ref p] H Q := ⟨p, xs, rfl, .inl ⟨h, q⟩⟩
theorem x_tupT {p : Addr} {xs : List V} (h : SqT K H p xs) (q : Q (.ref p) H) : rTupleA K [V.ref p] H Q := ⟨p, xs, rfl, .inr ⟨h, q⟩⟩
theorem x_dict {p : Addr} {kvs : List (Key × V)} (h : Rd H p (.dK kvs)) (q : ∀ l, H l = none → Q (.ref l) (upd H l (.dK kvs))) : rDictA [V.ref p] H Q := ⟨p, kvs, rfl, h, q⟩
def rFldA (K : PySem.W.Frag) (f : Str) (x : V) (H : Hp) (Q : VK) : Prop := ∃ a C dx fs v, x = .ref a ∧ H a = some (.ins C dx fs) ∧ Cls K C ∧ NoAttr K C f ∧ fs.lookup f = some v ∧ Q v H
theorem x_Fld {f : Str} (q : ta σ H fun x H1 => rFldA K f x H1 Q) : tFld K ta f σ H Q := q
theorem x_fld {a C dx : Addr} {fs : List (Str × V)} {f : Str} (hc : Cls K C) (hn : NoAttr K C f) (h : H a = some (.ins C dx fs)) (hl : fs.lookup f = some v) (q : Q v H) : rFldA K f (.ref a) H Q := ⟨a, C, dx, fs, v, rfl, h, hc, hn, hl, q⟩
end
end Ox
namespace Ox
open PySem PySem.Spec PyProof.Rows L2
theorem divok2 {i j : Int} (h : 0 < j) (h2 : j < 2 ^ 200) : CDivW i j := wide_div (b := 200) h (by omega) (by decide) (by decide)
end Ox
namespace Ox
open PySem PySem.Spec PyProof.Rows L2
section
variable {H : Hp} {Q : VK} {v : V} {K : PySem.W.Frag}
theorem x_ixl {p : Addr} {xs : List V} {k : Int} (j : Nat) (h : SqL K H p xs) (hk : k = (j : Int)) (ha : xs[j]? = some v) (q : Q v H) : rIxL K (.ref p) (.int k) H Q := x_ixL h (at_of hk ha) q
theorem x_ixt {p : Addr} {xs : List V} {k : Int} (j : Nat) (h : SqT K H p xs) (hk : k = (j : Int)) (ha : xs[j]? = some v) (q : Q v H) : rIxT K (.ref p) (.int k) H Q := x_ixT h (at_of hk ha) q
theorem x_ixs {z : Str} {k : Int} {d : Nat} (j : Nat) (h : z.length ≤ sizeLine) (hk : k = (j : Int)) (ha : z.cps.toList[j]? = some d) (q : Q (.str ⟨#[d]⟩) H) : rIxS (.str z) (.int k) H Q :=
  x_ixS h (by subst hk; exact atI_nat ha) q
end
end Ox
namespace Ox
open PySem PySem.Spec PyProof.Rows L2
theorem same_new {H : Hp} {p : Addr} {o : HO} (h : H p = none) : L2.Same H (upd H p o) := fun b u e => by rw [upd_ne (ne_of_none e h)]; exact e
/-- what H does not hold may change -/
theorem same_upd {H H' : Hp} {p : Addr} {o : HO} (s : L2.Same H H') (h : H p = none) : L2.Same H (upd H' p o) := fun b u e => by rw [upd_ne (ne_of_none e h)]; exact s b u e
theorem same_but {p : Addr} {H H1 H2 : Hp} (s : L2.Same H H1) (h : H p = none) (b : But p H1 H2) : L2.Same H H2 := fun q u e => b q u (s q u e) (ne_of_none e h)
theorem same_t {K : PySem.W.Frag} {H H' : Hp} {a : Addr} {xs : List V} (e : L2.Same H H') (h : SqT K H a xs) : SqT K H' a xs := by
  rcases h with (h | ⟨o, h⟩) | h
  · exact .inl (.inl (e _ _ h))
  · exact .inl (.inr ⟨o, e _ _ h⟩)
  · exact .inr h
theorem same_rd {H H' : Hp} {a : Addr} {u : HO} (e : L2.Same H H') (h : Rd H a u) : Rd H' a u := by
  rcases h with h | ⟨o, h⟩
  · exact .inl (e _ _ h)
  · exact .inr ⟨o, e _ _ h⟩
theorem but_rd {p : Addr} {H H' : Hp} {a : Addr} {u : HO} (e : But p H H') (n : a ≠ p) (h : Rd H a u) : Rd H' a u := by
  rcases h with h | ⟨o, h⟩
  · exact .inl (e _ _ h n)
  · exact .inr ⟨o, e _ _ h n⟩
theorem sz_le {n : Nat} (h : n ≤ 10000) : n ≤ sizeLine := Nat.le_trans h (by decide)
theorem sz_lt {n : Nat} (h : n < 10000) : n < sizeLine := Nat.lt_of_lt_of_le h (by decide)
end Ox
namespace Ox
open PySem PySem.Spec PyProof.Rows L2
theorem inV_strs (z : Str) (ws : List Str) : inV (.str z) (ws.map V.str) = decide (z ∈ ws) := by
  unfold inV
  induction ws with
  | nil => simp
  | cons a r ih =>
    rw [List.map_cons, List.any_cons, ih]
    show (a == z || decide (z ∈ r)) = decide (z ∈ a :: r)
    by_cases e : a = z
    · subst e
      simp
    · have e2 : (a == z) = false := by simpa using e
      have e3 : ¬ z = a := fun q => e q.symm
      rw [e2]
      simp [List.mem_cons, e3]
theorem flat_strs (ws : List Str) : (ws.map V.str).all flatV = true := by
  rw [List.all_map]
  exact List.all_eq_true.mpr fun _ _ => rfl
theorem inV_ints (z : Int) (ws : List Int) : inV (.int z) (ws.map V.int) = decide (z ∈ ws) := by
  unfold inV
  induction ws with
  | nil => simp
  | cons a r ih =>
    rw [List.map_cons, List.any_cons, ih]
    show (a == z || decide (z ∈ r)) = decide (z ∈ a :: r)
    by_cases e : a = z
    · subst e
      simp
    · have e2 : (a == z) = false := by simpa using e
      have e3 : ¬ z = a := fun q => e q.symm
      rw [e2]
      simp [List.mem_cons, e3]
theorem flat_ints (ws : List Int) : (ws.map V.int).all flatV = true := by
  rw [List.all_map]
  exact List.all_eq_true.mpr fun _ _ => rfl
section
variable {H : Hp} {Q : VK} {K : PySem.W.Frag} {p : Addr}
theorem x_inL {ws : List Str} {z : Str} (h : SqL K H p (ws.map V.str)) (q : Q (.bl (decide (z ∈ ws))) H) : rIn K false (.str z) (.ref p) H Q :=
  ⟨p, _, rfl, .inl h, rfl, flat_strs ws, by rw [inV_strs]; exact q⟩
theorem x_ninL {ws : List Str} {z : Str} (h : SqL K H p (ws.map V.str)) (q : Q (.bl (!decide (z ∈ ws))) H) : rIn K true (.str z) (.ref p) H Q :=
  ⟨p, _, rfl, .inl h, rfl, flat_strs ws, by rw [inV_strs]; exact q⟩
theorem x_inTs {ws : List Str} {z : Str} (h : SqT K H p (ws.map V.str)) (q : Q (.bl (decide (z ∈ ws))) H) : rIn K false (.str z) (.ref p) H Q :=
  ⟨p, _, rfl, .inr h, rfl, flat_strs ws, by rw [inV_strs]; exact q⟩
theorem x_inTi {ws : List Int} {z : Int} (h : SqT K H p (ws.map V.int)) (q : Q (.bl (decide (z ∈ ws))) H) : rIn K false (.int z) (.ref p) H Q :=
  ⟨p, _, rfl, .inr h, rfl, flat_ints ws, by rw [inV_ints]; exact q⟩
theorem x_ninTi {ws : List Int} {z : Int} (h : SqT K H p (ws.map V.int)) (q : Q (.bl (!decide (z ∈ ws))) H) : rIn K true (.int z) (.ref p) H Q :=
  ⟨p, _, rfl, .inr h, rfl, flat_ints ws, by rw [inV_ints]; exact q⟩
end
end Ox
namespace Ox
open PySem PySem.Spec PyProof.Rows L2
/-! ### comprehensions -/
section
variable {σ : L2.St} {H : Hp} {Q : VK} {te tk tv : TE} {n : L2.St → Hp → Prop} {r : VK} {b c : L2.St → Hp → Prop} {t : TS} {g : TG} {tt : TT} {K : PySem.W.Frag} {al : TA} {p D : Addr} {vs : List Nat} {wi : TI} {Qd : Hp → Prop}
def LcP (J : It) (g : TG) (tt : TT) (te : TE) (vs : List Nat) (σ : L2.St) (D : Addr) (Qd : Hp → Prop) (H1 : Hp) : Prop := ∃ W : Nat → Nat → Hp → Prop, (∃ m, W 0 m (upd H1 D (.lst []))) ∧ ∀ i m H, W i m H →
  (J.stop i H ∧ Qd H) ∨ (J.go i H ∧ ∃ Nx : Hp → Prop, (∀ H', Nx H' → ∃ m', m' < m ∧ W (i + 1) m' H') ∧ ∀ x H', J.yld i H x H' → g x (wipe σ vs) H' fun σ2 H2 => wipe σ2 vs = wipe σ vs ∧ tt σ2 H2 fun b H3 =>
    if b = true then te σ2 H3 fun y H4 => ∃ acc, H4 D = some (.lst acc) ∧ acc.length < sizeLine ∧ Nx (upd H4 D (.lst (acc ++ [y]))) else Nx H3)
def DcP (J : It) (g : TG) (tt : TT) (tk tv : TE) (vs : List Nat) (σ : L2.St) (D : Addr) (Qd : Hp → Prop) (H1 : Hp) : Prop := ∃ W : Nat → Nat → Hp → Prop, (∃ m, W 0 m (upd H1 D (.dK []))) ∧ ∀ i m H, W i m H →
  (J.stop i H ∧ Qd H) ∨ (J.go i H ∧ ∃ Nx : Hp → Prop, (∀ H', Nx H' → ∃ m', m' < m ∧ W (i + 1) m' H') ∧ ∀ x H', J.yld i H x H' → g x (wipe σ vs) H' fun σ2 H2 => wipe σ2 vs = wipe σ vs ∧ tt σ2 H2 fun b H3 =>
    if b = true then tk σ2 H3 fun y H4 => tv σ2 H4 fun z H5 => ∃ kvs k, y = kV k ∧ H5 D = some (.dK kvs) ∧ kvs.length < sizeLine ∧ Nx (upd H5 D (.dK (putK kvs k z))) else Nx H3)
theorem x_lc (h : wi σ H fun J H1 => ∀ D, H1 D = none → LcP J g tt te vs σ D (fun H2 => Q (.ref D) H2) H1) : tLc wi g tt te vs σ H Q := h
theorem x_dc (h : wi σ H fun J H1 => ∀ D, H1 D = none → DcP J g tt tk tv vs σ D (fun H2 => Q (.ref D) H2) H1) : tDc wi g tt tk tv vs σ H Q := h
theorem x_yes1 {R : Bool → Hp → Prop} (h : R true H) : tYes σ H R := h
def RunK (R : It → Hp → Prop) (x : V) (H : Hp) : Prop := ∃ d o, x = .ref d ∧ ((∃ kvs, H d = some (.frz o (.dK kvs)) ∧ R (Itk d o kvs) H) ∨ ∃ kvs, H d = some (.frz o (.dT kvs)) ∧ R (Itkt d o kvs) H)
def RunV (R : It → Hp → Prop) (x : V) (H : Hp) : Prop := ∃ d o kvs, x = .ref d ∧ H d = some (.frz o (.dK kvs)) ∧ R (Itd d o kvs) H
def RunI (R : It → Hp → Prop) (x : V) (H : Hp) : Prop := ∃ d o kvs, x = .ref d ∧ H d = some (.frz o (.dK kvs)) ∧ R (Iti d o kvs) H
def RunL (K : PySem.W.Frag) (R : It → Hp → Prop) (x : V) (H : Hp) : Prop := ∃ a, x = .ref a ∧ (∃ xs, SqL K H a xs) ∧ R (Itl K a) H
def RunT (K : PySem.W.Frag) (R : It → Hp → Prop) (x : V) (H : Hp) : Prop := ∃ a, x = .ref a ∧ (∃ xs, SqT K H a xs) ∧ R (Itt K a) H
def RunS (R : It → Hp → Prop) (x : V) (H : Hp) : Prop := ∃ z, x = .str z ∧ R (Its z) H
def RunR (R : It → Hp → Prop) (vs : List V) (H : Hp) : Prop := ∃ j : Int, vs = [.int j] ∧ -(2 ^ 62) ≤ j ∧ j < 2 ^ 62 ∧ R (Itr 0 j.toNat) H
theorem x_iK {R : It → Hp → Prop} (h : te σ H fun x H1 => RunK R x H1) : iKeys te σ H R := h
theorem x_iV {R : It → Hp → Prop} (h : te σ H fun x H1 => RunV R x H1) : iVals te σ H R := h
theorem x_iI {R : It → Hp → Prop} (h : te σ H fun x H1 => RunI R x H1) : iItems te σ H R := h
theorem x_iL {R : It → Hp → Prop} (h : te σ H fun x H1 => RunL K R x H1) : iList K te σ H R := h
theorem x_iT {R : It → Hp → Prop} (h : te σ H fun x H1 => RunT K R x H1) : iTup K te σ H R := h
theorem x_iS {R : It → Hp → Prop} (h : te σ H fun x H1 => RunS R x H1) : iStr te σ H R := h
theorem x_iR {R : It → Hp → Prop} (h : al σ H fun x H1 => RunR R x H1) : iRng1 al σ H R := h
theorem runK {R : It → Hp → Prop} {o : Obj} {kvs : List (Key × V)} (h : H p = some (.frz o (.dK kvs))) (q : R (Itk p o kvs) H) : RunK R (.ref p) H := ⟨p, o, rfl, .inl ⟨kvs, h, q⟩⟩
theorem runV {R : It → Hp → Prop} {o : Obj} {kvs : List (Key × V)} (h : H p = some (.frz o (.dK kvs))) (q : R (Itd p o kvs) H) : RunV R (.ref p) H := ⟨p, o, kvs, rfl, h, q⟩
theorem runI {R : It → Hp → Prop} {o : Obj} {kvs : List (Key × V)} (h : H p = some (.frz o (.dK kvs))) (q : R (Iti p o kvs) H) : RunI R (.ref p) H := ⟨p, o, kvs, rfl, h, q⟩
theorem runL {R : It → Hp → Prop} {xs : List V} (h : SqL K H p xs) (q : R (Itl K p) H) : RunL K R (.ref p) H := ⟨p, rfl, ⟨xs, h⟩, q⟩
theorem runT {R : It → Hp → Prop} {xs : List V} (h : SqT K H p xs) (q : R (Itt K p) H) : RunT K R (.ref p) H := ⟨p, rfl, ⟨xs, h⟩, q⟩
theorem runR {R : It → Hp → Prop} {j : Int} (h : -(2 ^ 62) ≤ j ∧ j < 2 ^ 62) (q : R (Itr 0 j.toNat) H) : RunR R [.int j] H := ⟨j, rfl, h.1, h.2, q⟩
theorem lc_by {J : It} {m : Nat} {G : Hp → Prop} {Y : Nat → Hp → V → Hp → Prop} (w : L2.Walk J m G Y) (Pv : Nat → Hp → Prop) (h0 : Pv 0 (upd H D (.lst []))) (hG : ∀ i H, i ≤ m → Pv i H → G H)
    (hs : ∀ i x H H', i < m → Pv i H → Y i H x H' → g x (wipe σ vs) H' fun σ2 H2 => wipe σ2 vs = wipe σ vs ∧ tt σ2 H2 fun b H3 =>
      if b = true then te σ2 H3 fun y H4 => ∃ acc, H4 D = some (.lst acc) ∧ acc.length < sizeLine ∧ Pv (i + 1) (upd H4 D (.lst (acc ++ [y]))) else Pv (i + 1) H3) (hd : ∀ H, Pv m H → Qd H) : LcP J g tt te vs σ D Qd H := L2.lc_it w Pv h0 hG hs hd
theorem dc_by {J : It} {m : Nat} {G : Hp → Prop} {Y : Nat → Hp → V → Hp → Prop} (w : L2.Walk J m G Y) (Pv : Nat → Hp → Prop) (h0 : Pv 0 (upd H D (.dK []))) (hG : ∀ i H, i ≤ m → Pv i H → G H)
    (hs : ∀ i x H H', i < m → Pv i H → Y i H x H' → g x (wipe σ vs) H' fun σ2 H2 => wipe σ2 vs = wipe σ vs ∧ tt σ2 H2 fun b H3 =>
      if b = true then tk σ2 H3 fun y H4 => tv σ2 H4 fun z H5 => ∃ kvs k, y = kV k ∧ H5 D = some (.dK kvs) ∧ kvs.length < sizeLine ∧ Pv (i + 1) (upd H5 D (.dK (putK kvs k z))) else Pv (i + 1) H3) (hd : ∀ H, Pv m H → Qd H) : DcP J g tt tk tv vs σ D Qd H := by
  refine ⟨fun i k H => k = m - i ∧ i ≤ m ∧ Pv i H, ⟨m, by simp, Nat.zero_le _, h0⟩, ?_⟩
  rintro i k H ⟨rfl, hi, hp⟩
  have q := hG i H hi hp
  by_cases hlt : i < m
  · exact .inr ⟨w.goes i H hlt q, Pv (i + 1), fun H' p' => ⟨m - (i + 1), by omega, rfl, hlt, p'⟩, fun x H' y => hs i x H H' hlt hp (w.yields i H x H' hlt q y)⟩
  · have e : i = m := by omega
    subst e
    exact .inl ⟨w.stops H q, hd H hp⟩
theorem lcK {o : Obj} {kvs : List (Key × V)} (Pv : Nat → Hp → Prop) (h0 : Pv 0 (upd H D (.lst []))) (hG : ∀ i H, i ≤ kvs.length → Pv i H → H p = some (.frz o (.dK kvs)))
    (hs : ∀ i k v H, kvs[i]? = some (k, v) → Pv i H → g (kV k) (wipe σ vs) H fun σ2 H2 => wipe σ2 vs = wipe σ vs ∧ tt σ2 H2 fun b H3 =>
      if b = true then te σ2 H3 fun y H4 => ∃ acc, H4 D = some (.lst acc) ∧ acc.length < sizeLine ∧ Pv (i + 1) (upd H4 D (.lst (acc ++ [y]))) else Pv (i + 1) H3) (hd : ∀ H, Pv kvs.length H → Qd H) : LcP (Itk p o kvs) g tt te vs σ D Qd H :=
  lc_by walk_keys Pv h0 hG (fun i x H H' _ hp y => by obtain ⟨rfl, k, v, e, rfl⟩ := y; exact hs i k v _ e hp) hd
theorem lcL {xs : List V} (Pv : Nat → Hp → Prop) (h0 : Pv 0 (upd H D (.lst []))) (hG : ∀ i H, i ≤ xs.length → Pv i H → SqL K H p xs)
    (hs : ∀ i x H, xs[i]? = some x → Pv i H → g x (wipe σ vs) H fun σ2 H2 => wipe σ2 vs = wipe σ vs ∧ tt σ2 H2 fun b H3 =>
      if b = true then te σ2 H3 fun y H4 => ∃ acc, H4 D = some (.lst acc) ∧ acc.length < sizeLine ∧ Pv (i + 1) (upd H4 D (.lst (acc ++ [y]))) else Pv (i + 1) H3) (hd : ∀ H, Pv xs.length H → Qd H) : LcP (Itl K p) g tt te vs σ D Qd H :=
  lc_by walk_list Pv h0 hG (fun i x H H' _ hp y => by obtain ⟨rfl, e⟩ := y; exact hs i x _ e hp) hd
theorem lcT {xs : List V} (Pv : Nat → Hp → Prop) (h0 : Pv 0 (upd H D (.lst []))) (hG : ∀ i H, i ≤ xs.length → Pv i H → SqT K H p xs)
    (hs : ∀ i x H, xs[i]? = some x → Pv i H → g x (wipe σ vs) H fun σ2 H2 => wipe σ2 vs = wipe σ vs ∧ tt σ2 H2 fun b H3 =>
      if b = true then te σ2 H3 fun y H4 => ∃ acc, H4 D = some (.lst acc) ∧ acc.length < sizeLine ∧ Pv (i + 1) (upd H4 D (.lst (acc ++ [y]))) else Pv (i + 1) H3) (hd : ∀ H, Pv xs.length H → Qd H) : LcP (Itt K p) g tt te vs σ D Qd H :=
  lc_by walk_tup Pv h0 hG (fun i x H H' _ hp y => by obtain ⟨rfl, e⟩ := y; exact hs i x _ e hp) hd
theorem dcK {o : Obj} {kvs : List (Key × V)} (Pv : Nat → Hp → Prop) (h0 : Pv 0 (upd H D (.dK []))) (hG : ∀ i H, i ≤ kvs.length → Pv i H → H p = some (.frz o (.dK kvs)))
    (hs : ∀ i k v H, kvs[i]? = some (k, v) → Pv i H → g (kV k) (wipe σ vs) H fun σ2 H2 => wipe σ2 vs = wipe σ vs ∧ tt σ2 H2 fun b H3 =>
      if b = true then tk σ2 H3 fun y H4 => tv σ2 H4 fun z H5 => ∃ kvs k, y = kV k ∧ H5 D = some (.dK kvs) ∧ kvs.length < sizeLine ∧ Pv (i + 1) (upd H5 D (.dK (putK kvs k z))) else Pv (i + 1) H3) (hd : ∀ H, Pv kvs.length H → Qd H) : DcP (Itk p o kvs) g tt tk tv vs σ D Qd H :=
  dc_by walk_keys Pv h0 hG (fun i x H H' _ hp y => by obtain ⟨rfl, k, v, e, rfl⟩ := y; exact hs i k v _ e hp) hd
theorem dcL {xs : List V} (Pv : Nat → Hp → Prop) (h0 : Pv 0 (upd H D (.dK []))) (hG : ∀ i H, i ≤ xs.length → Pv i H → SqL K H p xs)
    (hs : ∀ i x H, xs[i]? = some x → Pv i H → g x (wipe σ vs) H fun σ2 H2 => wipe σ2 vs = wipe σ vs ∧ tt σ2 H2 fun b H3 =>
      if b = true then tk σ2 H3 fun y H4 => tv σ2 H4 fun z H5 => ∃ kvs k, y = kV k ∧ H5 D = some (.dK kvs) ∧ kvs.length < sizeLine ∧ Pv (i + 1) (upd H5 D (.dK (putK kvs k z))) else Pv (i + 1) H3) (hd : ∀ H, Pv xs.length H → Qd H) : DcP (Itl K p) g tt tk tv vs σ D Qd H :=
  dc_by walk_list Pv h0 hG (fun i x H H' _ hp y => by obtain ⟨rfl, e⟩ := y; exact hs i x _ e hp) hd
theorem dcI {o : Obj} {kvs : List (Key × V)} (Pv : Nat → Hp → Prop) (h0 : Pv 0 (upd H D (.dK []))) (hG : ∀ i H, i ≤ kvs.length → Pv i H → H p = some (.frz o (.dK kvs)))
    (hs : ∀ i k v H T, kvs[i]? = some (k, v) → Pv i H → H T = none → g (.ref T) (wipe σ vs) (upd H T (.tup [kV k, v])) fun σ2 H2 => wipe σ2 vs = wipe σ vs ∧ tt σ2 H2 fun b H3 =>
      if b = true then tk σ2 H3 fun y H4 => tv σ2 H4 fun z H5 => ∃ kvs k, y = kV k ∧ H5 D = some (.dK kvs) ∧ kvs.length < sizeLine ∧ Pv (i + 1) (upd H5 D (.dK (putK kvs k z))) else Pv (i + 1) H3) (hd : ∀ H, Pv kvs.length H → Qd H) : DcP (Iti p o kvs) g tt tk tv vs σ D Qd H :=
  dc_by walk_items Pv h0 hG (fun i x H H' _ hp y => by
    obtain ⟨T, k, v, rfl, hT, rfl, e1, e2⟩ := y
    dsimp only at e1 e2
    cases e : kvs[i]? with
    | none => rw [e] at e1; cases e1
    | some kv =>
      rw [e] at e1 e2
      have e3 : kV kv.1 = k := Option.some.inj e1
      have e4 : kv.2 = v := Option.some.inj e2
      subst e3 e4
      exact hs i kv.1 kv.2 _ T e hp hT) hd
/-- a dict is held while it is walked -/
theorem x_lock {d : Addr} {u : HO} (h : H d = some u) (hm : Mut (some u)) (q : ∀ od, t ⟨fun σ' H' => H' d = some (.frz od u) ∧ n σ' (upd H' d u), fun v H' => H' d = some (.frz od u) ∧ r v (upd H' d u), fun σ' H' => H' d = some (.frz od u) ∧ b σ' (upd H' d u), fun σ' H' => H' d = some (.frz od u) ∧ c σ' (upd H' d u)⟩ σ (upd H d (.frz od u))) :
    tLock t ⟨n, r, b, c⟩ σ H := ⟨d, u, h, hm, q⟩
theorem x_lockE {d : Addr} {u : HO} (h : H d = some u) (hm : Mut (some u)) (q : ∀ od, te σ (upd H d (.frz od u)) fun v H' => H' d = some (.frz od u) ∧ Q v (upd H' d u)) : tLockE te σ H Q := ⟨d, u, h, hm, q⟩
/-! ### dicts -/
def rGetA (x y : V) (H : Hp) (Q : VK) : Prop := ∃ a v, x = .ref a ∧ DGet H a y (some v) ∧ Q v H
def rDinA (y x : V) (H : Hp) (Q : VK) : Prop := ∃ a o, x = .ref a ∧ DGet H a y o ∧ Q (.bl o.isSome) H
def rDninA (y x : V) (H : Hp) (Q : VK) : Prop := ∃ a o, x = .ref a ∧ DGet H a y o ∧ Q (.bl (!o.isSome)) H
def rDputA (x y v : V) (H : Hp) (N : Hp → Prop) : Prop := ∃ a H4, x = .ref a ∧ DPut H a y v H4 ∧ N H4
variable {td ty : TE} {x y v : V}
theorem x_dget (h : td σ H fun x H1 => ty σ H1 fun y H2 => rGetA x y H2 Q) : tDGet td ty σ H Q := h
theorem x_din (h : ty σ H fun y H1 => td σ H1 fun x H2 => rDinA y x H2 Q) : tDIn ty td σ H Q := h
theorem x_dnin (h : ty σ H fun y H1 => td σ H1 fun x H2 => rDninA y x H2 Q) : tDNotIn ty td σ H Q := h
theorem x_dput (h : tv σ H fun v H1 => td σ H1 fun x H2 => ty σ H2 fun y H3 => rDputA x y v H3 fun H4 => n σ H4) : sDPut td ty tv ⟨n, r, b, c⟩ σ H := h
theorem x_getS {kvs : List (Key × V)} {z : Str} (h : Rd H p (.dK kvs)) (e : valV kvs (Sum.inr z : Key) = some v) (q : Q v H) : rGetA (.ref p) (.str z) H Q := ⟨p, v, rfl, .inl ⟨kvs, Sum.inr z, h, rfl, e.symm⟩, q⟩
theorem x_dinS {kvs : List (Key × V)} {z : Str} (h : Rd H p (.dK kvs)) (q : Q (.bl (valV kvs (Sum.inr z : Key)).isSome) H) : rDinA (.str z) (.ref p) H Q := ⟨p, _, rfl, .inl ⟨kvs, Sum.inr z, h, rfl, rfl⟩, q⟩
theorem x_dninS {kvs : List (Key × V)} {z : Str} (h : Rd H p (.dK kvs)) (q : Q (.bl (!(valV kvs (Sum.inr z : Key)).isSome)) H) : rDninA (.str z) (.ref p) H Q := ⟨p, _, rfl, .inl ⟨kvs, Sum.inr z, h, rfl, rfl⟩, q⟩
theorem x_putS {kvs : List (Key × V)} {z : Str} {N : Hp → Prop} (h : H p = some (.dK kvs)) (hl : kvs.length < sizeLine) (q : N (upd H p (.dK (putK kvs (Sum.inr z : Key) v)))) : rDputA (.ref p) (.str z) v H N :=
  ⟨p, _, rfl, .inl ⟨kvs, Sum.inr z, h, rfl, hl, rfl⟩, q⟩
theorem x_newK (h : ∀ p, H p = none → Q (.ref p) (upd H p (.dK []))) : tDNewK σ H Q := h
end
end Ox
namespace Ox
open PySem PySem.Spec PyProof.Rows L2
theorem valV_at {kvs : List (Key × V)} (hn : (kvs.map (·.1)).Nodup) {i : Nat} {k : Key} {v : V} (h : kvs[i]? = some (k, v)) : valV kvs k = some v := by
  induction kvs generalizing i with
  | nil => cases h
  | cons p r ih =>
    have hn2 : (p.1 :: r.map (·.1)).Nodup := hn
    obtain ⟨h1, h2⟩ := List.nodup_cons.mp hn2
    unfold valV
    rw [List.find?_cons]
    cases i with
    | zero =>
      have e : p = (k, v) := Option.some.inj h
      subst e
      simp
    | succ i =>
      have h3 : r[i]? = some (k, v) := h
      have ne : ¬ p.1 = k := fun e => h1 (by rw [e]; exact List.mem_map.mpr ⟨(k, v), List.mem_of_getElem? h3, rfl⟩)
      rw [decide_eq_false ne]
      exact ih h2 h3
theorem valV_mem {kvs : List (Key × V)} {k : Key} {v : V} (h : valV kvs k = some v) : (k, v) ∈ kvs := by
  unfold valV at h
  cases e : kvs.find? (fun kv => decide (kv.1 = k)) with
  | none => rw [e] at h; cases h
  | some p =>
    rw [e] at h
    have h1 : p.2 = v := Option.some.inj h
    have h2 := List.find?_some e
    have h3 : p.1 = k := of_decide_eq_true h2
    rw [← h1, ← h3]
    exact List.mem_of_find?_eq_some e
/-- a dict with text keys -/
abbrev strK {α : Type} (f : α → V) (l : List (Str × α)) : List (Key × V) := l.map fun p => (Sum.inr p.1, f p.2)
theorem strK_at {α : Type} {f : α → V} {l : List (Str × α)} {i : Nat} {k : Key} {v : V} (h : (strK f l)[i]? = some (k, v)) : ∃ z x, k = Sum.inr z ∧ v = f x ∧ l[i]? = some (z, x) := by
  rw [List.getElem?_map] at h
  cases e : l[i]? with
  | none => rw [e] at h; cases h
  | some p =>
    rw [e] at h
    have e1 : ((Sum.inr p.1 : Key), f p.2) = (k, v) := Option.some.inj h
    injection e1 with e2 e3
    exact ⟨p.1, p.2, e2.symm, e3.symm, rfl⟩
theorem strK_nd {α : Type} {f : α → V} {l : List (Str × α)} (h : (l.map (·.1)).Nodup) : ((strK f l).map (·.1)).Nodup := by
  rw [List.map_map]
  have e : ((fun x : Key × V => x.1) ∘ fun p : Str × α => ((Sum.inr p.1 : Key), f p.2)) = (fun p : Str × α => (Sum.inr p.1 : Key)) := rfl
  rw [e]
  have e2 : l.map (fun p : Str × α => (Sum.inr p.1 : Key)) = (l.map (·.1)).map Sum.inr := by rw [List.map_map]; rfl
  rw [e2]
  exact List.pairwise_map.mpr (List.Pairwise.imp (fun {a b} hab e => hab (Sum.inr.inj e)) h)
theorem strK_val {α : Type} {f : α → V} {l : List (Str × α)} (h : (l.map (·.1)).Nodup) {i : Nat} {z : Str} {x : α} (e : l[i]? = some (z, x)) : valV (strK f l) (Sum.inr z : Key) = some (f x) :=
  valV_at (strK_nd h) (i := i) (by rw [List.getElem?_map, e]; rfl)
theorem strK_get {α : Type} {f : α → V} {l : List (Str × α)} {z : Str} {v : V} (h : valV (strK f l) (Sum.inr z : Key) = some v) : ∃ x, v = f x ∧ (z, x) ∈ l := by
  obtain ⟨p, hp, e⟩ := List.mem_map.mp (valV_mem h)
  injection e with e1 e2
  injection e1 with e3
  exact ⟨p.2, e2.symm, by rw [← e3]; exact hp⟩
theorem take_succ_get {α : Type} {l : List α} {i : Nat} {x : α} (h : l[i]? = some x) : l.take (i + 1) = l.take i ++ [x] := by
  rw [List.take_succ, h]
  rfl
end Ox
namespace Ox
open PySem PySem.Spec PyProof.Rows L2
/-- sorted(d), d a dict with text keys, of any length that fits the line -/
def rSortDA : List V → Hp → VK → Prop := fun xs H Q => ∃ (d : Addr) (kvs : List (Key × V)) (ks : List Str), xs = [.ref d] ∧ Rd H d (.dK kvs) ∧ kvs.map (·.1) = ks.map Sum.inr ∧ ks.length ≤ 10000 ∧
  ∀ ys p, ys.Perm ks → sortedS ys = true → H p = none → Q (.ref p) (upd H p (.lst (ys.map V.str)))
theorem call_sortedDA {X : Cx} (calm : X.calm = true) : CallR X (.builtin "sorted") rSortDA := by
  intro pn st σ H args us Q I ra hq
  obtain ⟨d, kvs, ks, rfl, rd, ek, len, fin⟩ := hq
  obtain ⟨ud, rfl, rud⟩ := vals1 ra
  cases rud
  obtain ⟨_, low, rows, rowsR, isd⟩ := dk_rd I.hok rd
  obtain ⟨epoch, atd⟩ := isd.dictAt
  have keyE : rows.map Prod.fst = ks.map Sum.inr := Eq.trans rowsR.keys.symm ek
  have lenE : rows.length = ks.length := by
    have t := congrArg List.length keyE
    simpa using t
  have line : ks.length ≤ sizeLine := by rw [sizeLine_eq]; omega
  refine Calls.call_function_entry kind_sorted plain_sorted entry_sorted (args_sorted1 _) ?_
  unfold Builtin.«sorted»
  refine wpAny_bind (m := checkCount "sorted" 1 1 _) (wpAny_pure (wpAny_bind (PySem.W.kdu_collect (A := X.A.in1) (PySem.W.kdl_dict (knd := mixKind X.prog X.w) (kvs := rows) (ep := epoch) low) (I.ok.hd calm) atd (by rw [lenE]; exact line) fun h1 t1 got keep isgot => ?_)))
  have gotL : got.toList.length = ks.length := (Array.length_toList ..).trans (isgot.1.trans lenE)
  have texts : StrsAre got.toList ks := strs_at gotL fun j v ev => by
    obtain ⟨key, _, er, ki⟩ := isgot.2 j v (by rw [← Array.getElem?_toList]; exact ev)
    have ekj : (ks.map Sum.inr)[j]? = some key := by rw [← keyE, List.getElem?_map, er]; rfl
    rw [List.getElem?_map] at ekj
    cases ez : ks[j]? with
    | none => rw [ez] at ekj; cases ekj
    | some z =>
      rw [ez] at ekj
      cases ekj
      obtain ⟨t, et⟩ := Value.isStrOf_shape (x := z) (v := v) ki
      exact ⟨z, t, rfl, et⟩
  have J : Inv X pn σ H { st with heap := h1, toks := t1 } := I.kept keep
  refine wpAny_bind (wpAny_newList ?_ (by rw [gotL]; rw [sizeLine_eq] at line; exact line))
  have isl : (h1.push (seqObj "list" got.toList.toArray 0)).get? h1.objs.size = some (seqObj "list" got.toList.toArray 0) := Heap.get?_push_size _ rfl
  change wpAny _ _ _ _ _ { st with heap := h1.push (seqObj "list" got.toList.toArray 0), toks := t1 }
  refine wpAny_bind (wpAny_holding (wpAny_call_entry slot_list_sort ⟨_, isl, rfl⟩ entry_list_sort (list_sort_treeKAny (s := { st with heap := h1.push (seqObj "list" got.toList.toArray 0), toks := t1 }) strKind_oneLt isl texts.keysOf
    (fun a b c eq => keyKind_strs (by rw [← eq]; exact texts)) (by rw [gotL]; exact line) fun st2 pm so => ⟨_, rfl, ?_⟩) (args_list_sort _)))
  obtain ⟨ys, y1, y2, y3⟩ := sorted_out_str texts pm so
  obtain ⟨ep2, at2⟩ := sortedHeap_at (vs := got.toList) (out := (arrOf st2).map (·.2)) isl
  have ylen : (ys.map V.str).length ≤ sizeLine := by rw [List.length_map, y2.length_eq]; exact line
  have laid := fun kept => J.laid (t' := t1) kept (Nat.le_refl h1.objs.size) (show ObjOk X.prog X.w _ _ _ (.lst (ys.map V.str)) from ⟨ylen, ((arrOf st2).map (·.2)).toList, ep2, vals_of_strs y1, by rw [Array.toArray_toList]; exact at2⟩)
  refine wpAny_pure ⟨_, rfl, .ref h1.objs.size, _, laid fun b u eb => ?_, rfl, fin ys _ y2 y3 (J.hok.fresh (Nat.le_refl _))⟩
  have small := Heap.lt_size eb
  rw [sortedHeap_old (Nat.ne_of_lt small) (by rw [size_push']; exact Nat.lt_succ_of_lt small)]
  exact Heap.get?_push_of_some _ eb
theorem lt_one (a b : Nat) : (([a] : List Nat) < [b]) ↔ a < b := by
  rw [List.cons_lt_cons_iff]
  simp
section
variable {H : Hp} {Q : VK} {d : Nat} {s : Str}
theorem x_leL (c : Nat) (e : s = ⟨#[c]⟩) (q : Q (.bl (decide (c ≤ d))) H) : rStr2 (fun i j => !decide (j.cps.toList < i.cps.toList)) (.str s) (.str ⟨#[d]⟩) H Q := by
  subst e
  refine ⟨_, _, rfl, rfl, ?_⟩
  have h : (!decide ((⟨#[d]⟩ : Str).cps.toList < (⟨#[c]⟩ : Str).cps.toList)) = decide (c ≤ d) := by
    show (!decide ([d] < [c])) = _
    rw [show decide (([d] : List Nat) < [c]) = decide (d < c) from decide_eq_decide.mpr (lt_one d c)]
    by_cases z : d < c
    · have : ¬ c ≤ d := by omega
      simp [z, this]
    · have : c ≤ d := by omega
      simp [z, this]
  dsimp only
  rw [h]
  exact q
theorem x_leR (c : Nat) (e : s = ⟨#[c]⟩) (q : Q (.bl (decide (d ≤ c))) H) : rStr2 (fun i j => !decide (j.cps.toList < i.cps.toList)) (.str ⟨#[d]⟩) (.str s) H Q := by
  subst e
  refine ⟨_, _, rfl, rfl, ?_⟩
  have h : (!decide ((⟨#[c]⟩ : Str).cps.toList < (⟨#[d]⟩ : Str).cps.toList)) = decide (d ≤ c) := by
    show (!decide ([c] < [d])) = _
    rw [show decide (([c] : List Nat) < [d]) = decide (c < d) from decide_eq_decide.mpr (lt_one c d)]
    by_cases z : c < d
    · have : ¬ d ≤ c := by omega
      simp [z, this]
    · have : d ≤ c := by omega
      simp [z, this]
  dsimp only
  rw [h]
  exact q
end
theorem chr_a : ("a" : Str) = ⟨#[97]⟩ := by decide +kernel
theorem chr_z : ("z" : Str) = ⟨#[122]⟩ := by decide +kernel
theorem chr_0 : ("0" : Str) = ⟨#[48]⟩ := by decide +kernel
theorem chr_9 : ("9" : Str) = ⟨#[57]⟩ := by decide +kernel
end Ox
namespace Ox
open PySem PySem.Spec PyProof.Rows L2
/-! ### dicts with text keys as association lists -/
theorem strK_look {α : Type} {f : α → V} (l : List (Str × α)) (z : Str) : valV (strK f l) (Sum.inr z : Key) = (l.lookup z).map f := by
  induction l with
  | nil => rfl
  | cons p r ih =>
    show valV ((Sum.inr p.1, f p.2) :: strK f r) (Sum.inr z : Key) = _
    unfold valV
    rw [List.find?_cons, List.lookup_cons]
    by_cases e : p.1 = z
    · subst e
      simp
    · have e1 : ¬ (Sum.inr p.1 : Key) = Sum.inr z := fun q => e (Sum.inr.inj q)
      have e2 : (z == p.1) = false := by simpa using fun q : z = p.1 => e q.symm
      rw [decide_eq_false e1, e2]
      exact ih
/-- a store -/
def putL {α : Type} (l : List (Str × α)) (z : Str) (x : α) : List (Str × α) := if z ∈ l.map (·.1) then l.map (fun p => if p.1 = z then (p.1, x) else p) else l ++ [(z, x)]
theorem putL_new {α : Type} {l : List (Str × α)} {z : Str} (x : α) (h : z ∉ l.map (·.1)) : putL l z x = l ++ [(z, x)] := by
  unfold putL
  rw [if_neg h]
theorem putL_keys {α : Type} {l : List (Str × α)} {z : Str} (x : α) (h : z ∈ l.map (·.1)) : (putL l z x).map (·.1) = l.map (·.1) := by
  unfold putL
  rw [if_pos h, List.map_map]
  refine List.map_congr_left fun p _ => ?_
  show (if p.1 = z then (p.1, x) else p).1 = p.1
  split <;> rfl
theorem putL_nd {α : Type} {l : List (Str × α)} {z : Str} (x : α) (h : (l.map (·.1)).Nodup) : ((putL l z x).map (·.1)).Nodup := by
  by_cases e : z ∈ l.map (·.1)
  · rw [putL_keys x e]
    exact h
  · rw [putL_new x e, List.map_append]
    exact List.nodup_append.mpr ⟨h, by simp, fun a ha b hb q => by
      rw [List.map_cons, List.map_nil, List.mem_singleton] at hb
      rw [q, hb] at ha
      exact e ha⟩
theorem putL_len {α : Type} (l : List (Str × α)) (z : Str) (x : α) : (putL l z x).length ≤ l.length + 1 := by
  unfold putL
  split <;> simp
theorem putL_mem {α : Type} {l : List (Str × α)} {z : Str} {x : α} {p : Str × α} (h : p ∈ putL l z x) : p = (z, x) ∨ (p ∈ l ∧ p.1 ≠ z) := by
  unfold putL at h
  by_cases e : z ∈ l.map (·.1)
  · rw [if_pos e] at h
    obtain ⟨q, hq, e2⟩ := List.mem_map.mp h
    by_cases eq : q.1 = z
    · rw [if_pos eq, eq] at e2
      exact .inl e2.symm
    · rw [if_neg eq] at e2
      rw [← e2]
      exact .inr ⟨hq, eq⟩
  · rw [if_neg e] at h
    rcases List.mem_append.mp h with h | h
    · exact .inr ⟨h, fun q => e (by rw [← q]; exact List.mem_map.mpr ⟨p, h, rfl⟩)⟩
    · exact .inl (List.mem_singleton.mp h)
theorem strK_put {α : Type} {f : α → V} (l : List (Str × α)) (z : Str) (x : α) : putK (strK f l) (Sum.inr z : Key) (f x) = strK f (putL l z x) := by
  have ha : ((strK f l).any fun kv => decide (kv.1 = (Sum.inr z : Key))) = decide (z ∈ l.map (·.1)) := by
    induction l with
    | nil => rfl
    | cons p r ih =>
      show ((decide ((Sum.inr p.1 : Key) = Sum.inr z)) || ((strK f r).any fun kv => decide (kv.1 = (Sum.inr z : Key)))) = decide (z ∈ p.1 :: r.map (·.1))
      rw [ih]
      by_cases e : p.1 = z
      · simp [e]
      · have e2 : ¬ z = p.1 := fun q => e q.symm
        simp [e, e2]
  unfold putK putL
  rw [ha]
  by_cases e : z ∈ l.map (·.1)
  · rw [if_pos (decide_eq_true e), if_pos e]
    show (List.map _ (List.map _ l)) = List.map _ (List.map _ l)
    rw [List.map_map, List.map_map]
    refine List.map_congr_left fun p _ => ?_
    show (if (Sum.inr p.1 : Key) = Sum.inr z then ((Sum.inr p.1 : Key), f x) else (Sum.inr p.1, f p.2)) = ((Sum.inr (if p.1 = z then (p.1, x) else p).1 : Key), f (if p.1 = z then (p.1, x) else p).2)
    by_cases h : p.1 = z
    · rw [if_pos h, if_pos (by rw [h])]
    · rw [if_neg h, if_neg (fun q => h (Sum.inr.inj q))]
  · rw [if_neg (by simp only [decide_eq_true_eq]; exact e), if_neg e]
    exact (List.map_append (l₁ := l) (l₂ := [(z, x)]) (f := fun p : Str × α => ((Sum.inr p.1 : Key), f p.2))).symm
theorem lookup_mem {α : Type} {l : List (Str × α)} {z : Str} {x : α} (h : l.lookup z = some x) : (z, x) ∈ l := by
  induction l with
  | nil => cases h
  | cons p r ih =>
    rw [List.lookup_cons] at h
    by_cases e : z = p.1
    · subst e
      rw [beq_self_eq_true] at h
      cases h
      exact List.mem_cons_self
    · have e2 : (z == p.1) = false := by simpa using e
      rw [e2] at h
      exact List.mem_cons_of_mem _ (ih h)
theorem lookup_of {α : Type} {l : List (Str × α)} (hn : (l.map (·.1)).Nodup) {z : Str} {x : α} (h : (z, x) ∈ l) : l.lookup z = some x := by
  induction l with
  | nil => cases h
  | cons p r ih =>
    obtain ⟨h1, h2⟩ := List.nodup_cons.mp (show (p.1 :: r.map (·.1)).Nodup from hn)
    rw [List.lookup_cons]
    rcases List.mem_cons.mp h with e | h
    · rw [← e]
      simp
    · have ne : ¬ z = p.1 := fun q => h1 (by rw [← q]; exact List.mem_map.mpr ⟨(z, x), h, rfl⟩)
      have e2 : (z == p.1) = false := by simpa using ne
      rw [e2]
      exact ih h2 h
theorem lookup_isSome {α : Type} {l : List (Str × α)} {z : Str} (h : z ∈ l.map (·.1)) : ∃ x, l.lookup z = some x := by
  induction l with
  | nil => cases h
  | cons p r ih =>
    rw [List.lookup_cons]
    by_cases e : z = p.1
    · subst e
      exact ⟨p.2, by simp⟩
    · have e2 : (z == p.1) = false := by simpa using e
      rw [e2]
      exact ih ((List.mem_cons.mp h).resolve_left e)
theorem lookup_none {α : Type} {l : List (Str × α)} {z : Str} (h : z ∉ l.map (·.1)) : l.lookup z = none := by
  cases e : l.lookup z with
  | none => rfl
  | some x => exact absurd (List.mem_map.mpr ⟨_, lookup_mem e, rfl⟩) h
theorem lookup_perm {α : Type} {l l' : List (Str × α)} (hp : l'.Perm l) (hn : (l.map (·.1)).Nodup) (z : Str) : l'.lookup z = l.lookup z := by
  have hn' : (l'.map (·.1)).Nodup := (List.Perm.nodup_iff (hp.map _)).mpr hn
  cases e : l.lookup z with
  | some x => exact lookup_of hn' (hp.mem_iff.mpr (lookup_mem e))
  | none =>
    cases e2 : l'.lookup z with
    | none => rfl
    | some x =>
      have := lookup_of hn (hp.mem_iff.mp (lookup_mem e2))
      rw [e] at this
      cases this
/-- the same table, its keys in another order -/
theorem table_perm {α : Type} {l : List (Str × α)} {ys : List Str} (hn : (l.map (·.1)).Nodup) (hp : ys.Perm (l.map (·.1))) (d : α) : (ys.map fun z => (z, (l.lookup z).getD d)).Perm l := by
  have h1 := hp.map fun z => (z, (l.lookup z).getD d)
  have h2 : (l.map (·.1)).map (fun z => (z, (l.lookup z).getD d)) = l := by
    rw [List.map_map]
    conv => rhs; rw [← List.map_id l]
    refine List.map_congr_left fun p hp => ?_
    show (p.1, (l.lookup p.1).getD d) = p
    rw [lookup_of hn (z := p.1) (x := p.2) hp]
    rfl
  rw [h2] at h1
  exact h1
section
variable {σ : L2.St} {H : Hp} {n : L2.St → Hp → Prop} {r : VK} {b c : L2.St → Hp → Prop} {ta tv : TE} {K : PySem.W.Frag}
def rSfA (K : PySem.W.Frag) (f : Str) (x y : V) (H : Hp) (N : Hp → Prop) : Prop := ∃ a C dx fs, x = .ref a ∧ H a = some (.ins C dx fs) ∧ Cls K C ∧ NoAttr K C f ∧ fs.length < 1000 ∧ N (upd H a (.ins C dx (putF f y fs)))
theorem x_sfld {f : Str} (h : tv σ H fun y H1 => ta σ H1 fun x H2 => rSfA K f x y H2 fun H3 => n σ H3) : sFld K ta tv f ⟨n, r, b, c⟩ σ H := h
theorem x_sf {a C dx : Addr} {fs : List (Str × V)} {f : Str} {y : V} {N : Hp → Prop} (hc : Cls K C) (hn : NoAttr K C f) (h : H a = some (.ins C dx fs)) (hl : fs.length < 1000) (q : N (upd H a (.ins C dx (putF f y fs)))) : rSfA K f (.ref a) y H N :=
  ⟨a, C, dx, fs, rfl, h, hc, hn, hl, q⟩
end
end Ox
namespace Ox
open PySem PySem.Spec PyProof.Rows L2
/-! ### rules with the written part told by a letter (for a comprehension's block) -/
section
variable {X : Cx} {K : PySem.W.Frag}
theorem ix_listK (e : X.K = K := by rfl) : IxR X (rIxL K) := e ▸ ix_list
theorem ix_tupK (e : X.K = K := by rfl) : IxR X (rIxT K) := e ▸ ix_tup
theorem call_lenAK (e : X.K = K := by rfl) : CallR X (.builtin "len") (rLenA K) := e ▸ call_lenA
theorem op_in_seqK (e : X.K = K := by rfl) : OpR X (compareOp .In) (rIn K false) := e ▸ op_in_seq
theorem op_notIn_seqK (e : X.K = K := by rfl) : OpR X (compareOp .NotIn) (rIn K true) := e ▸ op_notIn_seq
theorem call_isiK (e : X.K = K := by rfl) : CallR X (.builtin "isinstance") (rIsi K) := e ▸ call_isi
theorem call_listAK (e : X.K = K := by rfl) : CallR X (.type "list") (rListA K) := e ▸ call_listA
theorem call_tupleAK (e : X.K = K := by rfl) : CallR X (.type "tuple") (rTupleA K) := e ▸ call_tupleA
theorem sl_listK (e : X.K = K := by rfl) : SlR X (rSlL K) := e ▸ sl_list
theorem pe_fldK {o : Expr} {f : Str} {pos : Pos} {ta : TE} (he : PE X o ta) (hb : attributeBase o f X.env (eval o X.env) = eval o X.env) (e : X.K = K := by rfl) : PE X (.Attribute o f pos) (tFld K ta f) := e ▸ pe_fld he hb
end
end Ox
namespace Ox
open PySem PySem.Spec PyProof.Rows L2
theorem pg_tupK {X : Cx} {K : PySem.W.Frag} {es : List Expr} {k : Nat} {pos : Pos} {t : TGs} {n : Nat} (hc : X.calm = true) (h : PGs X es t) (hn : (assignEach es X.env).length = n := by rfl) (hst : (assignEach es X.env).findIdx? (·.1) = none := by rfl)
    (e : X.K = K := by rfl) : PG X (.Tuple es k pos) (gTup K n t) := e ▸ pg_tup hc h hn hst
end Ox
namespace Ox
open PySem PySem.Spec PyProof.Rows L2
theorem putL_old {α : Type} {l : List (Str × α)} {z : Str} (x : α) (h : z ∈ l.map (·.1)) : putL l z x = l.map fun p => if p.1 = z then (p.1, x) else p := by
  unfold putL
  rw [if_pos h]
theorem putL_putL {α : Type} (l : List (Str × α)) (z : Str) (a b : α) : putL (putL l z a) z b = putL l z b := by
  by_cases e : z ∈ l.map (·.1)
  · have e2 : z ∈ (putL l z a).map (·.1) := by rw [putL_keys a e]; exact e
    rw [putL_old b e2, putL_old b e, putL_old a e, List.map_map]
    refine List.map_congr_left fun p _ => ?_
    show (if (if p.1 = z then (p.1, a) else p).1 = z then ((if p.1 = z then (p.1, a) else p).1, b) else (if p.1 = z then (p.1, a) else p)) = _
    by_cases h : p.1 = z
    · simp [h]
    · simp [h]
  · have e2 : z ∈ (putL l z a).map (·.1) := by rw [putL_new a e]; simp
    rw [putL_old b e2, putL_new a e, putL_new b e, List.map_append]
    have h4 : (l.map fun p => if p.1 = z then (p.1, b) else p) = l := by
      conv => rhs; rw [← List.map_id l]
      refine List.map_congr_left fun p hp => ?_
      have : ¬ p.1 = z := fun q => e (by rw [← q]; exact List.mem_map.mpr ⟨p, hp, rfl⟩)
      rw [if_neg this]
      rfl
    rw [h4]
    simp
end Ox

/-! Own layer, second part: list(d.values()), kinds of values, own classes. -/
namespace Ox
open PySem PySem.Spec PyProof.Rows L2
/-! ### list(d.values()), list(d) -/
def rListVA (x : V) (H : Hp) (Q : VK) : Prop := ∃ (d : Addr) (kvs : List (Key × V)), x = .ref d ∧ Rd H d (.dK kvs) ∧ ∀ p, H p = none → Q (.ref p) (upd H p (.lst (kvs.map Prod.snd)))
def tListVA (te : TE) : TE := fun σ H Q => te σ H fun x H1 => rListVA x H1 Q
section
variable {X : Cx} {e : Expr} {te : TE} {p apos cpos pos : Pos}
theorem pe_listV (hc : X.calm = true) (he : PE X e te) (hg : Gl X "list") (hm : X.mg "list" = none) (hv : bootBuiltins "list" = some (.type "list") := by decide +kernel)
    (hbase : attributeBase e "values" X.env (eval e X.env) = eval e X.env := by rfl)
    (hline : (apos.endLine == cpos.line) = true := by rfl)
    (hs : starEach [.Call (.Attribute e "values" apos) [] [] cpos] X.env = (false, eval (.Call (.Attribute e "values" apos) [] [] cpos) X.env) :: starEach [] X.env := by rfl) :
    PE X (.Call (.Name "list" p) [.Call (.Attribute e "values" apos) [] [] cpos] [] pos) (tListVA te) := ⟨fun pins s σ H Q I hq => by
  refine wpAny_Call_Name_kw (ld_blt I hg hm hv (PyProof.Rows.callWith_type1 ?_ hs rfl))
  rw [hs]
  show wpAny _ _ (spliced ((false, eval (.Call (.Attribute e "values" apos) [] [] cpos) X.env) :: backTo pos (starEach [] X.env))) _ _ _
  refine Calls.spliced_cons (wpAny_Call_method (T := "dict") (id := "dict.values") hbase rfl hline F.plainAttrs_dict F.slot_dict_values F.type_dict_values ?_)
  refine thn (he.run pins s σ H _ I hq) fun u s1 ⟨x, H1, I1, rx, d, kvs, ex, hd, q⟩ => ?_
  subst ex
  obtain rfl : u = Value.ref d := rx
  obtain ⟨hz, hs0, ws, kv, hdo⟩ := (show ObjOk X.prog X.w H1 s1.heap d (.dK kvs) from hd.ok I1.hok)
  obtain ⟨ep, hat⟩ := hdo.dictAt
  have lk : kvs.length = ws.length := Paired.length kv
  have I2 : Inv X pins σ H1 { s1 with heap := s1.heap.push { cls := .type "dict_values", data := .fields #[.ref d] } } := I1.kept fun b ob q => Heap.get?_push_of_some _ q
  refine ⟨hdo.typeIs, hdo.mapOf.noDict, ?_⟩
  show wpAny _ _ (callWith cpos (.builtin "dict.values") [.ref d] [] []) _ X.xe s1
  refine method_meetsIn F.slot_dict_values F.entry_dict_values rfl (PySem.evalArgs_none ⟨rfl, hdo.typeIs, F.args_dict_values_1 _, _, meets_dict_values (mixKind X.prog X.w) d hs0, ⟨ws, hdo⟩, Calls.spliced_nil ?_⟩)
  refine PySem.W.kdl_call (PySem.W.kdl_values (knd := mixKind X.prog X.w) (kvs := ws) (ep := ep)) (I1.ok.hd hc) ⟨⟨_, Heap.get?_push_size _ rfl, rfl, rfl⟩, hat.push _⟩ (by omega) fun h' tk acc c hk hS hacc => ?_
  refine ⟨.ref _, upd H1 _ (.lst (kvs.map Prod.snd)), I2.laid hk (Nat.le_refl _) (show ObjOk X.prog X.w _ _ _ (.lst (kvs.map Prod.snd)) from ⟨by rw [List.length_map]; exact hz, acc.toList, c, ?_, by rw [Array.toArray_toList]; exact hS⟩), rfl, q _ (I2.hok.fresh (Nat.le_refl _))⟩
  have el : acc.toList.length = acc.size := by simp
  refine vals_of_at (by rw [List.length_map, el, hacc.1, lk]) fun j x w h1 h2 => ?_
  obtain ⟨k, hky⟩ := hacc.2 j w (by rw [← Array.getElem?_toList]; exact h2)
  rw [List.getElem?_map] at h1
  cases e2 : kvs[j]? with
  | none => rw [e2] at h1; cases h1
  | some kvj =>
    rw [e2] at h1
    have h3 : kvj.2 = x := Option.some.inj h1
    obtain ⟨y, hy, _, ry⟩ := LiI.paired_get kv e2
    rw [hky] at hy
    cases hy
    rw [← h3]
    exact ry⟩
end
theorem x_listV {σ : L2.St} {H : Hp} {Q : VK} {te : TE} (h : te σ H fun x H1 => rListVA x H1 Q) : tListVA te σ H Q := h
theorem x_listv {H : Hp} {Q : VK} {d : Addr} {kvs : List (Key × V)} (h : Rd H d (.dK kvs)) (q : ∀ p, H p = none → Q (.ref p) (upd H p (.lst (kvs.map Prod.snd)))) : rListVA (.ref d) H Q := ⟨d, kvs, rfl, h, q⟩
theorem x_listD {H : Hp} {Q : VK} {d : Addr} {kvs : List (Key × V)} (h : H d = some (.dK kvs)) (q : ∀ p, H p = none → Q (.ref p) (upd H p (.lst (kvs.map fun kv => kV kv.1)))) : rListD [.ref d] H Q := ⟨d, kvs, rfl, h, q⟩
/-! ### kinds of values -/
inductive Kn where
  | non | bl | int | str | lst | tup | dict
  deriving DecidableEq
def Kn.ty : Kn → String
  | .non => "NoneType" | .bl => "bool" | .int => "int" | .str => "str" | .lst => "list" | .tup => "tuple" | .dict => "dict"
/-- x is of the kind -/
inductive Kd (K : PySem.W.Frag) (H : Hp) : V → Kn → Prop where
  | non : Kd K H .non .non
  | bl (b : Bool) : Kd K H (.bl b) .bl
  | int (i : Int) : Kd K H (.int i) .int
  | str (z : Str) : Kd K H (.str z) .str
  | lst {a : Addr} {xs : List V} (h : SqL K H a xs) : Kd K H (.ref a) .lst
  | tup {a : Addr} {xs : List V} (h : SqT K H a xs) : Kd K H (.ref a) .tup
  | dict {a : Addr} {kvs : List (Key × V)} (h : Rd H a (.dK kvs)) : Kd K H (.ref a) .dict
theorem Kd.tyx {K : PySem.W.Frag} {H : Hp} {x : V} {k : Kn} (h : Kd K H x k) : TyX K H x (.type k.ty) := by
  cases h with
  | non => exact .base .non
  | bl b => exact .base (.bl b)
  | int i => exact .base (.int i)
  | str z => exact .base (.str z)
  | lst h =>
    rcases h with (h | ⟨o, h⟩) | ⟨o, its, n, h1, h2, _⟩
    · exact .base (.lst h)
    · exact .base (.frz h)
    · exact .kList h1 h2
  | tup h =>
    rcases h with (h | ⟨o, h⟩) | ⟨o, its, n, h1, h2, _⟩
    · exact .base (.tup h)
    · exact .fTuple h
    · exact .kTuple h1 h2
  | dict h =>
    rcases h with h | ⟨o, h⟩
    · exact .base (.dK h)
    · exact .fDict h
def isB : Kn → Kn → Bool
  | .non, .non => true | .bl, .bl => true | .bl, .int => true | .int, .int => true | .str, .str => true | .lst, .lst => true | .tup, .tup => true | .dict, .dict => true
  | _, _ => false
theorem kitB_is : ∀ k T : Kn, T ≠ .non → kitB k.ty T.ty = some (isB k T) := by
  intro k T hT
  cases T with
  | non => exact absurd rfl hT
  | _ => cases k <;> decide +kernel
section
variable {K : PySem.W.Frag} {H : Hp} {Q : VK} {x : V} {k : Kn}
theorem x_isi (T : Kn) (h : Kd K H x k) (q : Q (.bl (isB k T)) H) (hT : T ≠ .non := by decide) : rIsi K [x, .ty T.ty] H Q := ⟨x, _, _, _, _, rfl, .ty _, h.tyx, kit_ty (kitB_is k T hT), q⟩
theorem x_isiInt (h : Kd K H x k) (q : Q (.bl (isB k .int)) H) : rIsi K [x, .ty "int"] H Q := x_isi .int h q
theorem x_isiBool (h : Kd K H x k) (q : Q (.bl (isB k .bl)) H) : rIsi K [x, .ty "bool"] H Q := x_isi .bl h q
theorem x_isiStr (h : Kd K H x k) (q : Q (.bl (isB k .str)) H) : rIsi K [x, .ty "str"] H Q := x_isi .str h q
theorem x_isiList (h : Kd K H x k) (q : Q (.bl (isB k .lst)) H) : rIsi K [x, .ty "list"] H Q := x_isi .lst h q
theorem x_isiTup (h : Kd K H x k) (q : Q (.bl (isB k .tup)) H) : rIsi K [x, .ty "tuple"] H Q := x_isi .tup h q
theorem x_isiDict (h : Kd K H x k) (q : Q (.bl (isB k .dict)) H) : rIsi K [x, .ty "dict"] H Q := x_isi .dict h q
end
/-! ### own classes: isinstance -/
/-- the class at C: what isinstance asks of it -/
structure Isc (K : PySem.W.Frag) (C : Addr) : Prop where
  cl : Cls K C
  ha : PySem.W.findIn K (.ref C) "__class__" = some (some (.builtin "object.__class__"))
  hn : PySem.W.specialIn K (.builtin "object.__class__") "__get__" = some (some (.builtin "getset_descriptor.__get__"))
  ht : PySem.W.takesIn K (.builtin "object.__class__") = some true
  hm : PySem.W.mroIn K C (.type "object") = some true
theorem x_isiOwn {K : PySem.W.Frag} {H : Hp} {Q : VK} {a C D dx : Addr} {fs : List (Str × V)} {b : Bool} (i : Isc K C) (h : H a = some (.ins C dx fs)) (hk : PySem.W.kitOne K (.ref C) (.ref D) = some b) (q : Q (.bl b) H) : rIsi K [.ref a, .ref D] H Q :=
  ⟨_, _, _, _, _, rfl, .own D, .base (.ins h i.cl i.ha i.hn i.ht i.hm), hk, q⟩
def iscB (C : Str) : PySem.W.Frag → Bool := fun K => (He.Fa.cls C).ok K && (He.eqO (PySem.W.findIn K (.ref (He.ga K C)) "__class__") (some (some (.builtin "object.__class__"))) && (He.eqO (PySem.W.specialIn K (.builtin "object.__class__") "__get__") (some (some (.builtin "getset_descriptor.__get__"))) &&
  (decide (PySem.W.takesIn K (.builtin "object.__class__") = some true) && decide (PySem.W.mroIn K (He.ga K C) (.type "object") = some true))))
theorem iscB_ok {C : Str} {K : PySem.W.Frag} (h : iscB C K = true) : Isc K (He.ga K C) := by
  obtain ⟨h1, h⟩ := Bool.and_eq_true_iff.mp h
  obtain ⟨h2, h⟩ := Bool.and_eq_true_iff.mp h
  obtain ⟨h3, h⟩ := Bool.and_eq_true_iff.mp h
  obtain ⟨h4, h5⟩ := Bool.and_eq_true_iff.mp h
  exact ⟨He.cls_ok h1, He.eqO_ok h2, He.eqO_ok h3, of_decide_eq_true h4, of_decide_eq_true h5⟩
/-- kitOne between own classes, told as a fact -/
def kitF (C D : Str) (b : Bool) : PySem.W.Frag → Bool := fun K => decide (PySem.W.kitOne K (.ref (He.ga K C)) (.ref (He.ga K D)) = some b)
theorem kitF_ok {C D : Str} {b : Bool} {K : PySem.W.Frag} (h : kitF C D b K = true) : PySem.W.kitOne K (.ref (He.ga K C)) (.ref (He.ga K D)) = some b := of_decide_eq_true h
end Ox
namespace Ox
open PySem PySem.Spec PyProof.Rows L2
/-! ### == by an own __eq__, any answer -/
def rEqOwn (C : Addr) (sp : Sp) : R2 := fun x y H Q => ∃ a b dx dy fs gs, x = .ref a ∧ y = .ref b ∧ H a = some (.ins C dx fs) ∧ H b = some (.ins C dy gs) ∧ sp [.ref a, .ref b] H (fun v H' => ∃ k, v = .bl k ∧ Q (.bl k) H') E0
theorem op_eqOwn {X : Cx} {C : Addr} {k : Nat} {sp : Sp} {ps : List Str} (M : Met X.prog X.w X.K X.mg X.base C k "__eq__" ps sp) (hr : Room k X.A) : OpR X (compareOp .Eq) (rEqOwn C sp) := by
  obtain ⟨f, fd, mt, F, hb⟩ := M.ex
  intro pins s σ H x y u v Q I rx ry h
  obtain ⟨a, b, dx, dy, fs, gs, rfl, rfl, ha, hb2, hsp⟩ := h
  cases rx
  cases ry
  obtain ⟨mA, J, _⟩ := ins_get I.hok ha
  obtain ⟨mB, J2, _⟩ := ins_get I.hok hb2
  obtain ⟨od, J, _⟩ := J.look
  obtain ⟨od2, J2, _⟩ := J2.look
  obtain ⟨m, hF⟩ := I.fr
  show wpAny (model X.prog X.w) X.A (richCompare .Eq (.ref a) (.ref b)) (EP X pins σ Q) X.xe s
  refine PySem.W.cmp_K (op := .Eq) (tb := .ref C) hr.units0 hF I.ok.mod.kin J J2.type (by simp [PySem.W.notFirst]) mt.at_ mt.fn ?_
  have hl := F.len _ _ _ _ hsp
  have r2 : Vals [V.ref a, V.ref b] [Value.ref a, Value.ref b] := .cons rfl (.cons rfl .nil)
  refine wpAny_call (codeAny_mono (F.run X.A X.stack s H ⟨[.ref a, .ref b], []⟩ [.ref a, .ref b] [.ref a, .ref b] _ E0 hr I.env0 (by
    have := hb s [.ref a, .ref b] I.kIn (by simpa using hl)
    simpa using this) r2 hsp) fun r s' hq => ?_)
  cases r with
  | error e => exact hq.elim
  | ok fl =>
    cases fl with
    | ret w =>
      obtain ⟨z, H', I', rz, kk, ez, q⟩ := I.after hq
      subst ez
      cases rz
      exact ⟨.bl kk, H', I', rfl, q⟩
    | next => exact False.elim hq
    | brk => exact False.elim hq
    | cont => exact False.elim hq
theorem x_eqOwn {C : Addr} {sp : Sp} {H : Hp} {Q : VK} {a b dx dy : Addr} {fs gs : List (Str × V)} (ha : H a = some (.ins C dx fs)) (hb : H b = some (.ins C dy gs)) (h : sp [.ref a, .ref b] H (fun v H' => ∃ k, v = .bl k ∧ Q (.bl k) H') E0) : rEqOwn C sp (.ref a) (.ref b) H Q :=
  ⟨a, b, dx, dy, fs, gs, rfl, rfl, ha, hb, h⟩
end Ox
namespace Ox
open PySem PySem.Spec PyProof.Rows L2
theorem Kd.same {K : PySem.W.Frag} {H H' : Hp} {x : V} {k : Kn} (s : L2.Same H H') (h : Kd K H x k) : Kd K H' x k := by
  cases h with
  | non => exact .non
  | bl b => exact .bl b
  | int i => exact .int i
  | str z => exact .str z
  | lst h => exact .lst (s.seq h)
  | tup h => exact .tup (same_t s h)
  | dict h => exact .dict (same_rd s h)
/-- .. where one dict is held -/
theorem Kd.held {K : PySem.W.Frag} {H : Hp} {x : V} {k : Kn} {d : Addr} {o : Obj} {kvs : List (Key × V)} (hd : H d = some (.dK kvs)) (h : Kd K H x k) : Kd K (upd H d (.frz o (.dK kvs))) x k := by
  have rd : ∀ {a u}, Rd H a u → Rd (upd H d (.frz o (.dK kvs))) a u := fun {a u} h => by
    by_cases e : a = d
    · subst e
      rcases h with h | ⟨o', h⟩
      · rw [hd] at h
        cases h
        exact .inr ⟨o, upd_same⟩
      · rw [hd] at h
        cases h
    · rcases h with h | ⟨o', h⟩
      · exact .inl (by rw [upd_ne e]; exact h)
      · exact .inr ⟨o', by rw [upd_ne e]; exact h⟩
  cases h with
  | non => exact .non
  | bl b => exact .bl b
  | int i => exact .int i
  | str z => exact .str z
  | lst h => exact .lst (h.elim (fun h => .inl (rd h)) .inr)
  | tup h => exact .tup (h.elim (fun h => .inl (rd h)) .inr)
  | dict h => exact .dict (rd h)
end Ox
namespace Ox
open PySem PySem.Spec PyProof.Rows L2
section
variable {σ : L2.St} {H : Hp} {Q : VK} {ta : TE} {K : PySem.W.Frag} {C : Addr} {sp : Sp}
def rRevA (K : PySem.W.Frag) (x : V) (H : Hp) (Q : VK) : Prop := ∃ a xs, x = .ref a ∧ SqL K H a xs ∧ ∀ p, H p = none → Q (.ref p) (upd H p (.lst xs.reverse))
theorem x_revL (h : ta σ H fun x H1 => rRevA K x H1 Q) : tRevL K ta σ H Q := h
theorem x_rev {a : Addr} {xs : List V} (h : SqL K H a xs) (q : ∀ p, H p = none → Q (.ref p) (upd H p (.lst xs.reverse))) : rRevA K (.ref a) H Q := ⟨a, xs, rfl, h, q⟩
def rPropA (C : Addr) (sp : Sp) (x : V) (H : Hp) (Q : VK) : Prop := ∃ a dx fs, x = .ref a ∧ H a = some (.ins C dx fs) ∧ sp [.ref a] H Q E0
theorem x_prop (h : ta σ H fun x H1 => rPropA C sp x H1 Q) : tProp C sp [] E0 ta σ H Q := h
theorem x_prp {a dx : Addr} {fs : List (Str × V)} (h : H a = some (.ins C dx fs)) (q : sp [.ref a] H Q E0) : rPropA C sp (.ref a) H Q := ⟨a, dx, fs, rfl, h, q⟩
theorem x_putL {α : Type} {f : α → V} {l : List (Str × α)} {z : Str} {x : α} {v : V} {p : Addr} {N : Hp → Prop} (h : H p = some (.dK (strK f l))) (hl : l.length < 10000) (hv : v = f x) (q : N (upd H p (.dK (strK f (putL l z x))))) : rDputA (.ref p) (.str z) v H N := by
  subst hv
  refine x_putS h (sz_lt (by rw [List.length_map]; exact hl)) ?_
  rw [strK_put]
  exact q
theorem x_getL {α : Type} {f : α → V} {l : List (Str × α)} {z : Str} {x : α} {p : Addr} (h : Rd H p (.dK (strK f l))) (e : l.lookup z = some x) (q : Q (f x) H) : rGetA (.ref p) (.str z) H Q :=
  x_getS h (by rw [strK_look, e]; rfl) q
theorem x_inD {α : Type} {f : α → V} {l : List (Str × α)} {z : Str} {p : Addr} (h : Rd H p (.dK (strK f l))) (q : Q (.bl (l.lookup z).isSome) H) : rDinA (.str z) (.ref p) H Q := by
  refine x_dinS h ?_
  rw [strK_look, Option.isSome_map]
  exact q
theorem x_ninD {α : Type} {f : α → V} {l : List (Str × α)} {z : Str} {p : Addr} (h : Rd H p (.dK (strK f l))) (q : Q (.bl (!(l.lookup z).isSome)) H) : rDninA (.str z) (.ref p) H Q := by
  refine x_dninS h ?_
  rw [strK_look, Option.isSome_map]
  exact q
end
end Ox
namespace Ox
open PySem PySem.Spec PyProof.Rows L2
/-- a dict was held, then set free -/
theorem same_back {H H' : Hp} {d : Addr} {o : Obj} {u : HO} (hd : H d = some u) (s : L2.Same (upd H d (.frz o u)) H') : L2.Same H (upd H' d u) := fun b x e => by
  by_cases hb : b = d
  · subst hb
    rw [hd] at e
    rw [upd_same, e]
  · rw [upd_ne hb]
    exact s b x (by rw [upd_ne hb]; exact e)
theorem rd_held {H : Hp} {d n : Addr} {o : Obj} {u x : HO} (hn : n ≠ d) (h : Rd H n x) : Rd (upd H d (.frz o u)) n x := by
  rcases h with h | ⟨o', h⟩
  · exact .inl (by rw [upd_ne hn]; exact h)
  · exact .inr ⟨o', by rw [upd_ne hn]; exact h⟩
theorem upd_id {H : Hp} {d : Addr} {u : HO} (h : H d = some u) : upd H d u = H := by
  funext b
  by_cases hb : b = d
  · subst hb; rw [upd_same, h]
  · rw [upd_ne hb]
/-! ### while x: -/
section
variable {tb : TS} {σ : L2.St} {H : Hp} {n : L2.St → Hp → Prop} {r : VK} {b k : L2.St → Hp → Prop} {i : Nat}
/-- W m: what holds ahead of the test, m goes down -/
theorem lpWv (W : Nat → L2.St → Hp → Prop) {m : Nat} (h0 : W m σ H) (hs : ∀ m σ H, W m σ H → ∃ z, σ[i]? = some (some (.bl z)) ∧
    if z = true then tb ⟨fun σ' H' => ∃ m', m' < m ∧ W m' σ' H', r, n, fun σ' H' => ∃ m', m' < m ∧ W m' σ' H'⟩ σ H else n σ H) : tWhile (tTest (tVar i)) tb ⟨n, r, b, k⟩ σ H := by
  refine ⟨W, ⟨m, h0⟩, fun m σ H h => ?_⟩
  obtain ⟨z, hz, q⟩ := hs m σ H h
  refine ⟨.bl z, hz, z, rfl, ?_⟩
  cases z with
  | true => exact ⟨fun σ' H' => ∃ m', m' < m ∧ W m' σ' H', fun _ _ h => h, q⟩
  | false => exact q
end
end Ox

/-! Own layer, third part: name = {k: v for ..}. -/
namespace Ox
open PySem PySem.Spec PyProof.Rows L2
section
variable {X : Cx}
theorem sw_trueD {kx vx : Expr} {gs : List Comprehension} {scope : Scope} {pos py : Pos} {y : Str} {l : Nat} {env : Env} (hk : env.scope.kind = .function) (hy : env.scope.names.lookup y = some .local) (hl : (py.line == pos.line) = true)
    (ha : (scope.names.any fun (n, k) => n == y && (k == .local || k == .cell)) = false) : swapsWith (.DictComp kx vx gs scope pos) (some (.Name y py)) l env = pure true := by
  have k1 : env.kindOf y = some .local := hy
  have k2 : env.blockKind = .function := by unfold Env.blockKind; rw [hk]; rfl
  unfold swapsWith; simp only [k2, k1, ha, Expr.pos, hl]; rfl
theorem ps_setDc {i : Nat} {y : Str} {py : Pos} {kx vx tg iter : Expr} {ifs : List Expr} {scope : Scope} {own : List (Str × Nat)} {pos spos : Pos} {wi : TI} {g : TG} {tt : TT} {tk tv : TE} (hc : X.calm = true) (hN : X.N.Nodup) (hy : X.N[i]? = some y) (hyl : X.env.scope.names.lookup y = some .local)
    (hsw : swapsWith (.DictComp kx vx [⟨tg, iter, ifs, 0⟩] scope pos) (some (.Name y py)) spos.line X.env = pure true) (hi : PI X tg iter wi) (ok : BlkOk X.N X.env.scope scope own)
    (hg : ∀ (s : Shared) (H : Hp) (C : Addr) (cl : List (Str × Addr)) (fp : List Addr), PG (X.blk s H scope (compEnvC scope cl C X.env) fp) tg g) (htt : ∀ (s : Shared) (H : Hp) (C : Addr) (cl : List (Str × Addr)) (fp : List Addr), PTs (X.blk s H scope (compEnvC scope cl C X.env) fp) ifs tt)
    (hkx : ∀ (s : Shared) (H : Hp) (C : Addr) (cl : List (Str × Addr)) (fp : List Addr), PE (X.blk s H scope (compEnvC scope cl C X.env) fp) kx tk) (hvx : ∀ (s : Shared) (H : Hp) (C : Addr) (cl : List (Str × Addr)) (fp : List Addr), PE (X.blk s H scope (compEnvC scope cl C X.env) fp) vx tv)
    (hs : ∀ x, foldedSetIterable iter X.env x = pure x := by intro _; rfl) :
    PS X (.Assign [.Name y py] (.DictComp kx vx [⟨tg, iter, ifs, 0⟩] scope pos) spos) (tAsg (tDc wi g tt tk tv (own.map (·.2))) (gName i)) := by
  constructor; intro pins s σ H D I h; rw [exec_Assign_Name_used _ _ _ _ hsw]; refine wpAny_bind (wpAny_standAt (wpAny_bind ?_))
  show wpAny _ X.A (do let _ ← comprehension (.DictComp kx vx [⟨tg, iter, ifs, 0⟩] scope pos) scope X.env (firstIterPos [⟨tg, iter, ifs, 0⟩] pos) newDict false (eval iter X.env) (some (assign (.Name y py) X.env))) _ _ s
  have h2 : tDc wi g tt tk tv (own.map (·.2)) σ H (fun x H1 => gName i x σ H1 D.nx) := h
  refine wpAny_bind (thn (dc_core (Qf := fun _ s' => SP X pins D .next s') hc hN I hi ok hg htt hkx hvx hs h2 fun L C s' m H' I' q hn f => ?_) fun _ s' hq => wpAny_pure (wpAny_pure hq))
  show wpAny _ _ (assign (.Name y py) X.env (.ref L)) _ _ _
  refine wpAny_assign_Name (store_ok2 (v := V.ref L) I' hN hy (.inl hyl) rfl (fun s2 I2 ⟨a, sb, ha⟩ => ?_) (.inr hyl)); obtain ⟨f0, f1, f2, f3, f4, f5⟩ := f
  have haC : C ≠ a := by rcases ha with z | z; (· rw [z]; exact f1); (· exact fun e => f4 y a z e.symm)
  refine ⟨m, hn.sameBut sb haC, fun h3 sb3 => ⟨_, H', I2.turned (t' := s2.toks) (fun b o hb e => (sb3.2 b hb).trans e) f0 f1 f3 f4 f5, q⟩⟩
end
end Ox
namespace Ox
open PySem PySem.Spec PyProof.Rows L2
/-! ### sorted texts: one order -/
theorem nlt_trans : ∀ a b c : List Nat, ltCps b a = false → ltCps c b = false → ltCps c a = false
  | [], _, [], _, _ => rfl
  | [], [], _ :: _, _, _ => rfl
  | [], _ :: _, _ :: _, _, _ => rfl
  | _ :: _, [], _, h, _ => by cases h
  | _ :: _, _ :: _, [], _, h => by cases h
  | a :: r, b :: t, c :: u, h1, h2 => by
    have e1 : (decide (b < a) || (b == a && ltCps t r)) = false := h1
    have e2 : (decide (c < b) || (c == b && ltCps u t)) = false := h2
    show (decide (c < a) || (c == a && ltCps u r)) = false
    rw [Bool.or_eq_false_iff, decide_eq_false_iff_not] at e1 e2 ⊢
    refine ⟨by omega, ?_⟩
    by_cases h : c = a
    · have hb : b = a := by omega
      have hc : c = b := by omega
      have f1 := e1.2
      have f2 := e2.2
      rw [hb, beq_self_eq_true, Bool.true_and] at f1
      rw [hc, beq_self_eq_true, Bool.true_and] at f2
      rw [nlt_trans r t u f1 f2, Bool.and_false]
    · rw [beq_eq_false_iff_ne.mpr h, Bool.false_and]
theorem nlt_anti : ∀ a b : List Nat, ltCps b a = false → ltCps a b = false → a = b
  | [], [], _, _ => rfl
  | [], _ :: _, _, h => by cases h
  | _ :: _, [], h, _ => by cases h
  | a :: r, b :: t, h1, h2 => by
    have e1 : (decide (b < a) || (b == a && ltCps t r)) = false := h1
    have e2 : (decide (a < b) || (a == b && ltCps r t)) = false := h2
    rw [Bool.or_eq_false_iff, decide_eq_false_iff_not] at e1 e2
    have hb : b = a := by omega
    subst hb
    have f1 := e1.2
    have f2 := e2.2
    rw [beq_self_eq_true, Bool.true_and] at f1 f2
    rw [nlt_anti r t f1 f2]
abbrev LeS (a b : Str) : Prop := ltCps b.cps.toList a.cps.toList = false
theorem rising_pw : ∀ (p : Str) (l : List Str), risingS p l = true → (p :: l).Pairwise LeS
  | p, [], _ => List.pairwise_singleton _ _
  | p, x :: r, h => by
    have h1 : (!ltCps x.cps.toList p.cps.toList && risingS x r) = true := h
    rw [Bool.and_eq_true, Bool.not_eq_true'] at h1
    have ih := rising_pw x r h1.2
    refine List.pairwise_cons.mpr ⟨fun y hy => ?_, ih⟩
    rcases List.mem_cons.mp hy with e | hy
    · subst e
      exact h1.1
    · exact nlt_trans _ _ _ h1.1 ((List.pairwise_cons.mp ih).1 y hy)
theorem sorted_pw {l : List Str} (h : sortedS l = true) : l.Pairwise LeS := by
  cases l with
  | nil => exact .nil
  | cons x r => exact rising_pw x r h
theorem str_ext {a b : Str} (h : a.cps.toList = b.cps.toList) : a = b := by
  cases a with
  | mk a =>
    cases b with
    | mk b =>
      have e : a = b := Array.toList_inj.mp h
      rw [e]
theorem sorted_one {l l' : List Str} (h : sortedS l = true) (h' : sortedS l' = true) (p : l.Perm l') : l = l' :=
  List.Perm.eq_of_pairwise (le := LeS) (fun a b _ _ h1 h2 => str_ext (nlt_anti _ _ h1 h2)) (sorted_pw h) (sorted_pw h') p
/-! ### a heap without one place -/
def wo (H : Hp) (a : Addr) : Hp := fun b => if b = a then none else H b
theorem wo_at {H : Hp} {a : Addr} : wo H a a = none := if_pos rfl
theorem wo_ne {H : Hp} {a b : Addr} (h : b ≠ a) : wo H a b = H b := if_neg h
theorem wo_same {H : Hp} {a : Addr} : L2.Same (wo H a) H := fun b o e => by
  by_cases h : b = a
  · subst h
    rw [wo_at] at e
    cases e
  · rw [wo_ne h] at e
    exact e
theorem wo_mono {H H' : Hp} {a : Addr} (s : L2.Same H H') : L2.Same (wo H a) (wo H' a) := fun b o e => by
  by_cases h : b = a
  · subst h
    rw [wo_at] at e
    cases e
  · rw [wo_ne h] at e ⊢
    exact s b o e
theorem wo_upd {H : Hp} {a : Addr} {u : HO} : wo (upd H a u) a = wo H a := by
  funext b
  by_cases h : b = a
  · subst h
    rw [wo_at, wo_at]
  · rw [wo_ne h, wo_ne h, upd_ne h]
theorem same_wo {H H' : Hp} {a : Addr} {u : HO} (s : L2.Same H H') : L2.Same (wo H a) (upd H' a u) := same_upd (wo_same.trans s) wo_at
theorem len_put {f : Str} {v : V} {fs : List (Str × V)} {k : Nat} (h : fs.length < k) : (putF f v fs).length < k + 1 := Nat.lt_of_le_of_lt (length_putF _ _ _) (Nat.succ_lt_succ h)
end Ox
namespace Ox
open PySem PySem.Spec PyProof.Rows L2
/-! ### slices -/
def rPartA (x : V) (H : Hp) (R : Option Int → Hp → Prop) : Prop := ∃ i, x = .int i ∧ R (some i) H
section
variable {σ : L2.St} {H : Hp} {Q : VK} {te : TE} {tl th : TO} {K : PySem.W.Frag} {R : Option Int → Hp → Prop}
theorem x_sl {r : V → Option Int → Option Int → Hp → VK → Prop} (h : te σ H fun x H1 => tl σ H1 fun l H2 => th σ H2 fun u H3 => r x l u H3 Q) : tSl r te tl th σ H Q := h
theorem x_nopart (h : R none H) : tNoPart σ H R := h
theorem x_part (h : te σ H fun x H1 => rPartA x H1 R) : tPart te σ H R := h
theorem x_parti {i : Int} (h : R (some i) H) : rPartA (.int i) H R := ⟨i, rfl, h⟩
theorem x_slL {p : Addr} {xs : List V} {lo hi : Option Int} (h : SqL K H p xs) (q : ∀ l, H l = none → Q (.ref l) (upd H l (.lst (cutV xs lo hi)))) : rSlL K (.ref p) lo hi H Q := ⟨p, xs, rfl, h, q⟩
theorem cut_from {xs : List V} {lo : Int} (h0 : 0 ≤ lo) (h1 : lo ≤ xs.length) : cutV xs (some lo) none = xs.drop lo.toNat := by
  obtain ⟨k, rfl⟩ : ∃ k : Nat, lo = (k : Int) := ⟨lo.toNat, by omega⟩
  unfold cutV
  rw [HT.sIx_nat, HT.sIx_none, Int.toNat_natCast]
  have hk : min k xs.length = k := by omega
  rw [hk]
  exact List.take_of_length_le (by rw [List.length_drop]; omega)
theorem cut_to {xs : List V} {hi : Int} (h0 : 0 ≤ hi) (h1 : hi ≤ xs.length) : cutV xs none (some hi) = xs.take hi.toNat := by
  obtain ⟨k, rfl⟩ : ∃ k : Nat, hi = (k : Int) := ⟨hi.toNat, by omega⟩
  unfold cutV
  rw [HT.sIx_nat, HT.sIx_none, Int.toNat_natCast]
  have hk : min k xs.length = k := by omega
  rw [hk]
  rfl
end
/-! ### a list of whole numbers, asked at a place -/
theorem pickI (L : List Int) {j : Int} (h0 : 0 ≤ j) (h1 : j < L.length) : ∃ g, (L.map V.int)[j.toNat]? = some (.int g) ∧ g ∈ L := by
  have hlt : j.toNat < L.length := by omega
  refine ⟨L[j.toNat], ?_, List.getElem_mem hlt⟩
  rw [List.getElem?_map, List.getElem?_eq_getElem hlt]
  rfl
theorem pickS (L : List Str) {j : Int} (h0 : 0 ≤ j) (h1 : j < L.length) : ∃ g, (L.map V.str)[j.toNat]? = some (.str g) ∧ L[j.toNat]? = some g := by
  have hlt : j.toNat < L.length := by omega
  refine ⟨L[j.toNat], ?_, List.getElem?_eq_getElem hlt⟩
  rw [List.getElem?_map, List.getElem?_eq_getElem hlt]
  rfl
/-! ### stores, asked again -/
theorem lookup_putL {α : Type} (l : List (Str × α)) (z : Str) (x : α) (y : Str) : (putL l z x).lookup y = if y = z then some x else l.lookup y := by
  by_cases hz : z ∈ l.map (·.1)
  · rw [putL_old x hz]
    have key : ∀ l : List (Str × α), (l.map fun p => if p.1 = z then (p.1, x) else p).lookup y = if y = z then (if z ∈ l.map (·.1) then some x else none) else l.lookup y := by
      intro l
      induction l with
      | nil => by_cases e : y = z <;> simp [e]
      | cons p r ih =>
        rw [List.map_cons, List.lookup_cons, List.lookup_cons, ih]
        by_cases ep : p.1 = z
        · rw [if_pos ep]
          by_cases e : y = z
          · have : (y == p.1) = true := by rw [e, ep]; exact beq_self_eq_true z
            simp [e, ep]
          · have : (y == p.1) = false := by rw [ep]; exact beq_eq_false_iff_ne.mpr e
            simp [e, this]
        · rw [if_neg ep]
          by_cases e : y = z
          · have h2 : (y == p.1) = false := by rw [e]; exact beq_eq_false_iff_ne.mpr fun q => ep q.symm
            have h3 : (z ∈ (p :: r).map (·.1)) ↔ z ∈ r.map (·.1) := by
              rw [List.map_cons, List.mem_cons]
              exact ⟨fun h => h.resolve_left fun q => ep q.symm, .inr⟩
            rw [h2]
            simp only [e, if_true]
            by_cases h4 : z ∈ r.map (·.1)
            · rw [if_pos h4, if_pos (h3.mpr h4)]
            · rw [if_neg h4, if_neg fun q => h4 (h3.mp q)]
          · simp only [e, if_false]
    rw [key l, if_pos hz]
  · rw [putL_new x hz, List.lookup_append]
    by_cases e : y = z
    · rw [if_pos e, e, lookup_none hz]
      simp
    · rw [if_neg e]
      cases hl : l.lookup y with
      | some v => rfl
      | none =>
        have e2 : (y == z) = false := beq_eq_false_iff_ne.mpr e
        simp [List.lookup, e2]
theorem putL_keys2 {α β : Type} {l : List (Str × α)} {m : List (Str × β)} (h : m.map (·.1) = l.map (·.1)) (z : Str) (x : α) (y : β) : (putL m z y).map (·.1) = (putL l z x).map (·.1) := by
  by_cases hz : z ∈ l.map (·.1)
  · rw [putL_keys x hz, putL_keys y (by rw [h]; exact hz), h]
  · rw [putL_new x hz, putL_new y (by rw [h]; exact hz), List.map_append, List.map_append, h]
    rfl
theorem putL_pos {α : Type} (l : List (Str × α)) (z : Str) (x : α) : 1 ≤ (putL l z x).length := by
  by_cases hz : z ∈ l.map (·.1)
  · rw [putL_old x hz, List.length_map]
    cases l with
    | nil => cases hz
    | cons p r => exact Nat.succ_le_succ (Nat.zero_le _)
  · rw [putL_new x hz, List.length_append]
    exact Nat.le_add_left _ _
/-! ### heaps without the pool -/
theorem but_wo {p : Addr} {H H' : Hp} (b : But p H H') : L2.Same (wo H p) (wo H' p) := fun x o e => by
  by_cases h : x = p
  · subst h
    rw [wo_at] at e
    cases e
  · rw [wo_ne h] at e ⊢
    exact b x o e h
theorem wo_upd_ne {H : Hp} {p D : Addr} {u : HO} (h : D ≠ p) : wo (upd H D u) p = upd (wo H p) D u := by
  funext b
  by_cases e : b = p
  · subst e
    rw [wo_at, upd_ne (Ne.symm h), wo_at]
  · rw [wo_ne e]
    by_cases e2 : b = D
    · subst e2
      rw [upd_same, upd_same]
    · rw [upd_ne e2, upd_ne e2, wo_ne e]
theorem wo_none {H : Hp} {p a : Addr} (h : H a = none) : wo H p a = none := by
  by_cases e : a = p
  · rw [e]; exact wo_at
  · rw [wo_ne e]; exact h
theorem wo_some {H : Hp} {p a : Addr} {o : HO} (h : wo H p a = some o) : H a = some o ∧ a ≠ p := by
  by_cases e : a = p
  · rw [e, wo_at] at h
    cases h
  · rw [wo_ne e] at h
    exact ⟨h, e⟩
end Ox
namespace Ox
open PySem PySem.Spec PyProof.Rows L2
theorem same_made {H H1 H' : Hp} {x dx C : Addr} (s : L2.Same H H1) (nx : H1 x = none) (nd : H1 dx = none) (k : ∀ b o, (upd (upd H1 dx (.own x)) x (.ins C dx [])) b = some o → b ≠ x → H' b = some o) : L2.Same H H' := fun b o e => by
  have e1 := s b o e
  exact k b o (by rw [upd_ne (ne_of_none e1 nx), upd_ne (ne_of_none e1 nd)]; exact e1) (ne_of_none e1 nx)
end Ox

/-! Own layer, fourth part: enumerate(row), the row a list or a tuple. -/
namespace Ox
open PySem PySem.Spec PyProof.Rows L2
theorem meets_enum1 {v : Value} {o : Obj} {Hh : Heap → Prop} (B : Begins v o Hh) :
    Meets (Builtin.«enumerate.__new__» ⟨[.type "enumerate", v], []⟩) (fun _ R s => Hh s.heap ∧
      R (.ok (.ret (.ref (s.heap.push o).objs.size))) { s with heap := (s.heap.push o).push { cls := .type "enumerate", data := .fields #[.none, .bool false, .ref s.heap.objs.size, rawInt 0, .none, .none] } }) :=
  .of_wp fun prog w A R s h => by
    obtain ⟨hp, gs, dr, tk, os⟩ := s
    obtain ⟨h1, h2⟩ := h
    have hsub := sub_enumerate
    have q1 : ∀ {A' : Around} {E : Value → Shared → Prop} {Q : Value → Shared → Prop}, Q (.ref hp.objs.size) ⟨hp.push o, gs, dr, tk, os⟩ → wpAny (model prog w) A' (pyIter v) Q E ⟨hp, gs, dr, tk, os⟩ := fun q => B.iter prog w _ _ ⟨hp, gs, dr, tk, os⟩ _ h1 q
    wp_walk using q1
    refine wpAny_stack_any fun st => wpAny_pure ?_
    split
    · rename_i c _ _ _ _ _
      cases (c == Value.type "enumerate") <;> (wp_walk using q1; exact ⟨_, rfl, h2⟩)
    · wp_walk using q1; exact ⟨_, rfl, h2⟩
section
variable {prog : Program} {w : World} {A : Around} {E : Value → Shared → Prop} {s : Shared}
theorem enum1_begins {v : Value} {o : Obj} {Hh : Heap → Prop} {Q : Value → Shared → Prop} (B : Begins v o Hh) (h1 : Hh s.heap)
    (h : ∀ h', IsEnum h' (s.heap.objs.size + 1) s.heap.objs.size 0 .none → h'.get? s.heap.objs.size = some o → h'.objs.size = s.heap.objs.size + 2 → (∀ b o, s.heap.get? b = some o → h'.get? b = some o) → Q (.ref (s.heap.objs.size + 1)) { s with heap := h' }) :
    wpAny (model prog w) A (call (.type "enumerate") [v]) Q E s := by
  refine callType_new F.called_enumerate (by decide) (F.typeCall_enumerate_1 _) (F.newCall_enumerate_1 _) (fun obj => F.args_object_init_2 obj _) F.entry_enumerate_new (meets_enum1 B) ⟨h1, ?_⟩
  have hz : (s.heap.push o).objs.size = s.heap.objs.size + 1 := Heap.size_push ..
  show _ ∧ _
  rw [hz]
  have he : IsEnum ((s.heap.push o).push { cls := .type "enumerate", data := .fields #[.none, .bool false, .ref s.heap.objs.size, rawInt 0, .none, .none] }) (s.heap.objs.size + 1) s.heap.objs.size 0 .none := by
    have e := Heap.get?_push_size (s.heap.push o) (o := { cls := .type "enumerate", data := .fields #[.none, .bool false, .ref s.heap.objs.size, rawInt 0, .none, .none] }) rfl
    rw [hz] at e; exact e
  refine ⟨⟨_, he, rfl⟩, h _ he (Heap.get?_push_of_some _ (Heap.get?_push_size _ B.free)) (by rw [Heap.size_push, hz]) ?_⟩
  exact fun b ob x => Heap.get?_push_of_some _ (Heap.get?_push_of_some _ x)
end
/-- the tuple at a as it stands at each turn, each item in a new pair -/
def IteT (K : PySem.W.Frag) (a : Addr) : It :=
  ⟨fun i H => ∃ (xs : List V) (x : V), SqT K H a xs ∧ xs[i]? = some x, fun i H v H' => ∃ T x, v = .ref T ∧ H T = none ∧ H' = upd H T (.tup [.int (i : Nat), x]) ∧ ∀ xs, SqT K H a xs → xs[i]? = some x, fun i H => ∃ xs : List V, SqT K H a xs ∧ xs.length = i⟩
theorem turn_enumT {P : Program} {w : World} {K : PySem.W.Frag} {elts : List Expr} {kk : Nat} {tpos : Pos} (a e it : Addr) :
    Turn P w K (.Tuple elts kk tpos) (IteT K a) [e, it] e (fun i h => (∃ old, IsEnum h e it ((i : Nat) : Int) old) ∧ h.IsTupleIter it a i ∧ e ≠ it) where
  mem := by simp
  obj := fun i h st b hb => by
    obtain ⟨⟨old, he⟩, ⟨o, ho, hc, hd⟩, _⟩ := st
    rcases (show b = e ∨ b = it by simpa using hb) with z | z <;> rw [z]
    · exact ⟨_, he, fun v q => nomatch q⟩
    · exact ⟨o, ho, fun v q => by rw [hd] at q; cases q⟩
  keep := fun i h h' st k => ⟨st.1.imp fun old he => k e (by simp) _ he, st.2.1.at fun o q => k it (by simp) o q, st.2.2⟩
  item := by
    intro X hP hw hK hc i pins s σ H E I hf st hg; subst hP hw hK
    obtain ⟨⟨old, he⟩, hit, hne⟩ := st; obtain ⟨xs, x, hq, hx⟩ := hg
    obtain ⟨its, rv, p, hz⟩ := I.tuple hq
    have hT0 : s.heap.IsTuple a its.toArray := p
    obtain ⟨u, hu, ru⟩ := rv.get hx
    have hel : e < s.heap.objs.size := Heap.lt_size he
    have hil : it < s.heap.objs.size := by obtain ⟨_, q, _⟩ := hit; exact Heap.lt_size q
    have hai : a ≠ it := fun z => by
      obtain ⟨o1, q1, c1, _⟩ := hit; obtain ⟨o2, q2, c2, _⟩ := hT0
      rw [z, q1] at q2; cases q2; rw [c1] at c2; injection c2 with c3; exact absurd c3 (by decide)
    have hea : e ≠ a := fun z => by
      obtain ⟨o2, q2, c2, _⟩ := hT0
      rw [← z, show s.heap.get? e = _ from he] at q2; cases q2; injection c2 with c3; exact absurd c3 (by decide)
    have hh : X.A.in1.handled = none := I.ok.hd hc
    have hlt : i < its.toArray.size := by
      have := (List.getElem?_eq_some_iff.mp hu).1
      simpa using this
    refine wpAny_pyNext_enum_itemD (Draws.tuple hh it a hai its.toArray) he ⟨hit, hT0⟩ hlt hne (by simp [hne, hea]) fun y h' tk hy ho hst' hT hsz hk => ?_
    have ey : y = u := by
      have e1 : its.toArray[i]? = some u := by simpa using hu
      rw [e1] at hy
      exact (Option.some.inj hy).symm
    subst ey
    refine ⟨_, rfl, wpAny_letOwnedTupleGo_enum (s := { s with heap := h', toks := tk + 1 }) ho fun h'' he' sb => ?_⟩
    have hT2 : h''.get? s.heap.objs.size = some { cls := .type "tuple", data := .seq #[.int i tk, y] } := (sb.2 _ (Nat.ne_of_gt hel)).trans hT
    have new : ObjOk X.prog X.w (upd H s.heap.objs.size (.tup [.int (i : Nat), x])) h'' s.heap.objs.size (.tup [.int (i : Nat), x]) := ⟨by show 2 ≤ sizeLine; decide, [.int i tk, y], .cons ⟨_, rfl⟩ (.cons ru .nil), ⟨_, hT2, rfl, _, rfl⟩⟩
    have I1 : Inv X pins σ (upd H s.heap.objs.size (.tup [.int (i : Nat), x])) { s with heap := h'', toks := tk + 1 } :=
      I.turnedNew (ch := [e, it]) (fun b ob hb q => (sb.2 b (fun z => hb (by rw [z]; simp))).trans (hk b ob (fun z => hb (by rw [z]; simp)) (fun z => hb (by rw [z]; simp)) q)) hf (Nat.le_refl _) new
    refine ⟨.ref s.heap.objs.size, _, I1, rfl, ⟨_, x, rfl, I.hok.fresh (Nat.le_refl _), rfl, fun ys hy => by rw [I.tuple_inj hy hq]; exact hx⟩, ⟨⟨y, ?_⟩, hst'.1.at fun o q => (sb.2 it (Ne.symm hne)).trans q, hne⟩, fun b hb => ?_⟩
    · rw [show ((i + 1 : Nat) : Int) = (i : Int) + 1 by omega]; exact he'
    · have hb' : b < s.heap.objs.size := by rcases (show b = e ∨ b = it by simpa using hb) with z | z <;> (rw [z]; assumption)
      rw [upd_ne (Nat.ne_of_lt hb')]; exact (hf b hb).1
  done := by
    intro X hP hw hK hc i pins s σ H E I hf st hg; subst hP hw hK
    obtain ⟨⟨old, he⟩, hit, hne⟩ := st; obtain ⟨xs, hq, hx⟩ := hg
    obtain ⟨its, rv, p, hz⟩ := I.tuple hq
    have hT0 : s.heap.IsTuple a its.toArray := p
    obtain ⟨f0, f1, f2, f3, f4, f5⟩ := hf it (by simp)
    have hai : a ≠ it := fun z => by
      obtain ⟨o1, q1, c1, _⟩ := hit; obtain ⟨o2, q2, c2, _⟩ := hT0
      rw [z, q1] at q2; cases q2; rw [c1] at c2; injection c2 with c3; exact absurd c3 (by decide)
    have hh : X.A.in1.handled = none := I.ok.hd hc
    have hl := rv.length
    have hea : e ≠ a := fun z => by
      obtain ⟨o2, q2, c2, _⟩ := hT0
      rw [← z, show s.heap.get? e = _ from he] at q2; cases q2; injection c2 with c3; exact absurd c3 (by decide)
    have hn : its.toArray.size = i := by simp; omega
    subst hn
    exact wpAny_pyNext_enum_endD (Draws.tuple hh it a hai its.toArray) he ⟨hit, hT0⟩ fun h' eb => ⟨rfl, I.turned (t' := s.toks) (fun b o hb q => eb b o hb q) f0 f1 f3 f4 f5⟩
  self := fun A i s Q E st h => st.1.elim fun old he => wpAny_pyIter_enum he h
def iEnumT (K : PySem.W.Frag) (ta : TA) : TI := fun σ H R => ta σ H fun vs H1 => ∃ a xs, vs = [.ref a] ∧ ((SqL K H1 a xs ∧ R (Ite K a) H1) ∨ (SqT K H1 a xs ∧ R (IteT K a) H1))
theorem pi_enumT {X : Cx} {e : Expr} {ta : TA} {p pos tpos : Pos} {elts : List Expr} {kk : Nat} (hg : Gl X "enumerate") (hm : X.mg "enumerate" = none) (ha : PA X [e] ta) (hs : starEach [e] X.env = [(false, eval e X.env)] := by rfl) :
    PI X (.Tuple elts kk tpos) (.Call (.Name "enumerate" p) [e] [] pos) (iEnumT X.K ta) := by
  constructor; intro pins s σ H R I h
  refine Call_ (ld_blt I hg hm boot_enumerate (PyProof.Rows.callWith_type1 (thn (ha.run pos pins s σ H _ I h) fun us s1 ⟨vs, H1, I1, r1, q1⟩ => ?_) hs rfl))
  obtain ⟨a, xs, ex, hq⟩ := q1; subst ex
  obtain ⟨u, rfl, ru⟩ := vals1 r1
  cases ru
  have fresh : ∀ b, b = s1.heap.objs.size + 1 ∨ b = s1.heap.objs.size → FpOk X pins H1 b := fun b hb => by
    have hle : s1.heap.objs.size ≤ b := by rcases hb with z | z <;> rw [z] <;> omega
    exact I1.fpOk hle (I1.hok.fresh hle)
  rcases hq with ⟨hq, q⟩ | ⟨hq, q⟩
  · obtain ⟨its, rv, p', hz⟩ := I1.list hq
    refine call_enumerate_list p'.isList fun h' he hit hsz hk => wpAny_pyIter_enum he ⟨s1.heap.objs.size + 1, [s1.heap.objs.size + 1, s1.heap.objs.size], _, _, H1, rfl, I1.kept (t' := s1.toks) hk, turn_enum a (s1.heap.objs.size + 1) s1.heap.objs.size, ⟨⟨.none, he⟩, hit, Nat.succ_ne_self _⟩, fun b hb => fresh b (by simpa using hb), q⟩
  · obtain ⟨its, rv, p', hz⟩ := I1.tuple hq
    refine enum1_begins (begins_tuple a its.toArray) p' fun h' he hit hsz hk => wpAny_pyIter_enum he ⟨s1.heap.objs.size + 1, [s1.heap.objs.size + 1, s1.heap.objs.size], _, _, H1, rfl, I1.kept (t' := s1.toks) hk, turn_enumT a (s1.heap.objs.size + 1) s1.heap.objs.size, ⟨⟨.none, he⟩, ⟨_, hit, rfl, rfl⟩, Nat.succ_ne_self _⟩, fun b hb => fresh b (by simpa using hb), q⟩
/-! ### the loop over it -/
def LpE (K : PySem.W.Frag) (g : TG) (tb : TS) (D : Ends) (σ : L2.St) (vs : List V) (H : Hp) : Prop := ∃ a xs, vs = [.ref a] ∧ ((SqL K H a xs ∧ Lp (Ite K a) g tb D σ H) ∨ (SqT K H a xs ∧ Lp (IteT K a) g tb D σ H))
section
variable {σ : L2.St} {H : Hp} {n : L2.St → Hp → Prop} {r : VK} {b c : L2.St → Hp → Prop} {tb : TS} {g : TG} {K : PySem.W.Frag} {al : TA} {p : Addr}
theorem x_forE (h : al σ H fun x H1 => LpE K g tb ⟨n, r, b, c⟩ σ x H1) : tFor (iEnumT K al) g tb ⟨n, r, b, c⟩ σ H := h
/-- a list or a tuple -/
def SqR (K : PySem.W.Frag) (H : Hp) (a : Addr) (xs : List V) : Prop := SqL K H a xs ∨ SqT K H a xs
theorem lpE {xs : List V} (Pv : Nat → L2.St → Hp → Prop) (h : (∀ σ' H' i, i ≤ xs.length → Pv i σ' H' → SqL K H' p xs) ∨ (∀ σ' H' i, i ≤ xs.length → Pv i σ' H' → SqT K H' p xs)) (h0 : Pv 0 σ H)
    (hs : ∀ i x σ H T, xs[i]? = some x → Pv i σ H → H T = none → g (.ref T) σ (upd H T (.tup [.int (i : Nat), x])) fun σ2 H2 => tb ⟨Pv (i + 1), r, n, Pv (i + 1)⟩ σ2 H2) (hd : ∀ σ H, Pv xs.length σ H → n σ H) : LpE K g tb ⟨n, r, b, c⟩ σ [.ref p] H := by
  rcases h with h | h
  · refine ⟨p, xs, rfl, .inl ⟨h σ H 0 (Nat.zero_le _) h0, fun i k σ H => k = xs.length - i ∧ i ≤ xs.length ∧ Pv i σ H, ⟨_, rfl, Nat.zero_le _, h0⟩, ?_⟩⟩
    rintro i k σ1 H1 ⟨rfl, hi, hp⟩
    have q := h σ1 H1 i hi hp
    by_cases hlt : i < xs.length
    · refine .inr ⟨⟨xs, xs[i], q, by simp [hlt]⟩, Pv (i + 1), fun σ' H' p' => ⟨xs.length - (i + 1), by omega, rfl, hlt, p'⟩, fun x H' y => ?_⟩
      obtain ⟨T, v, rfl, hT, rfl, hv⟩ := y
      exact hs i v σ1 H1 T (hv xs q) hp hT
    · have e : i = xs.length := by omega
      subst e
      exact .inl ⟨⟨xs, q, Nat.le_refl _⟩, hd σ1 H1 hp⟩
  · refine ⟨p, xs, rfl, .inr ⟨h σ H 0 (Nat.zero_le _) h0, fun i k σ H => k = xs.length - i ∧ i ≤ xs.length ∧ Pv i σ H, ⟨_, rfl, Nat.zero_le _, h0⟩, ?_⟩⟩
    rintro i k σ1 H1 ⟨rfl, hi, hp⟩
    have q := h σ1 H1 i hi hp
    by_cases hlt : i < xs.length
    · refine .inr ⟨⟨xs, xs[i], q, by simp [hlt]⟩, Pv (i + 1), fun σ' H' p' => ⟨xs.length - (i + 1), by omega, rfl, hlt, p'⟩, fun x H' y => ?_⟩
      obtain ⟨T, v, rfl, hT2, rfl, hv⟩ := y
      exact hs i v σ1 H1 T (hv xs q) hp hT2
    · have e : i = xs.length := by omega
      subst e
      exact .inl ⟨⟨xs, q, rfl⟩, hd σ1 H1 hp⟩
end
end Ox
namespace Ox
open PySem PySem.Spec PyProof.Rows L2
/-! ### methods -/
section
variable {X : Cx} {k : Nat} {C : Addr} {m : Str} {ps : List Str} {sp : Sp} {o e : Expr} {es : List Expr} {ta : TE} {t : TA} {apos pos : Pos} {pl : Sem Bool}
theorem pe_mt (M : Met X.prog X.w X.K X.mg X.base C k m ps sp) (kc : Cls X.K C) (hr : Room k X.A) (he : PE X o ta) (ha : PA X (e :: es) t)
    (hst : starEach (e :: es) X.env = (false, eval e X.env) :: starEach es X.env := by rfl) (hpl : (backTo pos (starEach es X.env)).any (·.1) = false := by rfl)
    (ht : eval (.Call (.Attribute o m apos) (e :: es) [] pos) X.env = (do let ov ← eval o X.env; standAt apos.atName; let (f, first) ← holding [ov] (getMethod ov m pl); callWith pos f first (backTo pos (starEach (e :: es) X.env)) (backToKw pos (keywordEach [] X.env))) := by rfl) :
    PE X (.Call (.Attribute o m apos) (e :: es) [] pos) (tMeth C m sp [] E0 ta t) := by
  obtain ⟨f, fd, mt, F, hb⟩ := M.ex
  exact pe_meth he kc mt F hr hb .nil pass0 ha hst hpl ht
end
def rMtA (C : Addr) (m : Str) (x : V) (H : Hp) (Z : Prop) : Prop := ∃ a dx fs, x = .ref a ∧ H a = some (.ins C dx fs) ∧ fs.lookup m = none ∧ Z
section
variable {σ : L2.St} {H : Hp} {Q : VK} {ta : TE} {al : TA} {C : Addr} {m : Str} {sp : Sp} {K : PySem.W.Frag}
theorem x_mt (h : ta σ H fun x H1 => rMtA C m x H1 (al σ H1 fun vs H2 => sp (x :: vs) H2 Q E0)) : tMeth C m sp [] E0 ta al σ H Q := by
  show ta σ H fun x H1 => ∃ a dx fs, x = .ref a ∧ H1 a = some (.ins C dx fs) ∧ fs.lookup m = none ∧ al σ H1 fun vs H2 => sp (x :: (vs ++ [])) H2 Q E0
  have e : (fun (x : V) (H1 : Hp) => ∃ a dx fs, x = .ref a ∧ H1 a = some (.ins C dx fs) ∧ fs.lookup m = none ∧ al σ H1 fun vs H2 => sp (x :: (vs ++ [])) H2 Q E0) = fun x H1 => rMtA C m x H1 (al σ H1 fun vs H2 => sp (x :: vs) H2 Q E0) := by
    funext x H1
    have e2 : (fun (vs : List V) (H2 : Hp) => sp (x :: (vs ++ [])) H2 Q E0) = fun vs H2 => sp (x :: vs) H2 Q E0 := by
      funext vs H2
      rw [List.append_nil]
    rw [e2]
    rfl
  rw [e]
  exact h
theorem x_mti {a dx : Addr} {fs : List (Str × V)} {Z : Prop} (h : H a = some (.ins C dx fs)) (hl : fs.lookup m = none) (q : Z) : rMtA C m (.ref a) H Z := ⟨a, dx, fs, rfl, h, hl, q⟩
/-! ### isinstance(x, (list, tuple)) -/
theorem x_isiLT {x : V} {k : Kn} {tp : Addr} (h : Kd K H x k) (ht : H tp = some (.tup [.ty "list", .ty "tuple"])) (q : Q (.bl (isB k .lst || isB k .tup)) H) : rIsiT K [x, .ref tp] H Q := by
  refine ⟨x, tp, _, _, _, _, rfl, ht, .cons (.ty "list") (.cons (.ty "tuple") .nil), h.tyx, ?_, q⟩
  cases k <;> rfl
end
/-! ### x[i], x a list or a tuple -/
def rIxQ (K : PySem.W.Frag) : R2 := fun x y H Q => rIxL K x y H Q ∨ rIxT K x y H Q
theorem ix_seq {X : Cx} : IxR X (rIxQ X.K) := fun a b pins s σ H x y v u Q I rx ry h hs => h.elim (fun h => ix_list a b pins s σ H x y v u Q I rx ry h hs) fun h => ix_tup a b pins s σ H x y v u Q I rx ry h hs
theorem ix_seqK {X : Cx} {K : PySem.W.Frag} (e : X.K = K := by rfl) : IxR X (rIxQ K) := e ▸ ix_seq
theorem x_ixq {K : PySem.W.Frag} {H : Hp} {Q : VK} {p : Addr} {xs : List V} {k : Int} {v : V} (j : Nat) (h : SqR K H p xs) (hk : k = (j : Int)) (ha : xs[j]? = some v) (q : Q v H) : rIxQ K (.ref p) (.int k) H Q :=
  h.elim (fun h => .inl (x_ixl j h hk ha q)) fun h => .inr (x_ixt j h hk ha q)
theorem x_lenQ {K : PySem.W.Frag} {H : Hp} {Q : VK} {p : Addr} {xs : List V} (h : SqR K H p xs) (q : Q (.int xs.length) H) : rLenA K [V.ref p] H Q := h.elim (fun h => x_lenL h q) fun h => x_lenT h q
theorem x_listQ {K : PySem.W.Frag} {H : Hp} {Q : VK} {p : Addr} {xs : List V} (h : SqR K H p xs) (q : ∀ l, H l = none → Q (.ref l) (upd H l (.lst xs))) : rListA K [V.ref p] H Q := h.elim (fun h => x_listL h q) fun h => x_listT h q
end Ox

namespace Ox
open PySem PySem.Spec PyProof.Rows L2
/-! sorted(d, reverse=True), d a dict with text keys: a permutation of its keys -/
def codesOf : Value → List Nat
  | .str z _ => z.cps.toList
  | _ => []
def textOf : Value → Str
  | .str z _ => z
  | _ => ""
def ltCodes (v u : Value) : Bool := decide (codesOf v < codesOf u)
theorem swo_codes : SrtO.Swo ltCodes := by
  refine ⟨fun x y h => ?_, fun x y z h1 h2 => ?_⟩
  · exact decide_eq_false (List.lt_asymm (of_decide_eq_true (p := codesOf x < codesOf y) h))
  · have a := of_decide_eq_false (p := codesOf y < codesOf x) h1
    have b := of_decide_eq_false (p := codesOf z < codesOf y) h2
    exact decide_eq_false (p := codesOf z < codesOf x) (List.not_lt.mpr (List.le_trans (List.not_lt.mp a) (List.not_lt.mp b)))
theorem texts_in : ∀ {vs : List Value} {ks : List Str}, StrsAre vs ks → ∀ v ∈ vs, ∃ z t, v = Value.str z t := by
  intro vs ks h
  induction h with
  | nil => exact fun v hv => by cases hv
  | cons z t _ ih =>
    intro v hv
    rcases List.mem_cons.mp hv with rfl | hv
    · exact ⟨z, t, rfl⟩
    · exact ih v hv
theorem texts_of : ∀ {vs : List Value} {ks : List Str}, StrsAre vs ks → vs.map textOf = ks := by
  intro vs ks h
  induction h with
  | nil => rfl
  | cons z t _ ih =>
    rw [List.map_cons, ih]
    rfl
theorem texts_are : ∀ {vs : List Value}, (∀ v ∈ vs, ∃ z t, v = Value.str z t) → StrsAre vs (vs.map textOf) := by
  intro vs
  induction vs with
  | nil => exact fun _ => .nil
  | cons v r ih =>
    intro h
    obtain ⟨z, t, rfl⟩ := h v List.mem_cons_self
    exact .cons z t (ih fun u hu => h u (List.mem_cons_of_mem _ hu))
theorem texts_sortable {prog : Program} {w : World} {A : Around} {s : Shared} {a : Addr} {vs : List Value} {ks : List Str} (hT : StrsAre vs ks) (h2 : 2 ≤ vs.length) : SrtO.SortableO prog w A s a vs ltCodes := by
  intro h1 _
  refine ⟨oneType', fun Q E hq => ?_, fun p q hp hq => ?_⟩
  · obtain ⟨v1, v2, rest, rfl⟩ : ∃ v1 v2 rest, vs = v1 :: v2 :: rest := by
      cases vs with
      | nil => simp at h2
      | cons v1 r =>
        cases r with
        | nil => simp at h2
        | cons v2 r => exact ⟨v1, v2, r, rfl⟩
    rw [keyKind_strs hT]
    exact wpAny_pure hq
  · obtain ⟨x, t, ex⟩ := texts_in hT _ hp
    obtain ⟨y, u, ey⟩ := texts_in hT _ hq
    change wpAny (model prog w) A (keyLt' oneType' p.1 q.1) (fun r s1 => s1 = _ ∧ r = ltCodes p.1 q.1) (fun _ _ => False) _
    rw [ex, ey, keyLt'_oneType]
    exact oneLt_str ⟨rfl, rfl⟩
def rSortRev : List V → List V → Hp → VK → Prop := fun xs zs H Q => ∃ (d : Addr) (kvs : List (Key × V)) (ks : List Str), xs = [.ref d] ∧ zs = [.bl true] ∧ Rd H d (.dK kvs) ∧ kvs.map (·.1) = ks.map Sum.inr ∧ ks.length ≤ 10000 ∧
  ∀ (ys : List Str) (p : Addr), ys.Perm ks → H p = none → Q (.ref p) (upd H p (.lst (ys.map V.str)))
theorem call_sortRev {X : Cx} (calm : X.calm = true) : CallRK X (.builtin "sorted") [Str.ofString "reverse"] rSortRev := by
  intro pn st σ H args kws us ws Q I ra rk hq
  obtain ⟨d, kvs, ks, rfl, rfl, rd, ek, len, fin⟩ := hq
  obtain ⟨ud, rfl, rud⟩ := vals1 ra
  cases rud
  obtain ⟨w1, rfl, e1⟩ := vals1 rk
  obtain rfl : w1 = Value.bool true := e1
  obtain ⟨_, low, rows, rowsR, isd⟩ := dk_rd I.hok rd
  obtain ⟨epoch, atd⟩ := isd.dictAt
  have keyE : rows.map Prod.fst = ks.map Sum.inr := Eq.trans rowsR.keys.symm ek
  have lenE : rows.length = ks.length := by
    have t := congrArg List.length keyE
    simpa using t
  have line : ks.length ≤ sizeLine := by rw [sizeLine_eq]; omega
  refine call_function_entry_kw kind_sorted plain_sorted entry_sorted (args_sorted_rev _ _) ?_
  unfold Builtin.«sorted»
  refine wpAny_bind (m := checkCount "sorted" 1 1 _) (wpAny_pure (wpAny_bind (PySem.W.kdu_collect (A := X.A.in1) (PySem.W.kdl_dict (knd := mixKind X.prog X.w) (kvs := rows) (ep := epoch) low) (I.ok.hd calm) atd (by rw [lenE]; exact line) fun h1 t1 got keep isgot => ?_)))
  have gotL : got.toList.length = ks.length := (Array.length_toList ..).trans (isgot.1.trans lenE)
  have texts : StrsAre got.toList ks := strs_at gotL fun j v ev => by
    obtain ⟨key, _, er, ki⟩ := isgot.2 j v (by rw [← Array.getElem?_toList]; exact ev)
    have ekj : (ks.map Sum.inr)[j]? = some key := by rw [← keyE, List.getElem?_map, er]; rfl
    rw [List.getElem?_map] at ekj
    cases ez : ks[j]? with
    | none => rw [ez] at ekj; cases ekj
    | some z =>
      rw [ez] at ekj
      cases ekj
      obtain ⟨t, et⟩ := Value.isStrOf_shape (x := z) (v := v) ki
      exact ⟨z, t, rfl, et⟩
  have J : Inv X pn σ H { st with heap := h1, toks := t1 } := I.kept keep
  refine wpAny_bind (wpAny_newList ?_ (by rw [gotL]; rw [sizeLine_eq] at line; exact line))
  have isl : (h1.push (seqObj "list" got.toList.toArray 0)).get? h1.objs.size = some (seqObj "list" got.toList.toArray 0) := Heap.get?_push_size _ rfl
  change wpAny _ _ _ _ _ { st with heap := h1.push (seqObj "list" got.toList.toArray 0), toks := t1 }
  refine wpAny_bind (wpAny_holding (wpAny_call_entry_kw slot_list_sort ⟨_, isl, rfl⟩ entry_list_sort ?_ (args_list_sort_rev _ _)))
  refine SrtR.list_sort_ordR swo_codes isl (by rw [gotL]; exact line) (fun h2 => texts_sortable texts h2) fun out _ stable => ⟨_, rfl, ?_⟩
  have pm : out.Perm got.toList := stable.perm.trans (List.reverse_perm _)
  have outT : StrsAre out.reverse (out.reverse.map textOf) := texts_are fun v hv => texts_in texts v (pm.mem_iff.mp (List.mem_reverse.mp hv))
  have outP : (out.reverse.map textOf).Perm ks := by
    have t := ((List.reverse_perm out).trans pm).map textOf
    rw [texts_of texts] at t
    exact t
  obtain ⟨ep2, at2⟩ := sortedHeap_at (vs := got.toList) (out := out.toArray.reverse) isl
  have ylen : ((out.reverse.map textOf).map V.str).length ≤ sizeLine := by rw [List.length_map, outP.length_eq]; exact line
  have eo : out.reverse.toArray = out.toArray.reverse := by simp
  have laid := fun kept => J.laid (t' := t1) kept (Nat.le_refl h1.objs.size) (show ObjOk X.prog X.w _ _ _ (.lst ((out.reverse.map textOf).map V.str)) from ⟨ylen, out.reverse, ep2, vals_of_strs outT, by rw [eo]; exact at2⟩)
  refine wpAny_pure ⟨_, rfl, .ref h1.objs.size, _, laid fun b u eb => ?_, rfl, fin _ _ outP (J.hok.fresh (Nat.le_refl _))⟩
  have small := Heap.lt_size eb
  rw [sortedHeap_old (Nat.ne_of_lt small) (by rw [size_push']; exact Nat.lt_succ_of_lt small)]
  exact Heap.get?_push_of_some _ eb
end Ox

/-! Own layer, fifth part: tuple(d), a walk over a list or a tuple, dicts of data compared. -/
namespace Ox
open PySem PySem.Spec PyProof.Rows L2
/-! ### tuple(d) -/
section
variable {prog : Program} {w : World} {A : Around} {s : Shared} {E : Value → Shared → Prop}
theorem code_tuple_new_dict {K : Type} [DecidableEq K] {knd : KeyKind prog w K} {kvs : List (K × Value)} {ep : Nat} {d : Addr} {Q₁ : Value → Shared → Prop} (lo : (d == sysModules) = false) (hh : A.handled = none) (hat : s.heap.DictAt knd d kvs ep) (hn : kvs.length ≤ sizeLine)
    (h : ∀ (h' : Heap) (tk : Nat) (acc : Array Value), (∀ b o, s.heap.get? b = some o → h'.get? b = some o) → ItemsOf (fun i v => ∃ k x, kvs[i]? = some (k, x) ∧ knd.is k v = true) acc kvs.length →
      Q₁ (.ref h'.objs.size) { s with heap := h'.push { cls := .type "tuple", data := .seq acc }, toks := tk }) :
    codeAny (model prog w) A (.call (.builtin "tuple.__new__") ⟨[.type "tuple", .ref d], []⟩) (wants Q₁ E) s := by
  refine codeAny_of_tree ?_
  show wpAny _ A.in1 (do checkBuiltinCall "tuple.__new__" ⟨[.type "tuple", .ref d], []⟩; again (.builtin "tuple.__new__" ⟨[.type "tuple", .ref d], []⟩)) _ _ s
  refine wpAny_bind (wpAny_of_eq (F.newCall_tuple_1 _) (wpAny_pure ⟨plainId_quiet F.plain_tuple_new _, codeAny_builtin F.entry_tuple_new ?_⟩))
  rw [Around.under_plainId F.plain_tuple_new _]
  have hsub := sub_tuple_self
  have hinit := init_tuple_lookup
  have hmh := madeHere_tuple
  have hTI : s.TypeIs (.ref d) "dict" := hat.dictOf.typeIs
  have hh1 : A.in1.handled = none := hh
  wp_walk using wpAny_typeOf hTI, PySem.W.kdu_collect (A := A.in1) (PySem.W.kdl_dict (knd := knd) (kvs := kvs) (ep := ep) lo) hh1 hat hn
  intro h' tk acc hk hacc
  show wpAny _ _ (Builtin.Tuple.tupleExact acc.toList.toArray >>= fun v => ret v) _ _ _
  unfold Builtin.Tuple.tupleExact
  refine wpAny_bind (wpAny_newObj_type ?_ (by show acc.toList.toArray.size ≤ sizeLine; simp only [Array.toArray_toList]; rw [hacc.1]; exact hn))
  refine wpAny_pure ?_
  have e : acc.toList.toArray = acc := by simp
  rw [e]
  exact h h' tk acc hk hacc
theorem call_tuple_dict {K : Type} [DecidableEq K] {knd : KeyKind prog w K} {kvs : List (K × Value)} {ep : Nat} {d : Addr} {Q : Value → Shared → Prop} (lo : (d == sysModules) = false) (hh : A.handled = none) (hat : s.heap.DictAt knd d kvs ep) (hn : kvs.length ≤ sizeLine)
    (hQ : ∀ (h' : Heap) (tk : Nat) (acc : Array Value), (∀ b o, s.heap.get? b = some o → h'.get? b = some o) → ItemsOf (fun i v => ∃ k x, kvs[i]? = some (k, x) ∧ knd.is k v = true) acc kvs.length →
      Q (.ref h'.objs.size) { s with heap := h'.push { cls := .type "tuple", data := .seq acc }, toks := tk }) :
    wpAny (model prog w) A (call (.type "tuple") [.ref d]) Q E s := by
  refine callType_codes (Q₁ := fun obj s₁ => s₁.TypeIs obj "tuple" ∧ Q obj s₁) F.called_tuple (F.typeCall_tuple_1 _) F.entry_object_init
    (code_tuple_new_dict (A := A.in1) lo hh hat hn fun h' tk acc hk hacc => ⟨⟨_, Heap.get?_push_size _ rfl, rfl⟩, hQ h' tk acc hk hacc⟩) fun obj s₁ h₁ => ?_
  exact ⟨h₁.1, F.args_object_init_2 obj _, object_init_meets F.called_tuple.init.lookup F.called_tuple.made (by decide) prog w A.in1 _ s₁ ⟨h₁.1, rfl, h₁.2⟩⟩
end
def rTupD : List V → Hp → VK → Prop := fun xs H Q => ∃ p kvs, xs = [.ref p] ∧ Rd H p (.dK kvs) ∧ ∀ q, H q = none → Q (.ref q) (upd H q (.tup (kvs.map fun kv => kV kv.1)))
theorem call_tupD {X : Cx} (hc : X.calm = true) : CallR X (.type "tuple") rTupD := by
  intro pins s σ H xs us Q I r h
  obtain ⟨p, kvs, e, hk, q⟩ := h
  subst e
  obtain ⟨u, eu, rx⟩ := vals1 r
  subst eu
  obtain rfl : u = Value.ref p := rx
  obtain ⟨z, lo, vs, rk, hd⟩ := dk_rd I.hok hk
  obtain ⟨ep, hat⟩ := hd.dictAt
  have hl : kvs.length = vs.length := Paired.length rk
  have hz : vs.length ≤ sizeLine := by rw [← hl]; exact z
  refine call_tuple_dict (knd := mixKind X.prog X.w) lo (I.ok.hd hc) hat hz fun h' tk acc hkeep hacc => ?_
  have I2 : Inv X pins σ H { s with heap := h', toks := tk } := I.kept hkeep
  refine ⟨.ref h'.objs.size, upd H h'.objs.size (.tup (kvs.map fun kv => kV kv.1)), ?_, rfl, q _ (I2.hok.fresh (Nat.le_refl _))⟩
  refine I2.laid (t' := tk) (fun b o e => Heap.get?_push_of_some _ e) (Nat.le_refl _) (show ObjOk X.prog X.w _ _ _ (.tup (kvs.map fun kv => kV kv.1)) from ?_)
  refine ⟨?_, acc.toList, ?_, ?_⟩
  · rw [List.length_map, hl]; exact hz
  · have el : acc.toList.length = acc.size := by simp
    refine vals_of_at (by rw [List.length_map, el, hacc.1, hl]) fun j x w h1 h2 => ?_
    obtain ⟨k, y, hky, hi⟩ := hacc.2 j w (by rw [← Array.getElem?_toList]; exact h2)
    have e1 : (kvs.map (·.1))[j]? = some k := by
      rw [KV.keys rk, List.getElem?_map, hky] <;> rfl
    have e2 : (kvs.map fun kv => kV kv.1)[j]? = some (kV k) := by
      have e3 : (kvs.map fun kv => kV kv.1) = (kvs.map (·.1)).map kV := by rw [List.map_map] <;> rfl
      rw [e3, List.getElem?_map, e1] <;> rfl
    rw [e2] at h1
    cases h1
    exact keyIs_rel hi
  · exact ⟨_, Heap.get?_push_size _ rfl, rfl, by simp⟩
end Ox
namespace Ox
open PySem PySem.Spec PyProof.Rows L2
/-! ### a list or a tuple, walked -/
def iSeq (K : PySem.W.Frag) (te : TE) : TI := fun σ H R => te σ H fun x H1 => ∃ a, x = .ref a ∧ (((∃ xs, SqL K H1 a xs) ∧ R (Itl K a) H1) ∨ ((∃ xs, SqT K H1 a xs) ∧ R (Itt K a) H1))
theorem pi_seq {X : Cx} {tg l : Expr} {tl : TE} (hl : PE X l tl) : PI X tg l (iSeq X.K tl) := by
  refine ⟨fun pins s σ H R I h => ?_⟩
  refine thn (hl.run pins s σ H _ I h) fun v s1 ⟨x, H1, I1, r1, q1⟩ => ?_
  obtain ⟨a, e, ⟨⟨xs, hq⟩, q⟩ | ⟨⟨xs, hq⟩, q⟩⟩ := q1
  · subst e
    cases r1
    obtain ⟨its, rv, p, hz⟩ := I1.list hq
    refine wpAny_pyIter_list p.isList ?_
    refine ⟨s1.heap.objs.size, [s1.heap.objs.size], _, _, H1, rfl, I1.kept (t' := s1.toks) fun b o e => Heap.get?_push_of_some _ e, turn_list a _, ⟨_, Heap.get?_push_size _ rfl, rfl, rfl⟩, fun b hb => ?_, q⟩
    have e : b = s1.heap.objs.size := by simpa using hb
    subst e
    exact I1.fpOk (Nat.le_refl _) (I1.hok.fresh (Nat.le_refl _))
  · subst e
    cases r1
    obtain ⟨its, rv, p, hz⟩ := I1.tuple hq
    refine wpAny_pyIter_tuple (show s1.heap.IsTuple a its.toArray from p) ?_
    refine ⟨s1.heap.objs.size, [s1.heap.objs.size], _, _, H1, rfl, I1.kept (t' := s1.toks) fun b o e => Heap.get?_push_of_some _ e, turn_tuple a _, ⟨_, Heap.get?_push_size _ rfl, rfl, rfl⟩, fun b hb => ?_, q⟩
    have e : b = s1.heap.objs.size := by simpa using hb
    subst e
    exact I1.fpOk (Nat.le_refl _) (I1.hok.fresh (Nat.le_refl _))
def RunSq (K : PySem.W.Frag) (R : It → Hp → Prop) (x : V) (H : Hp) : Prop := ∃ a, x = .ref a ∧ (((∃ xs, SqL K H a xs) ∧ R (Itl K a) H) ∨ ((∃ xs, SqT K H a xs) ∧ R (Itt K a) H))
section
variable {σ : L2.St} {H : Hp} {te : TE} {R : It → Hp → Prop} {K : PySem.W.Frag} {n : L2.St → Hp → Prop} {r : VK} {b c : L2.St → Hp → Prop} {tb : TS} {g : TG} {p : Addr}
theorem x_iSq (h : te σ H fun x H1 => RunSq K R x H1) : iSeq K te σ H R := h
def LpSq (K : PySem.W.Frag) (g : TG) (tb : TS) (D : Ends) (σ : L2.St) (x : V) (H : Hp) : Prop := RunSq K (fun J H1 => Lp J g tb D σ H1) x H
theorem x_forSq (h : te σ H fun x H1 => LpSq K g tb ⟨n, r, b, c⟩ σ x H1) : tFor (iSeq K te) g tb ⟨n, r, b, c⟩ σ H := h
theorem runSq {xs : List V} (h : SqR K H p xs) (q : ∀ (J : It) (G : Hp → Prop), (∀ H', L2.Same H H' → G H') → L2.Walk J xs.length G (L2.YAt xs) → R J H) : RunSq K R (.ref p) H := by
  rcases h with h | h
  · exact ⟨p, rfl, .inl ⟨⟨xs, h⟩, q _ (fun H' => SqL K H' p xs) (fun H' s => s.seq h) walk_list⟩⟩
  · exact ⟨p, rfl, .inr ⟨⟨xs, h⟩, q _ (fun H' => SqT K H' p xs) (fun H' s => same_t s h) walk_tup⟩⟩
end
end Ox
namespace Ox
open PySem PySem.Spec PyProof.Rows L2
/-! ### dicts compared, their values data -/
def DvAt (K : PySem.W.Frag) (H : Hp) (ks : List (Key × V)) (f : Key → PyData) : Prop := ∀ p ∈ ks, Dp K H p.2 (f p.1) ∧ SeqAt.shaped (f p.1) = true
def eqKB (ks ls : List (Key × V)) (f g : Key → PyData) : Bool := (ks.length == ls.length) && ks.all fun p => (valV ls p.1).isSome && PyData.eqv (f p.1) (g p.1)
def rEqDD (K : PySem.W.Frag) : R2 := fun x y H Q => ∃ a b ks ls f g, x = .ref a ∧ y = .ref b ∧ Rd H a (.dK ks) ∧ Rd H b (.dK ls) ∧ DvAt K H ks f ∧ DvAt K H ls g ∧ Q (.bl (eqKB ks ls f g)) H
def rNeDD (K : PySem.W.Frag) : R2 := fun x y H Q => ∃ a b ks ls f g, x = .ref a ∧ y = .ref b ∧ Rd H a (.dK ks) ∧ Rd H b (.dK ls) ∧ DvAt K H ks f ∧ DvAt K H ls g ∧ Q (.bl (!eqKB ks ls f g)) H
theorem valV_in {kvs : List (Key × V)} {k : Key} {v : V} (h : valV kvs k = some v) : (k, v) ∈ kvs := valV_mem h
theorem hitsD {X : Cx} {pins : List (Addr × Obj)} {σ : L2.St} {H : Hp} {s : Shared} (I : Inv X pins σ H s) {A : Around} (hu : A.units + 64 < cLine) {ls : List (Key × V)} {vb : List (Key × Value)} (rb : KV ls vb) {g f : Key → PyData} (hg : DvAt X.K H ls g) {ks : List (Key × V)} {va : List (Key × Value)} (ra : KV ks va) :
    DvAt X.K H ks f → PySem.W.KeqHits A s vb va (ks.all fun p => (valV ls p.1).isSome && PyData.eqv (f p.1) (g p.1)) := by
  unfold KV at ra
  induction ra with
  | nil => intro _; exact .nil
  | @cons p q ps qs h t ih =>
    intro hp
    obtain ⟨h1, h2⟩ := h
    obtain ⟨k, v⟩ := q
    have h1' : p.1 = k := h1
    have hd := hp p List.mem_cons_self
    cases e : valV ls p.1 with
    | none =>
      have rr : RelO none (valueAt vb p.1) := by rw [← e]; exact rb.val p.1
      have hn : valueAt vb k = none := by
        rw [← h1']
        cases hq : valueAt vb p.1 with
        | none => rfl
        | some y => rw [hq] at rr; exact rr.elim
      have eb : ((p :: ps).all fun p => (valV ls p.1).isSome && PyData.eqv (f p.1) (g p.1)) = false := by
        rw [List.all_cons, e]
        rfl
      rw [eb]
      exact .miss hn
    | some z =>
      have rr : RelO (some z) (valueAt vb p.1) := by rw [← e]; exact rb.val p.1
      obtain ⟨y, hy, ry⟩ := rr.some_of
      rw [h1'] at hy
      have hz := hg (p.1, z) (valV_in e)
      obtain ⟨as, r1⟩ := Dp.reads I (f p.1) p.2 v hd.1 h2
      obtain ⟨bs, r2⟩ := Dp.reads I (g p.1) z y hz.1 ry
      have eb : ((p :: ps).all fun p => (valV ls p.1).isSome && PyData.eqv (f p.1) (g p.1)) = (PyData.eqv (f p.1) (g p.1) && ps.all fun p => (valV ls p.1).isSome && PyData.eqv (f p.1) (g p.1)) := by
        rw [List.all_cons, e]
        rfl
      rw [eb]
      exact .hit hy (SeqAt.eqAt_reads _ _ A s v y as bs r1 r2 (SeqAt.canLay_of_shaped hd.2) (SeqAt.canLay_of_shaped hz.2) (SeqAt.room_of_shaped hd.2 hu)) (ih fun p' hm => hp p' (List.mem_cons_of_mem _ hm))
section
variable {X : Cx}
theorem op_eqDD (hu : X.A.units + 65 < cLine) : OpR X (compareOp .Eq) (rEqDD X.K) := by
  intro pins s σ H x y v u Q I rx ry h
  obtain ⟨a, b, ks, ls, f, g, rfl, rfl, ea, eb, hf, hg, q⟩ := h
  obtain rfl : v = Value.ref a := rx
  obtain rfl : u = Value.ref b := ry
  obtain ⟨_, ya, va, ra, da⟩ := dk_rd I.hok ea
  obtain ⟨_, yb, vb, rb, db⟩ := dk_rd I.hok eb
  have e : eqKB ks ls f g = (va.length == vb.length && ks.all fun p => (valV ls p.1).isSome && PyData.eqv (f p.1) (g p.1)) := by
    unfold eqKB
    rw [Paired.length ra, Paired.length rb]
  rw [e] at q
  exact PySem.W.keq_eq (knd := mixKind X.prog X.w) ya yb da db (by omega) (fun _ => hitsD I (by show X.A.units + 1 + 64 < cLine; omega) rb hg ra hf) ⟨.bl _, H, I, rfl, q⟩
theorem op_neDD (hu : X.A.units + 65 < cLine) : OpR X (compareOp .NotEq) (rNeDD X.K) := by
  intro pins s σ H x y v u Q I rx ry h
  obtain ⟨a, b, ks, ls, f, g, rfl, rfl, ea, eb, hf, hg, q⟩ := h
  obtain rfl : v = Value.ref a := rx
  obtain rfl : u = Value.ref b := ry
  obtain ⟨_, ya, va, ra, da⟩ := dk_rd I.hok ea
  obtain ⟨_, yb, vb, rb, db⟩ := dk_rd I.hok eb
  have e : eqKB ks ls f g = (va.length == vb.length && ks.all fun p => (valV ls p.1).isSome && PyData.eqv (f p.1) (g p.1)) := by
    unfold eqKB
    rw [Paired.length ra, Paired.length rb]
  rw [e] at q
  exact PySem.W.keq_ne (knd := mixKind X.prog X.w) ya yb da db (by omega) (fun _ => hitsD I (by show X.A.units + 1 + 64 < cLine; omega) rb hg ra hf) ⟨.bl _, H, I, rfl, q⟩
end
/-! rows of texts under text keys -/
def ssD (ws : List Str) : PyData := .tuple (ws.map PyData.str)
theorem dpAll_strs {K : PySem.W.Frag} {H : Hp} : ∀ ws : List Str, DpAll K H (ws.map V.str) (ws.map PyData.str)
  | [] => .nil
  | z :: r => .cons (.str z) (dpAll_strs r)
end Ox
namespace Ox
open PySem PySem.Spec PyProof.Rows L2
theorem hu65 {A : Around} {k : Nat} (r : Room k A) : A.units + 65 < cLine := by have := r.un; omega
end Ox
namespace Ox
open PySem PySem.Spec PyProof.Rows L2
theorem wipe_one {σ : L2.St} {n : Nat} {v : Option V} : wipe ((wipe σ [n]).set n v) [n] = wipe σ [n] := by
  show ((σ.set n none).set n v).set n none = σ.set n none
  rw [List.set_set, List.set_set]
theorem filt_snoc {α : Type} {as : List α} {p : α → Bool} {i : Nat} {a : α} (h : as[i]? = some a) : (as.take (i + 1)).filter p = (as.take i).filter p ++ (if p a = true then [a] else []) := by
  have e : as.take (i + 1) = as.take i ++ [a] := by rw [List.take_succ, h]; rfl
  rw [e, List.filter_append, List.filter_cons]
  rfl
/-- a list comprehension over what c makes of the items of as: those with p, f of them -/
theorem lcFM {α : Type} {as : List α} {c : α → V} {J : It} {G : Hp → Prop} {n : Nat} {σ : L2.St} {H : Hp} {D : Addr} {Qd : Hp → Prop} {tt : TT} {te : TE} (w : L2.Walk J (as.map c).length G (L2.YAt (as.map c))) (hG : ∀ H', L2.Same H H' → G H') (hD : H D = none) (p : α → Bool) (f : α → V) (hl : as.length ≤ 10000)
    (ht : ∀ a ∈ as, ∀ H', L2.Same H H' → ∀ R : Bool → Hp → Prop, (∀ H'', L2.Same H' H'' → R (p a) H'') → tt ((wipe σ [n]).set n (some (c a))) H' R)
    (he : ∀ a ∈ as, p a = true → ∀ H', L2.Same H H' → ∀ Qk : VK, (∀ H'', L2.Same H' H'' → Qk (f a) H'') → te ((wipe σ [n]).set n (some (c a))) H' Qk)
    (k : ∀ H', L2.Same H H' → H' D = some (.lst ((as.filter p).map f)) → Qd H') : LcP J (gName n) tt te [n] σ D Qd H := by
  refine lc_by w (fun i H' => L2.Same H H' ∧ H' D = some (.lst (((as.take i).filter p).map f))) ⟨same_new hD, upd_same⟩ (fun i H' _ h => hG H' h.1) ?_ ?_
  · rintro i x H1 H2 hi ⟨s1, h1⟩ ⟨rfl, hx⟩
    rw [List.getElem?_map] at hx
    cases ha : as[i]? with
    | none => rw [ha] at hx; cases hx
    | some a =>
      rw [ha] at hx
      have ex : c a = x := Option.some.inj hx
      subst ex
      have hm := List.mem_of_getElem? ha
      refine x_g1 ⟨wipe_one, ?_⟩
      refine ht a hm H2 s1 _ fun H3 s3 => ?_
      have fl := filt_snoc (p := p) ha
      cases hp : p a with
      | true =>
        rw [hp, if_pos rfl] at fl
        refine x_T ?_
        refine he a hm hp H3 (s1.trans s3) _ fun H4 s4 => ?_
        have len : ((as.take i).filter p).length ≤ 10000 - 1 := by
          have := List.length_filter_le p (as.take i)
          rw [List.length_take] at this
          rw [List.length_map] at hi
          omega
        refine ⟨_, s4 _ _ (s3 _ _ h1), sz_lt (by rw [List.length_map]; omega), same_upd ((s1.trans s3).trans s4) hD, ?_⟩
        rw [upd_same, fl, List.map_append]
        rfl
      | false =>
        rw [hp, if_neg Bool.false_ne_true, List.append_nil] at fl
        refine x_F ?_
        refine ⟨s1.trans s3, ?_⟩
        rw [fl]
        exact s3 _ _ h1
  · rintro H1 ⟨s1, h1⟩
    rw [List.length_map, List.take_length] at h1
    exact k H1 s1 h1
/-- a dict comprehension: of those with p, the text kf and f of them; the texts are all different -/
theorem dcFM {α β : Type} {as : List α} {c : α → V} {g : β → V} {J : It} {G : Hp → Prop} {n : Nat} {σ : L2.St} {H : Hp} {D : Addr} {Qd : Hp → Prop} {tt : TT} {tk tv : TE} (w : L2.Walk J (as.map c).length G (L2.YAt (as.map c))) (hG : ∀ H', L2.Same H H' → G H') (hD : H D = none) (p : α → Bool) (kf : α → Str) (f : α → β) (hl : as.length ≤ 9999)
    (nd : ((as.filter p).map kf).Nodup)
    (ht : ∀ a ∈ as, ∀ H', L2.Same H H' → ∀ R : Bool → Hp → Prop, (∀ H'', L2.Same H' H'' → R (p a) H'') → tt ((wipe σ [n]).set n (some (c a))) H' R)
    (hk : ∀ a ∈ as, p a = true → ∀ H', L2.Same H H' → ∀ Qk : VK, (∀ H'', L2.Same H' H'' → Qk (.str (kf a)) H'') → tk ((wipe σ [n]).set n (some (c a))) H' Qk)
    (he : ∀ a ∈ as, p a = true → ∀ H', L2.Same H H' → ∀ Qk : VK, (∀ H'', L2.Same H' H'' → Qk (g (f a)) H'') → tv ((wipe σ [n]).set n (some (c a))) H' Qk)
    (k : ∀ H', L2.Same H H' → H' D = some (.dK (strK g ((as.filter p).map fun a => (kf a, f a)))) → Qd H') : DcP J (gName n) tt tk tv [n] σ D Qd H := by
  refine dc_by w (fun i H' => L2.Same H H' ∧ H' D = some (.dK (strK g (((as.take i).filter p).map fun a => (kf a, f a))))) ⟨same_new hD, upd_same⟩ (fun i H' _ h => hG H' h.1) ?_ ?_
  · rintro i x H1 H2 hi ⟨s1, h1⟩ ⟨rfl, hx⟩
    rw [List.getElem?_map] at hx
    cases ha : as[i]? with
    | none => rw [ha] at hx; cases hx
    | some a =>
      rw [ha] at hx
      have ex : c a = x := Option.some.inj hx
      subst ex
      have hm := List.mem_of_getElem? ha
      refine x_g1 ⟨wipe_one, ?_⟩
      refine ht a hm H2 s1 _ fun H3 s3 => ?_
      have fl := filt_snoc (p := p) ha
      cases hp : p a with
      | true =>
        rw [hp, if_pos rfl] at fl
        refine x_T ?_
        refine hk a hm hp H3 (s1.trans s3) _ fun H4 s4 => ?_
        refine he a hm hp H4 ((s1.trans s3).trans s4) _ fun H5 s5 => ?_
        have len : ((as.take i).filter p).length ≤ 9998 := by
          have := List.length_filter_le p (as.take i)
          rw [List.length_take] at this
          rw [List.length_map] at hi
          omega
        have fresh : kf a ∉ (((as.take i).filter p).map fun a => (kf a, f a)).map (·.1) := fun hmem => by
          rw [List.map_map] at hmem
          have e1 : as = as.take (i + 1) ++ as.drop (i + 1) := (List.take_append_drop _ _).symm
          rw [e1, List.filter_append, fl, List.map_append, List.map_append] at nd
          exact (List.nodup_append.mp (List.nodup_append.mp nd).1).2.2 (kf a) hmem (kf a) List.mem_cons_self rfl
        refine ⟨_, Sum.inr (kf a), rfl, s5 _ _ (s4 _ _ (s3 _ _ h1)), sz_lt (by rw [List.length_map, List.length_map]; omega), same_upd (((s1.trans s3).trans s4).trans s5) hD, ?_⟩
        rw [upd_same, strK_put, putL_new _ fresh, fl, List.map_append]
        rfl
      | false =>
        rw [hp, if_neg Bool.false_ne_true, List.append_nil] at fl
        refine x_F ?_
        refine ⟨s1.trans s3, ?_⟩
        rw [fl]
        exact s3 _ _ h1
  · rintro H1 ⟨s1, h1⟩
    rw [List.length_map, List.take_length] at h1
    exact k H1 s1 h1
/-! texts compared -/
theorem eqvAll_strs : ∀ xs ys : List Str, PyData.eqvAll (xs.map PyData.str) (ys.map PyData.str) = decide (xs = ys)
  | [], [] => rfl
  | [], _ :: _ => rfl
  | _ :: _, [] => rfl
  | x :: r, y :: t => by
    show (PyData.eqv (.str x) (.str y) && PyData.eqvAll (r.map PyData.str) (t.map PyData.str)) = _
    rw [eqvAll_strs r t]
    have e : PyData.eqv (.str x) (.str y) = decide (x = y) := by
      show (x == y) = _
      by_cases h : x = y
      · rw [h]; simp
      · have h2 : (x == y) = false := by simpa using h
        rw [h2]
        exact (decide_eq_false h).symm
    rw [e]
    by_cases h : x = y
    · by_cases h2 : r = t
      · simp [h, h2]
      · simp [h, h2]
    · simp [h]
theorem strs_lay : ∀ xs : List Str, (∀ z ∈ xs, PyData.strOk z = true) → PyData.canLayAll0 (xs.map PyData.str) = true ∧ PyData.depthAll (xs.map PyData.str) = 0
  | [], _ => ⟨rfl, rfl⟩
  | x :: r, h => by
    obtain ⟨h1, h2⟩ := strs_lay r fun y hy => h y (List.mem_cons_of_mem _ hy)
    have h3 := h x List.mem_cons_self
    rw [List.map_cons]
    refine ⟨?_, ?_⟩
    · show (PyData.strOk x && PyData.canLayAll0 (r.map PyData.str)) = true
      rw [h1, h3]
      rfl
    · show max 0 (PyData.depthAll (r.map PyData.str)) = 0
      rw [h2]
      rfl
theorem ssD_shaped {xs : List Str} (h : ∀ z ∈ xs, PyData.strOk z = true) : SeqAt.shaped (ssD xs) = true := by
  obtain ⟨h1, h2⟩ := strs_lay xs h
  unfold SeqAt.shaped
  have e1 : PyData.canLay0 (ssD xs) = true := h1
  have e2 : PyData.depth (ssD xs) ≤ 64 := by
    show PyData.depthAll (xs.map PyData.str) + 1 ≤ 64
    rw [h2]
    decide
  rw [e1, decide_eq_true e2]
  rfl
theorem ssL_shaped {xs : List Str} (h : ∀ z ∈ xs, PyData.strOk z = true) : SeqAt.shaped (.list (xs.map PyData.str)) = true := ssD_shaped h
theorem ssD_eqv (xs ys : List Str) : PyData.eqv (ssD xs) (ssD ys) = decide (xs = ys) := eqvAll_strs xs ys
section
variable {K : PySem.W.Frag} {H : Hp} {Q : VK} {a b : Addr} {xs ys : List Str}
theorem x_neTS (ha : SqT K H a (xs.map V.str)) (hb : SqT K H b (ys.map V.str)) (hx : ∀ z ∈ xs, PyData.strOk z = true) (hy : ∀ z ∈ ys, PyData.strOk z = true) (q : Q (.bl (!decide (xs = ys))) H) : rNeD K (.ref a) (.ref b) H Q :=
  ⟨_, _, .tup ha (dpAll_strs xs), .tup hb (dpAll_strs ys), ssD_shaped hx, ssD_shaped hy, by rw [show PyData.eqv (.tuple (xs.map PyData.str)) (.tuple (ys.map PyData.str)) = decide (xs = ys) from ssD_eqv xs ys]; exact q⟩
theorem x_neLS (ha : SqL K H a (xs.map V.str)) (hb : SqL K H b (ys.map V.str)) (hx : ∀ z ∈ xs, PyData.strOk z = true) (hy : ∀ z ∈ ys, PyData.strOk z = true) (q : Q (.bl (!decide (xs = ys))) H) : rNeD K (.ref a) (.ref b) H Q :=
  ⟨_, _, .lst ha (dpAll_strs xs), .lst hb (dpAll_strs ys), ssL_shaped hx, ssL_shaped hy, by rw [show PyData.eqv (.list (xs.map PyData.str)) (.list (ys.map PyData.str)) = decide (xs = ys) from eqvAll_strs xs ys]; exact q⟩
theorem x_eqTS (ha : SqT K H a (xs.map V.str)) (hb : SqT K H b (ys.map V.str)) (hx : ∀ z ∈ xs, PyData.strOk z = true) (hy : ∀ z ∈ ys, PyData.strOk z = true) (q : Q (.bl (decide (xs = ys))) H) : rEqD K (.ref a) (.ref b) H Q :=
  ⟨_, _, .tup ha (dpAll_strs xs), .tup hb (dpAll_strs ys), ssD_shaped hx, ssD_shaped hy, by rw [show PyData.eqv (.tuple (xs.map PyData.str)) (.tuple (ys.map PyData.str)) = decide (xs = ys) from ssD_eqv xs ys]; exact q⟩
theorem x_eqLS (ha : SqL K H a (xs.map V.str)) (hb : SqL K H b (ys.map V.str)) (hx : ∀ z ∈ xs, PyData.strOk z = true) (hy : ∀ z ∈ ys, PyData.strOk z = true) (q : Q (.bl (decide (xs = ys))) H) : rEqD K (.ref a) (.ref b) H Q :=
  ⟨_, _, .lst ha (dpAll_strs xs), .lst hb (dpAll_strs ys), ssL_shaped hx, ssL_shaped hy, by rw [show PyData.eqv (.list (xs.map PyData.str)) (.list (ys.map PyData.str)) = decide (xs = ys) from eqvAll_strs xs ys]; exact q⟩
theorem x_tupD {p : Addr} {kvs : List (Key × V)} (h : Rd H p (.dK kvs)) (q : ∀ l, H l = none → Q (.ref l) (upd H l (.tup (kvs.map fun kv => kV kv.1)))) : rTupD [V.ref p] H Q := ⟨p, kvs, rfl, h, q⟩
end
end Ox

/-! Own layer: sorted(a list of tuples of whole numbers, of any lengths, the empty one ahead). -/
namespace Ox
open PySem PySem.Spec PyProof.Rows L2
theorem lex_asym : ∀ a b : List Int, HT.lexLt a b = true → HT.lexLt b a = false
  | [], [], h => by cases h
  | [], _ :: _, _ => rfl
  | _ :: _, [], h => by cases h
  | x :: r, y :: t, h => by
    rw [HT.lexLt_cons] at h ⊢
    by_cases e : x = y
    · rw [if_pos e] at h
      rw [if_pos e.symm]
      exact lex_asym r t h
    · rw [if_neg e] at h
      rw [if_neg (fun q => e q.symm)]
      have := of_decide_eq_true h
      exact decide_eq_false (by omega)
theorem lex_trans : ∀ a b c : List Int, HT.lexLt b a = false → HT.lexLt c b = false → HT.lexLt c a = false
  | [], _, [], _, _ => rfl
  | [], [], _ :: _, _, _ => rfl
  | [], _ :: _, _ :: _, _, _ => rfl
  | _ :: _, [], _, h, _ => by cases h
  | _ :: _, _ :: _, [], _, h => by cases h
  | x :: r, y :: t, z :: u, h1, h2 => by
    rw [HT.lexLt_cons] at h1 h2 ⊢
    by_cases e1 : y = x
    · rw [if_pos e1] at h1
      by_cases e2 : z = y
      · rw [if_pos e2] at h2
        rw [if_pos (e2.trans e1)]
        exact lex_trans r t u h1 h2
      · rw [if_neg e2] at h2
        have := of_decide_eq_false h2
        rw [if_neg (by omega)]
        exact decide_eq_false (by omega)
    · rw [if_neg e1] at h1
      have a1 := of_decide_eq_false h1
      by_cases e2 : z = y
      · rw [if_neg (by omega)]
        exact decide_eq_false (by omega)
      · rw [if_neg e2] at h2
        have := of_decide_eq_false h2
        rw [if_neg (by omega)]
        exact decide_eq_false (by omega)
theorem lex_anti : ∀ a b : List Int, HT.lexLt b a = false → HT.lexLt a b = false → a = b
  | [], [], _, _ => rfl
  | [], _ :: _, _, h => by cases h
  | _ :: _, [], h, _ => by cases h
  | x :: r, y :: t, h1, h2 => by
    rw [HT.lexLt_cons] at h1 h2
    by_cases e : x = y
    · rw [if_pos e.symm] at h1
      rw [if_pos e] at h2
      rw [e, lex_anti r t h1 h2]
    · rw [if_neg (fun q => e q.symm)] at h1
      rw [if_neg e] at h2
      have := of_decide_eq_false h1
      have := of_decide_eq_false h2
      omega
theorem swo_lexL (k : Value → List Int) : SrtO.Swo fun v u => HT.lexLt (k v) (k u) := ⟨fun x y h => lex_asym _ _ h, fun x y z h1 h2 => lex_trans _ _ _ h1 h2⟩
/-- a tuple of the ints ns -/
def TupI (h : Heap) (v : Value) (ns : List Int) : Prop := ∃ a its, v = .ref a ∧ IsTup h a its ∧ IntsAre its.toList ns
theorem TupI.keep {h h' : Heap} {v : Value} {ns : List Int} (t : TupI h v ns) (k : ∀ b o, h.get? b = some o → o.cls = .type "tuple" → h'.get? b = some o) : TupI h' v ns := by
  obtain ⟨a, its, e, ⟨o, ho, hc, hd⟩, hi⟩ := t
  exact ⟨a, its, e, ⟨o, k a o ho hc, hc, hd⟩, hi⟩
section
variable {prog : Program} {w : World} {A : Around} {s : Shared}
/-- the first items of tuples, where they have any -/
theorem firstsG {M : Model} {E : Value → Shared → Prop} : ∀ (vs : List Value) {Q : List (Option Value) → Shared → Prop}, (∀ v ∈ vs, ∃ ns, TupI s.heap v ns) → (∀ gs : List (Option Value), gs.length = vs.length → (∀ v r, vs = v :: r → TupI s.heap v [] → ∃ g, gs = none :: g) → Q gs s) → wpAny M A (vs.mapM firstOfTuple') Q E s
  | [], _, _, h => by
    rw [List.mapM_nil]
    exact wpAny_pure (h [] rfl fun v r e => by cases e)
  | v :: vs, Q, t, h => by
    obtain ⟨ns, a, its, rfl, ⟨o, ho, hc, n, hd⟩, hi⟩ := t v List.mem_cons_self
    rw [List.mapM_cons]
    refine wpAny_bind ?_
    rw [PySem.W.kas_first_eq]
    refine wpAny_bind (PySem.W.Looks.here (show PySem.W.Looks M s.heap (typeOf (.ref a)) o.cls from (PySem.W.Looks.ld ho).andThen .now) ?_)
    rw [hc, if_neg (by first | decide | simp)]
    refine wpAny_bind (listItems_at ho hd (wpAny_pure ?_))
    refine wpAny_bind (firstsG vs (fun v hv => t v (List.mem_cons_of_mem _ hv)) fun gs hl _ => ?_)
    refine wpAny_pure (h (its[0]? :: gs) (by simp [hl]) fun v r e te => ?_)
    cases e
    obtain ⟨a', its', e', ⟨o', ho', hc', n', hd'⟩, hi'⟩ := te
    cases e'
    rw [ho] at ho'
    cases ho'
    rw [hd] at hd'
    cases hd'
    have : its.toList = [] := by
      cases hq : its.toList with
      | nil => rfl
      | cons x y => rw [hq] at hi'; cases hi'
    have e0 : its[0]? = none := by
      rw [← Array.getElem?_toList, this]
      rfl
    exact ⟨gs, by rw [e0]⟩
theorem kindLots {E : Value → Shared → Prop} {Q : SortKind → Shared → Prop} {v0 : Value} {r : List Value} (h0 : TupI s.heap v0 []) (ht : ∀ v ∈ v0 :: r, ∃ ns, TupI s.heap v ns) (h : Q oneType' s) : wpAny (model prog w) A (keyKind' (v0 :: r).toArray) Q E s := by
  rw [PyProof.Rows.kat_kind_eq, List.mapM_toArray, map_eq_pure_bind]
  refine wpAny_bind (wpAny_bind (firstsG (v0 :: r) ht fun gs hl hg => ?_))
  obtain ⟨g, rfl⟩ := hg v0 r rfl h0
  refine wpAny_pure ?_
  have hall : ((none :: g).toArray.all fun x : Option Value => x.isSome) = false := by simp
  rw [hall, if_neg Bool.false_ne_true]
  have h1 : (((none :: g).toArray[0]?).bind id : Option Value).isSome = false := by simp
  rw [h1, if_neg Bool.false_ne_true, oneTypeOnly'_eq, List.mapM_toArray, map_eq_pure_bind]
  refine wpAny_bind (wpAny_bind (wpAny_bind (PySem.W.kas_mapM (r := Value.type "tuple") _ (fun v hv Q' hq => ?_) (wpAny_pure ?_))))
  · obtain ⟨ns, a, its, rfl, ⟨o, ho, hc, hd⟩, _⟩ := ht v hv
    refine (show PySem.W.Looks (model prog w) s.heap (typeOf (.ref a)) o.cls from (PySem.W.Looks.ld ho).andThen .now).here ?_
    rw [hc]
    exact hq
  · have hall2 : ((List.map (fun _ => Value.type "tuple") (v0 :: r)).toArray.all fun x => x == Value.type "tuple") = true := by
      simp only [List.all_toArray, List.all_map, List.all_eq_true]
      intro _ _
      rfl
    have h00 : (List.map (fun _ => Value.type "tuple") (v0 :: r)).toArray[0]? = some (Value.type "tuple") := by simp
    rw [h00]
    simp only [hall2, if_true]
    exact wpAny_pure (wpAny_pure h)
theorem cmpLots {vs : List Value} {k : Value → List Int} (hu : A.units < cLine) (hp : ∀ v ∈ vs, TupI s.heap v (k v)) : SrtO.Cmp prog w A s oneType' (fun p => p.1 ∈ vs) (SrtO.lt2 fun v u => HT.lexLt (k v) (k u)) := by
  intro p q hm hm'
  obtain ⟨a, its, e, t1, i1⟩ := hp _ hm
  obtain ⟨b, its2, e2, t2, i2⟩ := hp _ hm'
  show wpAny (model prog w) A (keyLt' oneType' p.1 q.1) (fun r s' => s' = s ∧ r = HT.lexLt (k p.1) (k q.1)) (fun _ _ => False) s
  rw [keyLt'_oneType, oneLt'_eq, e, e2]
  rw [e] at i1
  rw [e2] at i2
  simp only [if_true]
  refine wpAny_bind (wpAny_cRoomFor hu ?_)
  obtain ⟨⟨cls, dd, data, sl⟩, ho, hc, n, hd⟩ := id t1
  obtain ⟨⟨cls2, dd2, data2, sl2⟩, ho2, hc2, n2, hd2⟩ := id t2
  simp only at hc hd hc2 hd2
  subst hc hd hc2 hd2
  refine wpAny_bind (wpAny_callSpecialIfBound?_slot (T := "tuple") ⟨_, ho, rfl⟩ PySem.F.slot_tuple_lt ?_)
  refine call_meets PySem.F.slot_tuple_lt ⟨_, ho, rfl⟩ PySem.F.entry_tuple_lt (PySem.F.args_tuple_lt_2 _ _) (HT.tuple_lt_ints a b its its2 n n2 dd dd2 sl sl2 _ _ i1 i2) ⟨ho, ho2, ?_⟩
  exact wpAny_truthy_bool ⟨rfl, rfl⟩
theorem sortedLots {l : Addr} {v0 : Value} {r : List Value} {k : Value → List Int} {E : Value → Shared → Prop} {Q : Value → Shared → Prop} (hu : A.units + 2 < cLine) (hl : s.heap.IsList l (v0 :: r).toArray) (hz : (v0 :: r).length ≤ sizeLine) (h0 : k v0 = []) (hp : ∀ v ∈ v0 :: r, TupI s.heap v (k v))
    (h : ∀ (h' : Heap) (d : Addr) (out : List Value), SrtO.Srtd (fun v u => HT.lexLt (k v) (k u)) out → out.Perm (v0 :: r) → (∀ b o, s.heap.get? b = some o → h'.get? b = some o) → s.heap.objs.size ≤ d → (∃ n, h'.get? d = some (seqObj "list" out.toArray n)) → Q (.ref d) { s with heap := h' }) :
    wpAny (model prog w) A (call (.builtin "sorted") [.ref l]) Q E s := by
  refine SrtO.sorted_ord (swo_lexL k) hl hz (fun h2 h₁ a ha kk => ?_) fun out hs hb => ?_
  · intro h' keep
    have ne : ∀ o, h₁.get? a = some o → o.cls ≠ .type "tuple" := fun o e => by
      rw [ha] at e
      cases e
      intro c
      exact absurd (Value.type.inj c) (by decide)
    have hp' : ∀ v ∈ v0 :: r, TupI h' v (k v) := fun v hm => (hp v hm).keep fun b o e c => keep b o (fun z => by subst z; exact ne o ((kk b o e).2) c) (kk b o e).2
    refine ⟨oneType', fun Q E hq => ?_, cmpLots (by show A.units + 1 + 1 < cLine; omega) hp'⟩
    refine kindLots (s := { s with heap := h' }) ?_ (fun v hv => ⟨_, hp' v hv⟩) hq
    have := hp' v0 List.mem_cons_self
    rw [h0] at this
    exact this
  · exact h _ _ out hs hb.perm (fun b o e => sortedAll_old e) (Nat.le_succ _) (sortedAll_at s.heap (v0 :: r) out.toArray)
end
/-! the rule: the items are references -/
def rSortLots (K : PySem.W.Frag) : List V → Hp → VK → Prop := fun vs H Q => ∃ (l a0 : Addr) (as : List Addr) (f : Addr → List Int), vs = [.ref l] ∧ SqL K H l ((a0 :: as).map V.ref) ∧ f a0 = [] ∧ (∀ a ∈ a0 :: as, SqT K H a ((f a).map V.int)) ∧
  ∀ (out : List Addr) (p : Addr), out.Perm (a0 :: as) → out.Pairwise (fun a b => HT.lexLt (f b) (f a) = false) → H p = none → Q (.ref p) (upd H p (.lst (out.map V.ref)))
def refOf : Value → Addr
  | .ref a => a
  | _ => 0
theorem vals_refs {as : List Addr} : ∀ {us : List Value}, Vals (as.map V.ref) us → us = as.map Value.ref := by
  induction as with
  | nil => intro us h; cases h; rfl
  | cons a r ih =>
    intro us h
    cases h with
    | cons h1 h2 => rw [ih h2, show _ = Value.ref a from h1]; rfl
theorem refs_vals : ∀ as : List Addr, Vals (as.map V.ref) (as.map Value.ref)
  | [] => .nil
  | a :: r => .cons rfl (refs_vals r)
theorem cr_sortedLots {X : Cx} (hu : X.A.units + 2 < cLine) : CallR X (.builtin "sorted") (rSortLots X.K) := by
  intro pins s σ H vs us Q I r h
  obtain ⟨l, a0, as, f, rfl, hs, h0, hf, q⟩ := h
  obtain ⟨its, rv, hl, hz⟩ := I.list hs
  obtain ⟨u, rfl, ru⟩ := vals1 r
  obtain rfl : u = Value.ref l := ru
  obtain rfl := vals_refs rv
  refine sortedLots (k := fun v => f (refOf v)) (v0 := .ref a0) (r := as.map Value.ref) hu hl.isList (by show ((a0 :: as).map Value.ref).length ≤ _; rw [← rv.length]; exact hz) h0 (fun v hv => ?_) fun h' d out h1 h2 kp hd hn => ?_
  · obtain ⟨a, ha, rfl⟩ := List.mem_map.mp (show v ∈ (a0 :: as).map Value.ref from hv)
    obtain ⟨its2, r2, p2, _⟩ := I.tuple (hf a ha)
    exact ⟨a, its2.toArray, rfl, p2, intsAre_of r2⟩
  · obtain ⟨n, hn⟩ := hn
    have eo : out = (out.map refOf).map Value.ref := by
      rw [List.map_map]
      conv => lhs; rw [← List.map_id out]
      refine List.map_congr_left fun v hv => ?_
      obtain ⟨a, _, rfl⟩ := List.mem_map.mp (show v ∈ (a0 :: as).map Value.ref from h2.mem_iff.mp hv)
      rfl
    have pm : (out.map refOf).Perm (a0 :: as) := by
      have := h2.map refOf
      have e2 : ((Value.ref a0 :: as.map Value.ref).map refOf) = a0 :: as := by
        show a0 :: (as.map Value.ref).map refOf = _
        rw [List.map_map]
        have : (refOf ∘ Value.ref) = (id : Addr → Addr) := rfl
        rw [this, List.map_id]
      rw [e2] at this
      exact this
    refine ⟨.ref d, upd H d (.lst ((out.map refOf).map V.ref)), I.laid (t' := s.toks) kp hd ⟨?_, (out.map refOf).map Value.ref, n, refs_vals _, by rw [← eo]; exact hn⟩, rfl, q _ d pm (List.pairwise_map.mpr h1) (I.hok.fresh hd)⟩
    rw [List.length_map, pm.length_eq]
    rw [List.length_map] at hz
    exact hz
end Ox
namespace Ox
open PySem PySem.Spec PyProof.Rows L2
theorem hu2 {A : Around} {k : Nat} (r : Room k A) : A.units + 2 < cLine := by have := r.un; omega
theorem op_catAK {X : Cx} {K : PySem.W.Frag} (e : X.K = K := by rfl) : OpR X (binaryOp .Add) (rCatA K) := e ▸ op_catA
theorem x_catA {K : PySem.W.Frag} {H : Hp} {Q : VK} {a b : Addr} {xs ys : List V} (ha : SqT K H a xs) (hb : H b = some (.tup ys)) (hy : ys ≠ []) (hl : xs.length + ys.length ≤ 10000) (q : ∀ p H', L2.Same H H' → H' p = some (.tup (xs ++ ys)) → Q (.ref p) H') : rCatA K (.ref a) (.ref b) H Q :=
  ⟨a, b, xs, ys, rfl, rfl, ha, SqT.of hb, sz_le hl, fun e => q b H (fun _ _ h => h) (by rw [e]; exact hb), fun _ e => absurd e hy, fun _ _ p hp => q p _ (same_new hp) upd_same⟩
end Ox

/-! Own layer: the law's own def, walked where it is called (so that no repr is under way there), and repr of nested data. -/
namespace Ox
open PySem PySem.Spec PyProof.Rows L2
section
variable {P : Program} {w : World} {K : PySem.W.Frag} {mg : Str → Option Value} {base : Heap}
/-- a law's promise: as FnOk, for the law's caller alone -/
structure FnL (P : Program) (w : World) (K : PySem.W.Frag) (mg : Str → Option Value) (base : Heap) (f : Addr) (fd : FuncData) (ps : List Str) (sp : Sp) : Prop where
  len : ∀ vs H Q E, sp vs H Q E → vs.length = ps.length
  run : ∀ (s : Shared) (H : Hp) (args : Args) (us : List Value) (vs : List V) (Q : VK), Env0 P w K mg base callerA [] s H → BindsTo s fd args (ps.zip us) → Vals vs us → sp vs H Q E0 →
    codeAny (model P w) callerA (.call (.ref f) args) (CR CX0 [] P w H s Q E0) s
/-- the body's context where the law's caller calls -/
abbrev cxL (P : Program) (w : World) (K : PySem.W.Frag) (mg : Str → Option Value) (base : Heap) (N : List Str) (qual : Str) (sc : Scope) (f : Addr) (cdv : Value) (s : Shared) (H : Hp) : Cx := cxOf CX0 P w K mg base N qual sc f cdv callerA [] s H E0
theorem Fun.okL {x qual : Str} {st : Stmt} {f : Addr} {fd : FuncData} {N ps : List Str} {k : Nat} {sp : Sp} (hr : Room (k + 1) callerA) (F : Fun K x qual st f fd) (S : FnScope N ps (defScope st)) (len : ∀ vs H Q E, sp vs H Q E → vs.length = ps.length)
    (body : ∀ (cdv : Value) (s : Shared) (H : Hp) (vs : List V) (Q : VK), Room k (callerA.deeper (envOfC qual (defScope st) s.heap.objs.size f cdv)) → sp vs H Q E0 →
      ∃ t, PSs (cxL P w K mg base N qual (defScope st) f cdv s H).nox (defBody st) t ∧ t { nx := fun _ H' => Q .non H', rt := Q } (start N vs) H) : FnL P w K mg base f fd ps sp := by
  obtain ⟨oc, od, kV, doc, pm, an, cdv, ct, osl, rfl, lk, hcd⟩ := F.ex
  refine ⟨len, ?_⟩
  intro s H args us vs Q e0 hb r hsp
  have old : ∀ b o, base.get? b = some o → s.heap.get? b = some o := fun b o e => (e0.bs b o e).1
  have par : ∀ y ∈ ps.zip us, (defScope st).names.lookup y.1 = some .local ∨ ((defScope st).names.lookup y.1 = some .cell ∧ ((cellsFrom (s.heap.objs.size + 1) (defScope st).names []).lookup y.1).isSome = true) := by
    rintro ⟨n, v⟩ hy
    exact (S.par n (List.of_mem_zip hy).1).imp id fun q => ⟨q, PySem.W.cellsFrom_some _ _ _ (.inl q)⟩
  refine codeAny_call_function hr.depth (e0.mod.kin.keeps old _ _ lk) rfl S.co S.gen rfl (PySem.W.codeRec_of (e0.mod.kin.keeps old) hcd) (hb _ _ _ _ (wpAny_newFunctionEnv_cells S.kind par ?_))
  rintro env rfl s1 x
  obtain ⟨t, ht, hq⟩ := body cdv s H vs Q (hr.deeper _) hsp
  refine ⟨(e0.mod.nolimit.keeps old).keeps x.toInCall.keep, codeAny_func ?_⟩
  have J : Inv (cxL P w K mg base N qual (defScope st) f cdv s H) [] (start N vs) H s1 := inv_start S rfl e0 (len _ _ _ _ hsp) r x
  refine wpAny_mono (ht.nox.run [] s1 _ H _ J hq) (fun fl s' z => ?_) fun _ _ z => z
  cases fl with
  | ret u =>
    obtain ⟨v, σ', H', I', rv, q⟩ := z
    exact ⟨v, H', I'.os, I'.bare, I'.base, I'.hok, rv, q⟩
  | next =>
    obtain ⟨σ', H', I', q⟩ := z
    exact ⟨V.non, H', I'.os, I'.bare, I'.base, I'.hok, rfl, q⟩
  | brk =>
    obtain ⟨_, _, _, q⟩ := z
    exact q.elim
  | cont =>
    obtain ⟨_, _, _, q⟩ := z
    exact q.elim
end
/-- where the law is called: H tracks the script at a, or nothing -/
theorem envL {P : Program} {w : World} {K : PySem.W.Frag} {mg mb : Str → Option Value} {s : Shared} {H : Hp} {a : Addr} {vs : List Value}
    (KX : K.In s.heap) (g : s.heap.Ns mainGlobals mg) (b : s.heap.Ns builtinsNs mb) (bb : ∀ x : Str, x ≠ "__name__" → mb x = bootBuiltins x) (lim : s.heap.NoLimit) (hg : s.gens = #[])
    (ha : s.heap.get? a = some { cls := .type "list", data := .seq vs.toArray }) (hA : ∀ c, c ≠ a → H c = none) (hK : H a = none ∨ K.lookup a = none) (hok : HOk P w H s.heap) :
    Env0 P w K mg (hidT s.heap H) callerA [] s H ∧ K.In (hidT s.heap H) ∧ (hidT s.heap H).Ns mainGlobals mg := by
  have nsOf : ∀ {c : Addr} {m : Str → Option Value}, s.heap.Ns c m → (hidT s.heap H).Ns c m := by
    rintro c m ⟨o, es, ep, e, d, r⟩
    refine ⟨o, es, ep, hidT_get e (hA c ?_), d, r⟩
    rintro rfl
    rw [ha] at e
    cases e
    cases d
  have inK : K.In (hidT s.heap H) := by
    intro c o e
    refine hidT_get (KX c o e) ?_
    by_cases hc : c = a
    · subst hc
      rcases hK with z | z
      · exact z
      · rw [z] at e; cases e
    · exact hA c hc
  obtain ⟨mc, l1, l2⟩ := lim
  exact ⟨⟨rfl, ⟨inK, nsOf g, ⟨mb, nsOf b, bb⟩, ⟨mc, nsOf l1, l2⟩⟩, fun c o e => of_hidT e, Nat.le_of_eq (hidT_size _ _), trivial, fun c hc => absurd (show c ∈ ([] : List Addr) from hc) (by simp), hok, .of_eq hg⟩, inK, nsOf g⟩
theorem endL {P : Program} {w : World} {s : Shared} {H : Hp} {r : Result} {s' : Shared} (hok : HOk P w H s.heap) (hO : Only H) (h : CR CX0 [] P w H s (fun v _ => v = .bl true) E0 r s') :
    r = .ok (.ret (.bool true)) ∧ OldK s.heap s'.heap ∧ s'.os = s.os ∧ AllBare s'.gens := by
  cases r with
  | error e => exact False.elim h
  | ok fl =>
    cases fl with
    | ret u =>
      obtain ⟨v, H', os, bare, un, hok', rv, q⟩ := h
      obtain rfl : v = V.bl true := q
      obtain rfl : u = Value.bool true := rv
      refine ⟨rfl, OldK.of_keep ?_, os, bare⟩
      intro b o e
      have nil : b ∉ frs ([] : List Env) := fun z => absurd (show b ∈ ([] : List Addr) from z) (by simp)
      rcases hO b with n | ⟨ob, xs, t⟩
      · exact un.keep b o e n nil (by simp)
      · have t1 : s.heap.get? b = some ob := (hok b _ t).1
        have t2 : s'.heap.get? b = some ob := (hok' b _ (un.frzs b ob _ t)).1
        rw [t1] at e
        rw [t2, Option.some.inj e]
    | next => exact False.elim h
    | brk => exact False.elim h
    | cont => exact False.elim h
/-- the law's end over a head by facts -/
theorem walk_ofL {l : PySem.W.OpenLaw} {n : Nat} {q : Program} {loose : List Str} {XP : (Str → Option Value) → Heap → Prop} {YP : World → Heap → Prop} {d : DefRec} {x : Str}
    (hn : l.most = some n) (hn2 : n ≤ sizeLine) (hdf : d.params.defaults = [])
    (F : ∀ (w : World) (mg : Str → Option Value) (fa : Addr) (h : Heap), YP w h → h.Ns mainGlobals mg → mg d.name = some (.ref fa) →
      ∃ (K : PySem.W.Frag) (fd : FuncData) (sp : Sp), K.In h ∧ (∀ (s : Shared) (u : Value), BindsTo s fd ⟨[u], []⟩ [(x, u)]) ∧
        (∀ (H : Hp) (a : Addr) (ns : List Int), ns.length ≤ n → Only H → SqL K H a (ns.map V.int) → sp [.ref a] H (fun v _ => v = .bl true) fun _ _ _ => False) ∧
        ∀ base : Heap, K.In base → base.Ns mainGlobals mg → FnL l.prog w K mg base fa fd [x] sp) :
    PySem.W.WalkO q loose XP YP l.row.toRowW d [] (fun f vs => PySem.call f vs) := by
  refine Att.attach_call hn hdf ?_
  intro w s₀ s₁ mg mb fa o pm cd doc a vs ns G Y ho hd hcd hmg hobj hints hlen hg
  obtain ⟨K, fd, sp, KX, hb, hsp, hF⟩ := F w mg fa _ Y G.T.g hmg
  have rv := vals_ints hints
  have lv := hints.length
  have go : ∀ H : Hp, Only H → (∀ c, c ≠ a → H c = none) → (H a = none ∨ K.lookup a = none) → HOk l.prog w H s₁.heap → SqL K H a (ns.map V.int) →
      codeAny (model l.prog w) callerA (.call (.ref fa) ⟨[.ref a], []⟩) (fun r s' => r = .ok (.ret (.bool true)) ∧ OldK s₁.heap s'.heap ∧ s'.os = s₁.os ∧ AllBare s'.gens) s₁ := by
    intro H hO hA hK hok hS
    obtain ⟨e0, k1, k2⟩ := envL KX G.T.g G.T.b G.T.builtins G.T.nolimit hg hobj hA hK hok
    exact codeAny_mono ((hF _ k1 k2).run s₁ H _ [.ref a] [.ref a] _ e0 (hb s₁ (.ref a)) (.cons rfl .nil) (hsp H a ns hlen hO hS)) fun r s' z => endL hok hO z
  by_cases hk : K.lookup a = none
  · refine go (upd (fun _ => none) a (.frz { cls := .type "list", data := .seq vs.toArray } (.lst (ns.map V.int)))) (fun b => ?_) (fun c hc => upd_ne hc) (.inr hk) (fun b u z => ?_) (.inl (.inr ⟨_, upd_same⟩))
    · by_cases hb : b = a
      · exact .inr ⟨_, _, by rw [hb]; exact upd_same⟩
      · exact .inl (upd_ne hb)
    · by_cases hb : b = a
      · subst hb
        rw [upd_same] at z
        cases z
        exact ⟨hobj, by rw [List.length_map]; omega, vs, _, rv, hobj⟩
      · rw [upd_ne hb] at z
        cases z
  · obtain ⟨o', hk'⟩ := Option.ne_none_iff_exists'.mp hk
    have e := KX a o' hk'
    rw [hobj] at e
    cases e
    exact go (fun _ => none) (fun _ => .inl rfl) (fun _ _ => rfl) (.inl rfl) (fun _ _ z => by cases z) (.inr ⟨_, vs.toArray, _, hk', rfl, rfl, rfl, by rw [List.size_toArray]; omega, by simpa using rv⟩)
/-! ### repr of nested data -/
/-- a dict's key as data -/
def kD : Key → PyData
  | .inl i => .int i
  | .inr x => .str x
def zipK : List (Key × V) → List PyData → List (PyData × PyData)
  | (k, _) :: r, d :: ds => (kD k, d) :: zipK r ds
  | _, _ => []
theorem zipK_keys : ∀ {kvs : List (Key × V)} {ds : List PyData}, ds.length = kvs.length → (zipK kvs ds).map (·.1) = kvs.map fun p => kD p.1
  | [], [], _ => rfl
  | (k, v) :: r, d :: ds, h => by
    show kD k :: (zipK r ds).map (·.1) = kD k :: r.map fun p => kD p.1
    rw [zipK_keys (by simpa using h)]
  | [], _ :: _, h => by simp at h
  | _ :: _, [], h => by simp at h
theorem zipK_vals : ∀ {kvs : List (Key × V)} {ds : List PyData}, ds.length = kvs.length → (zipK kvs ds).map (·.2) = ds
  | [], [], _ => rfl
  | (k, v) :: r, d :: ds, h => by
    show d :: (zipK r ds).map (·.2) = d :: ds
    rw [zipK_vals (by simpa using h)]
  | [], _ :: _, h => by simp at h
  | _ :: _, [], h => by simp at h
mutual
/-- what stands at v in H, as data -/
inductive Shw (H : Hp) : V → PyData → Prop
  | non : Shw H .non .none
  | bl (b : Bool) : Shw H (.bl b) (.bool b)
  | int (i : Int) : Shw H (.int i) (.int i)
  | str (x : Str) : Shw H (.str x) (.str x)
  | lst {a : Addr} {xs : List V} {ds : List PyData} : Rd H a (.lst xs) → ShwA H xs ds → Shw H (.ref a) (.list ds)
  | tup {a : Addr} {xs : List V} {ds : List PyData} : H a = some (.tup xs) → ShwA H xs ds → Shw H (.ref a) (.tuple ds)
  | dK {a : Addr} {kvs : List (Key × V)} {ds : List PyData} : Rd H a (.dK kvs) → ShwA H (kvs.map (·.2)) ds → Shw H (.ref a) (.dict (zipK kvs ds))
inductive ShwA (H : Hp) : List V → List PyData → Prop
  | nil : ShwA H [] []
  | cons {v : V} {d : PyData} {vs : List V} {ds : List PyData} : Shw H v d → ShwA H vs ds → ShwA H (v :: vs) (d :: ds)
end
theorem ShwA.len {H : Hp} : ∀ {vs : List V} {ds : List PyData}, ShwA H vs ds → ds.length = vs.length
  | _, _, .nil => rfl
  | _, _, .cons _ r => by simp [r.len]
theorem ReadsAll.app1 {h : Heap} : ∀ {us : List Value} {ds : List PyData}, (∀ p ∈ us.zip ds, Reads h p.1 p.2 []) → us.length = ds.length → ReadsAll h us ds []
  | [], [], _, _ => .nil
  | u :: us, d :: ds, k, l => ReadsAll.cons (as := []) (bs := []) (k (u, d) (by simp)) (app1 (fun p hp => k p (by simp [hp])) (by simpa using l))
  | [], _ :: _, _, l => by simp at l
  | _ :: _, [], _, l => by simp at l
theorem keysRead {P : Program} {w : World} {h : Heap} : ∀ {es : List DictEntry} {vs : List (Key × Value)}, Pairs (mixKind P w) es vs → ReadsAll h (es.map (·.key)) (vs.map fun p => kD p.1) [] ∧ es.map (·.val) = vs.map (·.2)
  | _, _, .nil => ⟨.nil, rfl⟩
  | _, _, .cons (e := e) (kv := kv) hk hv r => by
    obtain ⟨i1, i2⟩ := keysRead r
    refine ⟨ReadsAll.cons (as := []) (bs := []) ?_ i1, by rw [List.map_cons, List.map_cons, i2, hv]⟩
    obtain ⟨k, v⟩ := kv
    rcases keyIs_shape hk with ⟨i, t, e1, e2⟩ | ⟨x, t, e1, e2⟩
    · have e1' : k = Sum.inl i := e1
      subst e1'
      show Reads h e.key _ []
      rw [e2]
      exact Reads.int i t
    · have e1' : k = Sum.inr x := e1
      subst e1'
      show Reads h e.key _ []
      rw [e2]
      exact Reads.str x t
theorem kv_keys : ∀ {kvs : List (Key × V)} {vs : List (Key × Value)}, KV kvs vs → vs.map (fun p => kD p.1) = kvs.map (fun p => kD p.1) ∧ Vals (kvs.map (·.2)) (vs.map (·.2))
  | _, _, .nil => ⟨rfl, .nil⟩
  | _, _, .cons r t => by
    obtain ⟨i1, i2⟩ := kv_keys t
    exact ⟨by rw [List.map_cons, List.map_cons, i1, r.1], .cons r.2 i2⟩
mutual
theorem Shw.reads {P : Program} {w : World} {H : Hp} {h : Heap} (ok : HOk P w H h) : ∀ {v : V} {d : PyData}, Shw H v d → ∀ {u : Value}, RelV v u → ∃ as, Reads h u d as ∧ ∀ b ∈ as, H b ≠ none
  | _, _, .non, u, r => by
    obtain rfl : u = Value.none := r
    exact ⟨[], .none, fun b hb => by cases hb⟩
  | _, _, .bl b, u, r => by
    obtain rfl : u = Value.bool b := r
    exact ⟨[], .bool b, fun b hb => by cases hb⟩
  | _, _, .int i, u, r => by
    obtain ⟨t, rfl⟩ := r
    exact ⟨[], .int i t, fun b hb => by cases hb⟩
  | _, _, .str x, u, r => by
    obtain ⟨t, rfl⟩ := r
    exact ⟨[], .str x t, fun b hb => by cases hb⟩
  | _, _, .lst (a := a) (xs := xs) ha hs, u, r => by
    obtain rfl : u = Value.ref a := r
    obtain ⟨_, its, n, rv, hg⟩ := ha.ok ok
    obtain ⟨as, hr, hn⟩ := ShwA.reads ok hs rv
    refine ⟨a :: as, .list hg rfl rfl hr, fun b hb => ?_⟩
    rcases List.mem_cons.mp hb with rfl | hb
    · rcases ha with z | ⟨o, z⟩ <;> rw [z] <;> simp
    · exact hn b hb
  | _, _, .tup (a := a) ha hs, u, r => by
    obtain rfl : u = Value.ref a := r
    obtain ⟨_, its, rv, o, hg, hc, n, hd⟩ := ok a _ ha
    obtain ⟨as, hr, hn⟩ := ShwA.reads ok hs rv
    exact ⟨as, .tuple hg hc hd hr, hn⟩
  | _, _, .dK (a := a) (kvs := kvs) ha hs, u, r => by
    obtain rfl : u = Value.ref a := r
    obtain ⟨_, _, vs, rel, o, es, ep, hg, hx, hd, _, hp, _⟩ := ha.ok ok
    obtain ⟨k1, k2⟩ := keysRead (h := h) hp
    obtain ⟨k3, k4⟩ := kv_keys rel
    obtain ⟨as, hr, hn⟩ := ShwA.reads ok hs k4
    refine ⟨a :: [] ++ as, .dict hg hx.1 hd ?_ ?_, fun b hb => ?_⟩
    · rw [zipK_keys (by rw [hs.len, List.length_map]), ← k3]
      exact k1
    · rw [zipK_vals (by rw [hs.len, List.length_map]), k2]
      exact hr
    · rcases List.mem_cons.mp hb with rfl | hb
      · rcases ha with z | ⟨o, z⟩ <;> rw [z] <;> simp
      · exact hn b hb
theorem ShwA.reads {P : Program} {w : World} {H : Hp} {h : Heap} (ok : HOk P w H h) : ∀ {vs : List V} {ds : List PyData}, ShwA H vs ds → ∀ {us : List Value}, Vals vs us → ∃ as, ReadsAll h us ds as ∧ ∀ b ∈ as, H b ≠ none
  | _, _, .nil, us, r => by
    cases r
    exact ⟨[], .nil, fun b hb => by cases hb⟩
  | _, _, .cons hv hs, us, r => by
    cases r with
    | cons r1 r2 =>
      obtain ⟨as, h1, n1⟩ := Shw.reads ok hv r1
      obtain ⟨bs, h2, n2⟩ := ShwA.reads ok hs r2
      exact ⟨as ++ bs, .cons h1 h2, fun b hb => (List.mem_append.mp hb).elim (n1 b) (n2 b)⟩
end
theorem rd_same {H H' : Hp} {a : Addr} {u : HO} (s : L2.Same H H') (h : Rd H a u) : Rd H' a u := h.imp (s _ _) fun ⟨o, h⟩ => ⟨o, s _ _ h⟩
mutual
theorem Shw.same {H H' : Hp} (s : L2.Same H H') : ∀ {v : V} {d : PyData}, Shw H v d → Shw H' v d
  | _, _, .non => .non
  | _, _, .bl b => .bl b
  | _, _, .int i => .int i
  | _, _, .str x => .str x
  | _, _, .lst h hs => .lst (rd_same s h) (ShwA.same s hs)
  | _, _, .tup h hs => .tup (s _ _ h) (ShwA.same s hs)
  | _, _, .dK h hs => .dK (rd_same s h) (ShwA.same s hs)
theorem ShwA.same {H H' : Hp} (s : L2.Same H H') : ∀ {vs : List V} {ds : List PyData}, ShwA H vs ds → ShwA H' vs ds
  | _, _, .nil => .nil
  | _, _, .cons h hs => .cons (Shw.same s h) (ShwA.same s hs)
end
theorem vals_of1 {x : V} {us : List Value} (r : Vals [x] us) : ∃ u, us = [u] ∧ RelV x u := vals1 r
/-- repr(x) -/
def rRepr : List V → Hp → VK → Prop := fun xs H Q => ∃ (v : V) (d : PyData), xs = [v] ∧ Shw H v d ∧ d.showable = true ∧ d.depth ≤ 64 ∧ d.shown.length ≤ sizeLine ∧ Q (.str d.shown) H
theorem call_repr {X : Cx} (hg : X.A.guards = some []) (hu : X.A.units + 100 < cLine) (hm : (X.K.lookup sysModules).isSome = true) : CallR X (.builtin "repr") rRepr := by
  intro pins s σ H xs us Q I r h
  obtain ⟨v, d, rfl, sh, hs, hd, hz, q⟩ := h
  obtain ⟨u, rfl, ru⟩ := vals1 r
  have deep : ∀ a, v = .ref a → wpAny (model X.prog X.w) X.A (call (.builtin "repr") [u]) (EP X pins σ Q) X.xe s := by
    rintro a rfl
    obtain rfl : u = Value.ref a := ru
    obtain ⟨as, hr, hn⟩ := sh.reads I.hok rfl
    obtain ⟨o, ho⟩ := Option.isSome_iff_exists.mp hm
    have nm : sysModules ∉ as := fun z => hn _ z (I.bs _ _ (I.mod.kin _ _ ho)).2
    exact repr_of_reads' hr hs (fun _ => nm) hg (by omega) (fun _ _ e => e) (fun h' u tk k => ⟨.str _, H, I.kept k, ⟨_, rfl⟩, q⟩) hz
  cases sh with
  | non =>
    obtain rfl : u = Value.none := ru
    exact PySem.P.repr_of_none ⟨.str _, H, I.tok _, ⟨_, rfl⟩, q⟩
  | bl b =>
    obtain rfl : u = Value.bool b := ru
    exact PySem.P.repr_of_bool ⟨.str _, H, I.tok _, ⟨_, rfl⟩, q⟩
  | int i =>
    obtain ⟨t, rfl⟩ := ru
    exact PySem.P.repr_of_int (of_decide_eq_true hs) ⟨.str _, H, I.tok _, ⟨_, rfl⟩, q⟩
  | str x =>
    obtain ⟨t, rfl⟩ := ru
    exact PySem.P.repr_of_str ⟨.str _, H, I.tok _, ⟨_, rfl⟩, q⟩ hz
  | lst _ _ => exact deep _ rfl
  | tup _ _ => exact deep _ rfl
  | dK _ _ => exact deep _ rfl
/-- small data -/
structure Sm (B : Nat) (d : PyData) : Prop where
  sh : d.showable = true
  dp : d.depth ≤ 5
  ln : d.shown.length ≤ B
theorem Sm.mono {B C : Nat} {d : PyData} (h : Sm B d) (hb : B ≤ C) : Sm C d := ⟨h.sh, h.dp, Nat.le_trans h.ln hb⟩
/-- a list's or tuple's own data out of its items' -/
theorem items_of {H : Hp} {B : Nat} : ∀ {xs : List V}, (∀ y ∈ xs, ∃ d, Shw H y d ∧ d.showable = true ∧ d.depth ≤ 4 ∧ d.shown.length ≤ B) → ∃ ds, ShwA H xs ds ∧ PyData.showableAll ds = true ∧ PyData.depthAll ds ≤ 4 ∧ ((PyData.shownAll ds).map (·.length)).sum ≤ xs.length * B ∧ (PyData.shownAll ds).length = xs.length
  | [], _ => ⟨[], .nil, rfl, Nat.zero_le _, Nat.zero_le _, rfl⟩
  | y :: r, h => by
    obtain ⟨d, h1, h2, h3, h4⟩ := h y List.mem_cons_self
    obtain ⟨ds, g1, g2, g3, g4, g5⟩ := items_of fun z hz => h z (List.mem_cons_of_mem _ hz)
    refine ⟨d :: ds, .cons h1 g1, ?_, ?_, ?_, ?_⟩
    · show (d.showable && PyData.showableAll ds) = true
      rw [h2, g2]; rfl
    · show max d.depth (PyData.depthAll ds) ≤ 4
      omega
    · show ((d.shown :: PyData.shownAll ds).map (·.length)).sum ≤ (r.length + 1) * B
      rw [List.map_cons, List.sum_cons, Nat.succ_mul]
      omega
    · show (d.shown :: PyData.shownAll ds).length = _
      rw [List.length_cons, List.length_cons, g5]
theorem row_shw {H : Hp} {B : Nat} {a : Addr} {xs : List V} (ha : Rd H a (.lst xs) ∨ H a = some (.tup xs)) (h : ∀ y ∈ xs, ∃ d, Shw H y d ∧ d.showable = true ∧ d.depth ≤ 4 ∧ d.shown.length ≤ B) : ∃ d, Shw H (.ref a) d ∧ Sm (xs.length * (B + 2) + 3) d := by
  obtain ⟨ds, g1, g2, g3, g4, g5⟩ := items_of h
  have key : ((PyData.shownAll ds).map (·.length)).sum + 2 * (PyData.shownAll ds).length + 3 ≤ xs.length * (B + 2) + 3 := by
    rw [g5, Nat.mul_add]
    omega
  rcases ha with ha | ha
  · exact ⟨_, .lst ha g1, g2, by show PyData.depthAll ds + 1 ≤ 5; omega, Nat.le_trans (listText_len_le _) key⟩
  · exact ⟨_, .tup ha g1, g2, by show PyData.depthAll ds + 1 ≤ 5; omega, Nat.le_trans (tupleText_len_le _) key⟩
end Ox

/-! Own layer: defs that raise, own exceptions without __init__, try .. except X as e. -/
namespace Ox
open PySem PySem.Spec PyProof.Rows L2
abbrev veB : List Value := [.type "ValueError", .type "Exception", .type "BaseException", .type "object"]
/-- the module's name x is an own exception class at C, under ValueError, without own __init__ -/
structure Exc0 (K : PySem.W.Frag) (mg : Str → Option Value) (x : Str) (C : Addr) : Prop where
  gC : mg x = some (.ref C)
  xC : PySem.W.excIn K C veB "ValueError.__new__" = true
  kC : PySem.W.keepIn K (.ref C) = true
  bC : PySem.W.subIn K (.ref C) (.type "BaseException") = some true
  tC : PySem.W.typeIn K (.ref C) = some (.type "type")
/-- .. as a fact -/
def exc0F (x : Str) : PySem.W.Frag → Bool := fun K => PySem.W.excIn K (He.ga K x) veB "ValueError.__new__" && (PySem.W.keepIn K (.ref (He.ga K x)) && (decide (PySem.W.subIn K (.ref (He.ga K x)) (.type "BaseException") = some true) && decide (PySem.W.typeIn K (.ref (He.ga K x)) = some (.type "type"))))
theorem exc0F_ok {x : Str} {K : PySem.W.Frag} {mg : Str → Option Value} (g : mg x = some (.ref (He.ga K x))) (h : exc0F x K = true) : Exc0 K mg x (He.ga K x) := by
  obtain ⟨h1, h⟩ := Bool.and_eq_true_iff.mp h
  obtain ⟨h2, h⟩ := Bool.and_eq_true_iff.mp h
  obtain ⟨h3, h4⟩ := Bool.and_eq_true_iff.mp h
  exact ⟨g, h1, h2, of_decide_eq_true h3, of_decide_eq_true h4⟩
/-- the class C's instances, asked by isinstance -/
def excCF (x : Str) : PySem.W.Frag → Bool := fun K => xfB K (He.ga K x) && (He.eqO (PySem.W.findIn K (.ref (He.ga K x)) "__class__") (some (some (.builtin "object.__class__"))) && (He.eqO (PySem.W.specialIn K (.builtin "object.__class__") "__get__") (some (some (.builtin "getset_descriptor.__get__"))) &&
  (decide (PySem.W.takesIn K (.builtin "object.__class__") = some true) && decide (PySem.W.mroIn K (He.ga K x) (.type "object") = some true))))
theorem excCF_ok {x : Str} {K : PySem.W.Frag} (h : excCF x K = true) : ExcC K (He.ga K x) := by
  obtain ⟨h1, h⟩ := Bool.and_eq_true_iff.mp h
  obtain ⟨h2, h⟩ := Bool.and_eq_true_iff.mp h
  obtain ⟨h3, h⟩ := Bool.and_eq_true_iff.mp h
  obtain ⟨h4, h5⟩ := Bool.and_eq_true_iff.mp h
  have t := xfB_ok h1
  exact ⟨t.ga, t.gg, t.exC, t.hdC, He.eqO_ok h2, He.eqO_ok h3, of_decide_eq_true h4, of_decide_eq_true h5⟩
/-- `except D` asked of an error of class C -/
def exmF (C D : Str) (b : Bool) : PySem.W.Frag → Bool := fun K => decide (PySem.W.exmOne K (.ref (He.ga K C)) (.ref (He.ga K D)) = some b)
theorem exmF_ok {C D : Str} {b : Bool} {K : PySem.W.Frag} (h : exmF C D b K = true) : PySem.W.exmOne K (.ref (He.ga K C)) (.ref (He.ga K D)) = some b := of_decide_eq_true h
/-- isinstance against a built-in class -/
def kitTF (C : Str) (T : String) (b : Bool) : PySem.W.Frag → Bool := fun K => decide (PySem.W.kitOne K (.ref (He.ga K C)) (.type T) = some b)
theorem kitTF_ok {C : Str} {T : String} {b : Bool} {K : PySem.W.Frag} (h : kitTF C T b K = true) : PySem.W.kitOne K (.ref (He.ga K C)) (.type T) = some b := of_decide_eq_true h
/-! ### callees that may raise -/
section
variable (P : Program) (w : World) (K : PySem.W.Frag) (mg : Str → Option Value) (base : Heap)
structure CalX (k : Nat) (x : Str) (ps : List Str) (sp : Sp) : Prop where
  ex : ∃ f fd, FnOk P w K mg base (L2.CX P w) k f fd ps sp ∧ mg x = some (.ref f) ∧ PySem.W.keepIn K (.ref f) = true ∧ Binds K fd ps []
structure MetX (C : Addr) (k : Nat) (m : Str) (ps : List Str) (sp : Sp) : Prop where
  ex : ∃ f fd, Meth K C m f ∧ FnOk P w K mg base (L2.CX P w) k f fd ps sp ∧ Binds K fd ps []
end
/-- a wish that nothing is let out -/
def W0 : WX := fun _ _ _ _ => False
theorem takesN {X : Cx} : Takes X W0 := takes0
section
variable {X : Cx} {k : Nat} {x : Str} {ps : List Str} {sp : Sp} {e : Expr} {es : List Expr} {t : TA} {pos p : Pos} {W : WX}
theorem pe_calX (c : CalX X.prog X.w X.K X.mg X.base k x ps sp) (hr : Room k X.A) (hg : Gl X x) (tk : Takes X W) (ha : PA X (e :: es) t)
    (hs : starEach (e :: es) X.env = (false, eval e X.env) :: starEach es X.env := by rfl) (hp : (backTo pos (starEach es X.env)).any (·.1) = false := by rfl)
    (hdb : (x == ("__debug__" : Str)) = false := by decide) : PE X (.Call (.Name x p) (e :: es) [] pos) (tCallS sp (WE W) t) := by
  obtain ⟨f, fd, F, g, kp, b⟩ := c.ex
  exact pe_callS F hr hg g kp b (fun σ => passAt tk σ) ha hdb hs hp
/-- X() -/
theorem pmk_own0 {C : Addr} (c : Exc0 X.K X.mg x C) (hg : Gl X x) (hdb : (x == ("__debug__" : Str)) = false := by decide) :
    PMk X (.Call (.Name x p) [] [] pos) (fun _ H Q => Q (.ref C) none H) := by
  intro pins s σ H Q I h
  refine wpAny_Call_Name_kw (ld_glob I hg c.gC ?_ hdb)
  refine PySem.W.callWith_K0 I.kIn c.kC ?_
  show wpAny _ _ (call (.ref C) []) _ _ _
  obtain ⟨bm, N, nm, qn, bs, hdct, sn, sub, ab, col, dd, k0, k1, k2, k3, k5, mN, hC, hN, hni, T⟩ := exc_obj I.kIn c.xC
  refine wpAny_call_exc_subT PySem.F.excBase_ValueError T hC hN hni (fun h' e hm => ?_) (Nat.zero_le _)
  exact mk_of I hm (raises_own c.bC c.tC) h (I.hok.gone hm.new)
/-- raise X() -/
def tRaise0 (C : Addr) (W : WX) : TS := fun _ σ H => W (.ref C) none σ H
theorem ps_raise0 {C : Addr} {pos2 : Pos} (hc : X.calm = true) (tk : Takes X W) (c : Exc0 X.K X.mg x C) (hg : Gl X x) (hdb : (x == ("__debug__" : Str)) = false := by decide) :
    PS X (.Raise (some (.Call (.Name x p) [] [] pos)) none pos2) (tRaise0 C W) := ps_raise hc tk (pmk_own0 c hg hdb)
/-- the same reading in another word -/
theorem psEq {b : List Stmt} {u v : TS} (h : PSs X b u) (e : v = u := by rfl) : PSs X b v := by
  rw [e]
  exact h
end
section
variable {σ : L2.St} {H : Hp} {Q : VK} {D : Ends} {W : WX} {sp : Sp} {E : L2.St → XK} {t : TA} {C : Addr} {K : PySem.W.Frag}
theorem x_callS (q : t σ H fun vs H1 => sp vs H1 Q (E σ)) : tCallS sp E t σ H Q := q
theorem x_raise0 (q : W (.ref C) none σ H) : tRaise0 C W D σ H := q
end
/-! ### try .. except X as n -/
/-- its reading -/
def tTry (K : PySem.W.Frag) (c : Value) (i : Nat) (tb : WX → TS) (ts : Addr → Value → Option Addr → TS) (Wout : WX) : TS := fun D σ H => tb (wAs K c i ts Wout D) D σ H
/-- the ends of a suite whose name goes -/
def sEnds (i : Nat) (D : Ends) : Ends := { nx := fun σ' H' => D.nx (σ'.set i none) H', rt := D.rt, bk := fun σ' H' => D.bk (σ'.set i none) H', ct := fun σ' H' => D.ct (σ'.set i none) H' }
section
variable {σ : L2.St} {H : Hp} {D : Ends} {K : PySem.W.Frag} {c cls : Value} {d : Option Addr} {i : Nat} {tb : WX → TS} {ts : Addr → Value → Option Addr → TS} {Wout : WX}
theorem x_try (q : tb (wAs K c i ts Wout D) D σ H) : tTry K c i tb ts Wout D σ H := q
/-- caught -/
theorem x_caught (e : PySem.W.exmOne K cls c = some true) (q : ∀ a, H a = none → ts a cls d (sEnds i D) (σ.set i (some (.ref a))) H) : wAs K c i ts Wout D cls d σ H :=
  ⟨true, e, fun _ a ha => q a ha, fun z => nomatch z⟩
theorem x_caughtE (e : PySem.W.exmOne K cls c = some true) (q : ∀ a, H a = none → ts a cls d (sEnds i D) (σ.set i (some (.ref a))) H) : WE (wAs K c i ts Wout D) σ cls d H := x_caught e q
end
section
variable {X : Cx} {x n : Str} {c : Value} {i : Nat} {body suite : List Stmt} {b₀ : Stmt} {np pos pos' : Pos} {tb : WX → TS} {ts : Addr → Value → Option Addr → TS} {Wout : WX}
theorem ps_tryAs (hN : X.N.Nodup) (hs : X.stack = X.env :: X.outer) (hf : X.env.frame = some X.env.locals) (hi : X.N[i]? = some n) (hln : X.env.kindOf n = some .local) (hg : Gl X x) (hm : X.mg x = some c) (tk : Takes X Wout)
    (hb : ∀ (W : WX) (pn : List (Addr × Obj)) (xe : Value → Shared → Prop), Takes (X.tr pn xe) W → PassesOwn (model X.prog X.w) X.A X.env xe → PSs (X.tr pn xe) body (tb W))
    (hsu : ∀ (a : Addr) (oe : Obj) (cls : Value) (d : Option Addr) (pn : List (Addr × Obj)), Zc cls d oe → (∃ vs, oe.data = .fields vs) → PSs (X.suite a ((a, oe) :: pn)) (b₀ :: suite) (ts a cls d)) (hdb : (x == ("__debug__" : Str)) = false := by decide) :
    PS X (.Try body [.ExceptHandler (some (.Name x np)) (some n) (b₀ :: suite) pos'] [] [] pos) (tTry X.K c i tb ts Wout) :=
  ps_try_as hs hf hN hi hln ⟨hg, hdb, .inl hm⟩ tk hb hsu
end
/-! ### isinstance(e, C), e the caught one -/
def rIsX (K : PySem.W.Frag) (a : Addr) (cls : Value) (d : Option Addr) : List V → Hp → VK → Prop := fun xs H Q => ∃ D, cls = .ref D ∧ d = none ∧ ExcC K D ∧ rIsE K D a xs H Q
theorem call_isX {X : Cx} {a : Addr} {cls : Value} {d : Option Addr} {oe : Obj} {pn : List (Addr × Obj)} (hz : Zc cls d oe) (hf : ∃ vs, oe.data = .fields vs) : CallR (X.suite a ((a, oe) :: pn)) (.builtin "isinstance") (rIsX X.K a cls d) := by
  intro pins s σ H xs us Q I r h
  obtain ⟨D, rfl, rfl, hC, h⟩ := h
  exact call_isE hC hz hf pins s σ H xs us Q I r h
section
variable {H : Hp} {Q : VK} {K : PySem.W.Frag} {a D C : Addr} {b : Bool}
theorem x_isX (hC : ExcC K D) (e : PySem.W.kitOne K (.ref D) (.ref C) = some b) (q : Q (.bl b) H) : rIsX K a (.ref D) none [.ref a, .ref C] H Q :=
  ⟨D, rfl, rfl, hC, _, _, _, rfl, fun u r => r, e, q⟩
theorem x_isXT {T : String} (hC : ExcC K D) (e : PySem.W.kitOne K (.ref D) (.type T) = some b) (q : Q (.bl b) H) : rIsX K a (.ref D) none [.ref a, .ty T] H Q :=
  ⟨D, rfl, rfl, hC, _, _, _, rfl, fun u r => r, e, q⟩
end
end Ox

/-! Own layer: own exceptions whose __init__ says super().__init__('..') and lays one field. -/
namespace PySem
namespace SupX
open PySem.W PySem.Calls PyProof.Rows PySem.HandSPX
def iA (y : Str) (p1 p2 : Pos) : Arguments := { posonlyargs := [], args := [{ arg := "self", annotation := none, pos := p1 }, { arg := y, annotation := none, pos := p2 }], vararg := none, kwonlyargs := [], kw_defaults := [], kwarg := none, defaults := [] }
def iB (y txt : Str) (q1 q2 q3 q4 q5 q6 q7 q8 q9 q10 : Pos) : List Stmt :=
  [.Expr (.Call (.Attribute (.Call (.Name "super" q1) [] [] q2) "__init__" q3) [.Constant (.str txt) 0 q4] [] q5) q6, .Assign [.Attribute (.Name "self" q7) y q8] (.Name y q9) q10]
def iS (y : Str) : Scope := { kind := .function, names := [(PySem.Str.ofString "self", .local), (y, .local), (PySem.Str.ofString "__class__", .free), (PySem.Str.ofString "super", .globalImplicit)], isGenerator := false, isCoroutine := false, more := [] }
/-- the fields that the text has -/
def Fld (y : Str) : Prop := y = "part" ∨ y = "name" ∨ y = "index" ∨ y = "most" ∨ y = "line"
structure SupTxt (P : Program) (K : Frag) (mg : Str → Option Value) (x y : Str) (C fI : Addr) : Prop where
  fld : Fld y
  gC : mg x = some (.ref C)
  noS : mg "super" = none
  cls : ∃ nm q N bs bm sn sub ab col dd k0 k1 k2 k3 k5, K.lookup C = some (excClassObj nm q C N bs bm true sn sub ab col dd k0 k1 k2 k3 k5 "ValueError.__new__") ∧ refsVE bm = true
  sa : findIn K (.ref C) "__setattr__" = some (some (.builtin "object.__setattr__"))
  ga : findIn K (.ref C) "__getattribute__" = some (some (.builtin "BaseException.__getattribute__"))
  gg : findIn K (.ref C) "__getattr__" = some none
  noN : findIn K (.ref C) y = some none
  iC : findIn K (.ref C) "__init__" = some (some (.ref fI))
  tC : typeIn K (.ref fI) = some (.type "function")
  kC : keepIn K (.ref C) = true
  exC : subIn K (.ref C) (.type "BaseException") = some true
  veC : subIn K (.ref C) (.type "ValueError") = some true
  mrC : mroIn K C (.ref C) = some true
  tyC : typeIn K (.ref C) = some (.type "type")
  hdC : hasDictIn K C = true
  opq : nsIn K cStatics "thirdparty.any" = some none
  sup : ks_superIn K C C "__init__" = some (some (.builtin "ValueError.__init__"))
  top : (P.main.scope.names.lookup ("super" : Str)).isSome = false
  fn : ∃ (oc : Value) (od : Option Addr) (kV doc pm : Value) (an : Option Addr) (cda : Addr) (ct : Value) (osl : Array (Option Value)) (qual txt : Str) (cc : Addr) (p1 p2 q1 q2 q3 q4 q5 q6 q7 q8 q9 q10 : Pos),
    K.lookup fI = some ⟨oc, od, .func (ksFn "__init__" qual (iA y p1 p2) (iB y txt q1 q2 q3 q4 q5 q6 q7 q8 q9 q10) (iS y) .none kV doc pm an (.ref cda) ct cc), osl⟩ ∧ codeIn K (.ref cda) qual = true ∧
    (∃ (ccl : Value) (cdd : Option Addr) (vs : Array Value) (ccs : Array (Option Value)) (file : Str) (tf : Tok), K.lookup cda = some ⟨ccl, cdd, .fields vs, ccs⟩ ∧ vs[2]? = some (.str file tf) ∧ ((P.main.file : Str) == file) = true) ∧
    (∃ (cl : Value) (cld : Option Addr) (csl : Array (Option Value)), K.lookup cc = some ⟨cl, cld, .cell (some (.ref C)), csl⟩) ∧ (q3.endLine == q5.line) = true
theorem one_size (v : Value) : [v].length ≤ sizeLine := by
  rw [sizeLine_eq]
  exact (by decide : 1 ≤ 16777216)
structure InitEnd (h h' : Heap) (x C dx t1 : Addr) (y : Str) (v : Value) : Prop where
  keep : ∀ b o, b ≠ x → h.get? b = some o → h'.get? b = some o
  obj : h'.get? x = some { cls := .ref C, dict := some dx, data := .fields #[.ref t1, .none, .none, .none, .bool false, .none] }
  dbig : h.objs.size ≤ dx
  dne : dx ≠ x
  ns : h'.Ns1 dx (fun z => if z = y then some v else none)
structure OwnMade (h h' : Heap) (e C d : Addr) (y : Str) (v : Value) : Prop where
  keep : ∀ b o, h.get? b = some o → h'.get? b = some o
  new : h.objs.size ≤ e
  obj : ∃ oe vs, h'.get? e = some oe ∧ oe.cls = .ref C ∧ oe.dict = some d ∧ oe.data = .fields vs ∧ vs[1]? = some .none
  dbig : h.objs.size ≤ d
  dne : d ≠ e
  ns : h'.Ns1 d (fun z => if z = y then some v else none)
theorem ld {M : Model} {A : Around} {E : Value → Shared → Prop} {s : Shared} {env : Env} {m : Str → Option Value} {x : Str} {pos : Pos} {v : Value} {Q : Value → Shared → Prop} (hn : s.heap.Ns env.locals m) (hv : m x = some v) (h : Q v s)
    (hk : env.scope.kind = .function := by rfl) (hl : env.kindOf x = some .local := by rfl) (hd : (x == ("__debug__" : Str)) = false := by decide) :
    wpAny M A (eval (.Name x pos) env) Q E s := wpAny_Name (wpAny_loadName_local hk hl hn hv h) hd
theorem call_eq {o a : Expr} {name : Str} {q3 q5 : Pos} {env : Env} (hline : (q3.endLine == q5.line) = true) (ha : starEach [a] env = [(false, eval a env)]) : eval (.Call (.Attribute o name q3) [a] [] q5) env = (do
      let ov ← attributeBase o name env (eval o env)
      standAt q3.atName
      let (f, first) ← holding [ov] (getMethod ov name (do return (← importBound o env).getD true))
      callWith q5 f first (backTo q5 (starEach [a] env)) []) := by
  show (do
    let ov ← attributeBase o name env (eval o env)
    standAt q3.atName
    methodCall o name q3 q5 env ov 1 (backTo q5 (starEach [a] env)) []) = _
  unfold methodCall methodCallPos calleeOf
  have hf : methodCallForm 1 (backTo q5 (starEach [a] env)) [] = true := by rw [ha]; rfl
  rw [hf, hline]
  rfl
section
variable {prog : Program} {w : World} {A : Around} {E : Value → Shared → Prop}
/-- the wrapper called: ValueError.__init__ of the object anew -/
theorem call_mw {h : Heap} {g : Array GenState} {d : Drawn} {t : Nat} {os : OsState} {nm q : Str} {C N : Addr} {bs bm : List Value} {hdct : Bool} {sn : List Str} {sub : List Value} {ab : Bool} {col : Option Bool} {dd : Option Addr} {k0 k1 k2 k3 k5 : Option Value}
    {u e t0 : Addr} {rest : List Value} {Q : Value → Shared → Prop}
    (hC : h.get? C = some (excClassObj nm q C N bs bm hdct sn sub ab col dd k0 k1 k2 k3 k5 "ValueError.__new__")) (he : h.get? e = some (excO C t0)) (hu : h.get? u = some (kxs_mw "ValueError.__init__" e)) (hrest : rest.length ≤ sizeLine)
    (hq : ∀ h' t1, (∀ b o, b ≠ e → h.get? b = some o → h'.get? b = some o) → h'.get? e = some (excO C t1) → Q .none ⟨h', g, d, t, os⟩) :
    wpAny (model prog w) A (call (.ref u) rest) Q E ⟨h, g, d, t, os⟩ := by
  refine wpAny_call (codeAny_of_tree ?_)
  show wpAny _ A.in1 (callAny (.ref u) ⟨rest, []⟩) _ _ _
  simp only [callAny]
  refine wpAny_bind (wpAny_load hu ?_)
  simp only [kxs_mw, show (Value.type "method-wrapper" == Value.type "method" || Value.type "method-wrapper" == Value.type "builtin_function_or_method" || Value.type "method-wrapper" == Value.type "method-wrapper") = true by decide, if_true]
  refine W.KFB.if_so (by decide) ?_
  refine wpAny_bind (check_bound_init F.excBase_ValueError.toExcCallFacts hC he rfl ?_)
  refine wpAny_bind (wpAny_pure (wpAny_pure ?_))
  refine ⟨plainId_quiet F.excBase_ValueError.init.plain _, codeAny_builtin F.excBase_ValueError.initEntry ?_⟩
  rw [Around.under_plainId F.excBase_ValueError.init.plain _]
  wp_walk
  refine hq _ h.objs.size (fun b o hb ho => ?_) ?_
  · rw [Heap.get?_update_other _ _ (Ne.symm hb)]
    exact Heap.get?_push_of_some _ ho
  · rw [Heap.get?_update_self _ (Heap.get?_push_of_some _ he) rfl]
    rfl
end
section
variable {prog : Program} {w : World} {A : Around} {E : Value → Shared → Prop} {R : Result → Shared → Prop} {s : Shared} {K : Frag} {mg : Str → Option Value} {x y : Str} {C fI : Addr}
theorem sup_init (T : SupTxt prog K mg x y C fI) {e t0 : Addr} {v : Value} (X : K.In s.heap) (hlim : s.heap.NoLimit) (hg : s.heap.Ns mainGlobals mg) (hb : ∃ mb, s.heap.Ns builtinsNs mb ∧ ∀ z : Str, z ≠ "__name__" → mb z = bootBuiltins z)
    (hx : s.heap.get? e = some (excO C t0)) (hnx : K.lookup e = none) (hroom : A.depth < recursionLimit)
    (hq : ∀ h' tk dx t1, InitEnd s.heap h' e C dx t1 y v → R (.ok (.ret .none)) { s with heap := h', toks := tk }) :
    codeAny (model prog w) A (.call (.ref fI) ⟨[.ref e, v], []⟩) R s := by
  obtain ⟨oc, od, kV, doc, pm, an, cda, ct, osl, qual, txt, cc, p1, p2, q1, q2, q3, q4, q5, q6, q7, q8, q9, q10, ho, hcd, ⟨ccl, cdd, vs, ccs, file, tf, hcda, hvs, hfile⟩, ⟨cl, cld, csl, hcc⟩, hline⟩ := T.fn
  obtain ⟨nm, q, N, bs, bm, sn, sub, ab, col, dd, k0, k1, k2, k3, k5, hC, hbm⟩ := T.cls
  have hcl : clsIn K C = some { name := nm, bases := bs, mro := .ref C :: bm, ns := N, qualname := q, hasDict := true, slotNames := sn, subclasses := sub, abstract := ab, collection := col, hasDel := false } := by unfold clsIn; rw [hC] <;> rfl
  have hsup := T.sup
  unfold ks_superIn at hsup
  rw [hcl] at hsup
  have noN := T.noN
  have fld := T.fld
  have sa := T.sa
  have veC := T.veC
  have mrC := T.mrC
  have opq := T.opq
  have noS := T.noS
  have top := T.top
  clear T
  rcases fld with rfl | rfl | rfl | rfl | rfl
  all_goals
    refine ks_codeAny_call_defAt (fd := ksFn "__init__" qual (iA _ p1 p2) (iB _ txt q1 q2 q3 q4 q5 q6 q7 q8 q9 q10) (iS _) .none kV doc pm an (.ref cda) ct cc) (body := iB _ txt q1 q2 q3 q4 q5 q6 q7 q8 q9 q10) (binds := [("self", .ref e), (_, v)]) hroom (X _ _ ho) rfl hlim (codeRec_of X hcd) rfl
      (BindsTo.of_eq (by first | rfl | with_unfolding_all rfl)) (by
        intro z hz
        have hz' : z ∈ (iS _).names := hz
        simp only [iS, List.mem_cons, List.not_mem_nil, or_false] at hz'
        rcases hz' with rfl | rfl | rfl | rfl <;> decide)
      (by
        intro z hz
        simp only [List.mem_cons, List.not_mem_nil, or_false] at hz
        rcases hz with rfl | rfl <;> first | rfl | decide | decide +kernel) (fun h₁ hn k => ?_) rfl rfl rfl
    obtain ⟨hp, g, d, t, os⟩ := s
    have X₁ : K.In h₁ := X.keeps k
    have hx₁ := k _ _ hx
    have hL : hp.objs.size ≠ e := Nat.ne_of_gt (Heap.lt_size hx)
    refine ks_wpAt_execs_cons (ks_wpAt_Expr_any (ks_wpAt_MethodCall ?_ (call_eq hline rfl)))
    refine ks_wpAt_super_base (f := fI) (cc := cda) (by first | rfl | with_unfolding_all rfl) (by first | rfl | with_unfolding_all rfl) (by decide) rfl (X₁ _ _ ho) rfl (by rfl) rfl (X₁ _ _ hcda) rfl hvs hfile top ?_
    obtain ⟨mb, hmb, hmbv⟩ := hb
    refine ks_loadName_global rfl (by first | rfl | with_unfolding_all rfl) (loadGlobal_builtin (hg.keeps k) noS (hmb.keeps k) ((hmbv _ (by decide)).trans (by first | rfl | decide +kernel | kernel_rfl)) ⟨rfl, ?_⟩)
    refine wpAny_loadName_free rfl (by first | rfl | with_unfolding_all rfl) (by first | rfl | with_unfolding_all rfl) ⟨_, X₁ _ _ hcc, rfl⟩ ?_
    refine wpAny_loadName_local rfl (by first | rfl | with_unfolding_all rfl) hn (v := .ref e) (by first | rfl | with_unfolding_all rfl | kernel_rfl) ?_
    refine ks_wpAny_isType_cls (X₁ _ _ hC) rfl ⟨rfl, ?_⟩
    refine ks_wpAny_call_super (X₁ _ _ hC) rfl hx₁ rfl (fun c z => by cases z) (looks_mroIn X₁ mrC) (fun h₂ hso k₂ => ?_)
    have X₂ : K.In h₂ := X₁.keeps k₂
    have hx₂ := k₂ _ _ hx₁
    have hneC : e ≠ C := fun z => by rw [z, hC] at hnx; cases hnx
    have I₂ : InstAt h₂ e (excO C t0) C none := ⟨hx₂, rfl, rfl, trivial⟩
    refine kxs_getMethod kxs_ValueError hso (looks_opaque X₂ opq) (l₀ := .ref C :: bm) (fun A Q E s k q => wpAny_bind ((looks_clsIn X₂ hcl) A _ E s k (wpAny_pure q))) rfl X₂ hsup (I₂.type.andThen (looks_subIn X₂ veC)) hneC (by decide) ?_
    refine kxs_callWith (i := "ValueError.__init__") (x := e) (by rfl) (evalArgs_plain (spliced_cons (wpAny_Constant_str (k := 0) (pos := q4) (spliced_nil ⟨Heap.get?_push_at rfl rfl, ?_⟩))))
    have up : ∀ b o, h₂.get? b = some o → (h₂.push (kxs_mw "ValueError.__init__" e)).get? b = some o := fun b o z => Heap.get?_push_of_some _ z
    refine call_mw (up _ _ (X₂ _ _ hC)) (up _ _ hx₂) (Heap.get?_push_at rfl rfl) (one_size _) (fun h₃ t1 k₃ hx₃ => ?_)
    have kk : ∀ b o, b ≠ e → h₁.get? b = some o → h₃.get? b = some o := fun b o z q => k₃ b o z (up _ _ (k₂ _ _ q))
    have X₃ : K.In h₃ := fun a o q => kk a o (fun z => by rw [z, hnx] at q; cases q) (X₁ a o q)
    obtain ⟨oL, es, ep, hoL, rL⟩ := hn
    have hn₃ : h₃.Ns hp.objs.size _ := ⟨oL, es, ep, kk _ _ hL hoL, rL⟩
    show wpAt _ _ _ (execs _ _) _ _ _
    refine wpAt_of_wpAny ?_
    refine wpAny_execs_cons (plainObj_wpAny_Assign_Attribute ?_)
    refine ld (v := v) hn₃ (by first | rfl | with_unfolding_all rfl | kernel_rfl) (ld (v := .ref e) hn₃ (by first | rfl | with_unfolding_all rfl | kernel_rfl) ?_)
    refine set_plain X₃ (ox := excO C t1) (od := none) ⟨hx₃, rfl, rfl, trivial⟩ sa ?_
    refine exc_osa X₃ hx₃ hcl (show refsVE (.ref C :: bm) = true from hbm) rfl noN (fun h₄ tk₄ dx k₄ dn dne hx₄ hn₄ => ?_)
    refine wpAny_execs_nil (hq h₄ tk₄ dx t1 ⟨fun b o hb z => k₄ b o hb (kk b o hb (k b o z)), hx₄, ?_, dne, hn₄⟩)
    have z := Heap.lt_size (kk _ _ hL hoL)
    exact Nat.le_of_lt (Nat.lt_of_lt_of_le z dn)
theorem sup_made (T : SupTxt prog K mg x y C fI) {v : Value} (X : K.In s.heap) (hlim : s.heap.NoLimit) (hg : s.heap.Ns mainGlobals mg) (hb : ∃ mb, s.heap.Ns builtinsNs mb ∧ ∀ z : Str, z ≠ "__name__" → mb z = bootBuiltins z) (hroom : A.depth + 1 < recursionLimit)
    (hq : ∀ h' tk e d, OwnMade s.heap h' e C d y v → R (.ok (.ret (.ref e))) { s with heap := h', toks := tk }) :
    codeAny (model prog w) A (.call (.ref C) ⟨[v], []⟩) R s := by
  obtain ⟨nm, q, N, bs, bm, sn, sub, ab, col, dd, k0, k1, k2, k3, k5, hC, hbm⟩ := T.cls
  obtain ⟨hp, g, dr, tk, os⟩ := s
  have k : ∀ b o, hp.get? b = some o → ((hp.push (kdv_tup [v])).push (excO C hp.objs.size)).get? b = some o := fun b o e => Heap.get?_push_of_some _ (Heap.get?_push_of_some _ e)
  have hget : ((hp.push (kdv_tup [v])).push (excO C hp.objs.size)).get? (hp.objs.size + 1) = some (excO C hp.objs.size) := by heap_get
  have hnx : K.lookup (hp.objs.size + 1) = none := by
    cases e : K.lookup (hp.objs.size + 1) with
    | none => rfl
    | some o =>
      have z : hp.get? (hp.objs.size + 1) = some o := X _ _ e
      exact absurd (Nat.lt_of_succ_lt (Heap.lt_size z)) (Nat.lt_irrefl _)
  refine call_own F.excBase_ValueError (fun X => refsVE_contains X bm hbm) (X _ _ hC) (looks_findIn X T.iC) (fun self => bind_fn X self T.tC) (one_size v) ?_
  obtain ⟨mb, hmb, hmv⟩ := hb
  refine sup_init (s := ⟨(hp.push (kdv_tup [v])).push (excO C hp.objs.size), g, dr, tk, os⟩) T (X.keeps k) (hlim.keeps k) (hg.keeps k) ⟨mb, hmb.keeps k, hmv⟩ hget hnx ?_ fun h' tk' dx t1 ⟨k', hx, dn, dne, hns⟩ => ?_
  · show A.depth + 1 < recursionLimit
    exact hroom
  · have old : ∀ b o, hp.get? b = some o → h'.get? b = some o := fun b o e => k' b o (Nat.ne_of_lt (Nat.lt_succ_of_lt (Heap.lt_size e))) (k b o e)
    have z : hp.objs.size + 1 + 1 ≤ dx := by
      first
        | (simpa only [Heap.size_push] using dn)
        | exact dn
        | (have q := dn; rw [Heap.size_push, Heap.size_push] at q; exact q)
    exact ⟨rfl, hq h' tk' (hp.objs.size + 1) dx ⟨old, Nat.le_succ _, ⟨_, _, hx, rfl, rfl, rfl, rfl⟩, Nat.le_trans (Nat.le_trans (Nat.le_succ _) (Nat.le_succ _)) z, dne, hns⟩⟩
end
end SupX
end PySem
namespace Ox
open PySem PySem.Spec PyProof.Rows L2
theorem relO_one {y : Str} {v : V} {v' : Value} (r : RelV v v') (f : Str) : RelO (List.lookup f [(y, v)]) (if f = y then some v' else none) := by
  by_cases hw : f = y
  · subst hw
    rw [if_pos rfl]
    have q : List.lookup f [(f, v)] = some v := by simp [List.lookup]
    rw [q]
    exact r
  · rw [if_neg hw]
    have qw : (f == y) = false := by simpa using hw
    have q2 : List.lookup f [(y, v)] = none := by simp [List.lookup, qw]
    rw [q2]
    trivial
section
variable {X : Cx} {x y : Str} {C fI : Addr}
/-- the class x, its own field y -/
structure ExcF (P : Program) (K : PySem.W.Frag) (mg : Str → Option Value) (x y : Str) (C : Addr) : Prop where
  ex : ∃ fI, PySem.SupX.SupTxt P K mg x y C fI
/-- X(e) -/
def tMkS (C : Addr) (y : Str) (ta : TA) : L2.St → Hp → XK → Prop := fun σ H Q => ta σ H fun vs H1 => ∃ v, vs = [v] ∧ ∀ d, H1 d = none → Q (.ref C) (some d) (upd H1 d (.xd [(y, v)]))
theorem pmk_sup {a : Expr} {ta : TA} {p pos : Pos} {k : Nat} (T : ExcF X.prog X.K X.mg x y C) (hr : Room k X.A) (ha : PA X [a] ta) (hg : Gl X x)
    (hdb : (x == ("__debug__" : Str)) = false := by decide) (he : starEach (a :: []) X.env = (false, eval a X.env) :: starEach [] X.env := by rfl) (hpl : (backTo pos (starEach [] X.env)).any (·.1) = false := by rfl) :
    PMk X (.Call (.Name x p) [a] [] pos) (tMkS C y ta) := by
  obtain ⟨fI, T⟩ := T.ex
  intro pins s σ H Q I h
  refine wpAny_Call_Name_kw (ld_glob I hg T.gC ?_ hdb)
  refine PySem.W.callWith_K (h₀ := X.base) I.ok.mod.kin T.kC (thn (ha.run pos pins s σ H _ I h) fun us s1 hh => ?_) he hpl
  obtain ⟨vs, H1, I1, r1, v, ev, q1⟩ := hh
  subst ev
  refine ⟨I1.kIn, ?_⟩
  cases r1 with
  | cons rv rn =>
    rename_i v' us'
    cases rn
    show wpAny _ _ (call (.ref C) [v']) _ _ _
    have hlim := I1.nolimit
    obtain ⟨mb, hmb, hmv⟩ := I1.mod.blt
    have hbl : ∃ mb, s1.heap.Ns builtinsNs mb ∧ ∀ z : Str, z ≠ "__name__" → mb z = bootBuiltins z := ⟨mb, hmb.keeps I1.bk, hmv⟩
    have hgl : s1.heap.Ns mainGlobals X.mg := I1.mod.glob.keeps I1.bk
    obtain ⟨hp, g, dr, tk, os⟩ := s1
    refine wpAny_call (PySem.SupX.sup_made T I1.kIn hlim hgl hbl (by have := hr.dp; omega) fun h' tk' e d M => ?_)
    show MkP X pins σ Q (.ref e) ⟨h', g, dr, tk', os⟩
    obtain ⟨oe, fv, hoe, hc, hd, hdat, h1⟩ := M.obj
    have hns := M.ns
    obtain ⟨G', g1, g2⟩ := restrict h' fun b => decide (b ≠ e)
    have gk : ∀ b, b ≠ e → G'.get? b = h'.get? b := fun b hb => g1 b (decide_eq_true hb)
    have ge : G'.get? e = none := g2 e (by simp)
    have old : ∀ b o, hp.get? b = some o → G'.get? b = some o := fun b o q => (gk b (Nat.ne_of_lt (Nat.lt_of_lt_of_le (Heap.lt_size q) M.new))).trans (M.keep b o q)
    have ob : ObjOk X.prog X.w (upd H1 d (.xd [(y, v)])) G' d (.xd [(y, v)]) :=
      ⟨_, hns.at (fun o q => (gk d M.dne).trans q), fun f => relO_one rv f⟩
    have J : Inv X pins σ (upd H1 d (.xd [(y, v)])) ⟨G', g, dr, tk', os⟩ := I1.laid (t' := tk') old M.dbig ob
    refine ⟨e, oe, fv, ⟨G', g, dr, tk', os⟩, _, .ref C, some d, rfl, J, fun b o q => ?_, ge, hoe, ⟨hc, hd⟩, hdat, h1, ?_, rfl, I1.bare, raises_own T.exC T.tyC, q1 d (I1.hok.fresh M.dbig)⟩
    · by_cases hb : b = e
      · have q' : G'.get? b = some o := q
        rw [hb, ge] at q'; cases q'
      · exact (gk b hb).symm.trans q
    · rw [upd_ne (Ne.symm M.dne)]
      exact I1.hok.fresh M.new
/-- raise X(e) -/
def tRaiseS (C : Addr) (y : Str) (W : WX) (ta : TA) : TS := fun _ σ H => tMkS C y ta σ H fun cls d H' => W cls d σ H'
theorem ps_raiseS {a : Expr} {ta : TA} {W : WX} {p pos pos2 : Pos} {k : Nat} (hc : X.calm = true) (tk : Takes X W) (T : ExcF X.prog X.K X.mg x y C) (hr : Room k X.A) (hg : Gl X x) (ha : PA X [a] ta) (hdb : (x == ("__debug__" : Str)) = false := by decide)
    (he : starEach (a :: []) X.env = (false, eval a X.env) :: starEach [] X.env := by rfl) (hpl : (backTo pos (starEach [] X.env)).any (·.1) = false := by rfl) :
    PS X (.Raise (some (.Call (.Name x p) [a] [] pos)) none pos2) (tRaiseS C y W ta) := ps_raise hc tk (pmk_sup T hr ha hg hdb he hpl)
/-- the exceptions that a read of the field y fits: its class told of the written part -/
structure ExcG (K : PySem.W.Frag) (C : Addr) (y : Str) : Prop where
  ga : PySem.W.findIn K (.ref C) "__getattribute__" = some (some (.builtin "BaseException.__getattribute__"))
  gg : PySem.W.findIn K (.ref C) "__getattr__" = some none
  exC : PySem.W.subIn K (.ref C) (.type "BaseException") = some true
  hdC : PySem.W.hasDictIn K C = true
  noN : PySem.W.findIn K (.ref C) y = some none
/-- e.y, e the exception that the suite holds (at a; its class cls, its dict d) -/
def tByS (K : PySem.W.Frag) (y : Str) (a : Addr) (cls : Value) (d : Option Addr) (te : TE) : TE := fun σ H Q => te σ H fun x H1 => x = .ref a ∧ ∃ (C dd : Addr) (v : V), cls = .ref C ∧ ExcG K C y ∧ d = some dd ∧ H1 dd = some (.xd [(y, v)]) ∧ Q v H1
theorem pe_byS {a : Addr} {oe : Obj} {cls : Value} {d : Option Addr} {pn : List (Addr × Obj)} {e : Expr} {te : TE} {pos : Pos} (hz : Zc cls d oe) (hf : ∃ vs, oe.data = .fields vs) (he : PE (X.suite a ((a, oe) :: pn)) e te)
    (hb : attributeBase e y X.env (eval e X.env) = eval e X.env := by rfl) :
    PE (X.suite a ((a, oe) :: pn)) (.Attribute e y pos) (tByS X.K y a cls d te) := by
  refine ⟨fun pins s σ H Q I h => ?_⟩
  refine attr_of hb (thn (he.run pins s σ H _ I h) fun u s1 hh => ?_)
  obtain ⟨x, H1, I1, rx, ex, C, dd, v, ec, T, ed, ea, q⟩ := hh
  subst ex
  obtain rfl : u = Value.ref a := rx
  subst ec
  subst ed
  obtain ⟨ha, _⟩ := I1.pin (a, oe) (List.mem_append_left _ List.mem_cons_self)
  obtain ⟨vs, hd⟩ := hf
  have hx : ObjOk X.prog X.w H1 s1.heap dd (.xd [(y, v)]) := I1.hok dd _ ea
  obtain ⟨mA, hns, hr⟩ := hx
  obtain ⟨od, ho, hl⟩ := lookIn_ns hns
  have l : List.lookup y [(y, v)] = some v := by simp [List.lookup]
  obtain ⟨u, hu, ru⟩ := RelO.some_of (v := v) (o := mA y) (by rw [← l]; exact hr y)
  have J : PySem.W.InstAt s1.heap a oe C (some od) := ⟨ha, hz.1, by unfold PySem.W.notCls; rw [hd] <;> rfl, by rw [hz.2]; exact ho⟩
  exact HandSPX.exc_get I1.kIn J T.ga T.gg T.exC (PySem.W.findObj_own T.hdC T.noN rfl (by rw [hl, hu])) (handed_of ru) ⟨v, H1, I1.tok _, ru, q⟩
end
section
variable {σ : L2.St} {H : Hp} {W : WX} {D : Ends} {C : Addr} {y : Str} {K : PySem.W.Frag}
/-- raised -/
theorem x_raiseS {ta : TA} (q : ta σ H fun vs H1 => ∃ v, vs = [v] ∧ ∀ d, H1 d = none → W (.ref C) (some d) σ (upd H1 d (.xd [(y, v)]))) : tRaiseS C y W ta D σ H := q
end
end Ox

/-! Own hook, second form: beside defs, __init__s that say super(). -/
namespace Oh
open PySem PySem.Spec PyProof.Rows L2
/-- a class's __init__ that says super(): the class's name, its field, the def -/
structure Sd where
  cls : Str
  fld : Str
  qual : Str
  st : Stmt
abbrev Sd.spot (d : Sd) (K : Frag) : Addr := He.ma K (He.ga K d.cls) "__init__"
def Sd.fnd (d : Sd) (K : Frag) : He.FnW := (K.lookup (d.spot K)).bind fun o => match o.data with
  | .func fd => some (fd.name, fd.qualname, fd.params, fd.body, fd.scope, fd.globals, [], fd.builtins)
  | _ => none
def Sd.due (d : Sd) : He.FnW := some ("__init__", d.qual, defArgs d.st, .stmts (defBody d.st), defScope d.st, mainGlobals, [], builtinsNs)
/-- the cell holds the class, the code is of the file -/
def cellB (K : Frag) (C : Addr) : List (Str × Addr) → Bool
  | [(n, cc)] => decide (n = "__class__") && (match K.lookup cc with
    | some o => (match o.data with
      | .cell (some (.ref D)) => decide (D = C)
      | _ => false)
    | none => false)
  | _ => false
def fileB (K : Frag) (file : Str) : Value → Bool
  | .ref cda => (match K.lookup cda with
    | some o => (match o.data with
      | .fields vs => (match (vs[2]? : Option Value) with
        | some (Value.str f _) => decide (f = file)
        | _ => false)
      | _ => false)
    | none => false)
  | _ => false
def Sd.good (d : Sd) (file : Str) (K : Frag) : Bool := match K.lookup (d.spot K) with
  | some o => (match o.data with
    | .func fd => cellB K (He.ga K d.cls) fd.closure && (fileB K file fd.code && (PySem.W.codeIn K fd.code d.qual && isNon fd.defaults))
    | _ => false)
  | none => false
/-- the text of such an __init__ -/
def IsSup (st : Stmt) (y : Str) : Prop := ∃ (txt : Str) (p1 p2 q1 q2 q3 q4 q5 q6 q7 q8 q9 q10 : Pos), defArgs st = PySem.SupX.iA y p1 p2 ∧ defBody st = PySem.SupX.iB y txt q1 q2 q3 q4 q5 q6 q7 q8 q9 q10 ∧ defScope st = PySem.SupX.iS y ∧ (q3.endLine == q5.line) = true
theorem Sd.fn_ {d : Sd} {file : Str} {K : Frag} {P : Program} (s : IsSup d.st d.fld) (e : d.fnd K = d.due) (g : d.good file K = true) (hf : (P.main.file == file) = true) :
    ∃ (oc : Value) (od : Option Addr) (kV doc pm : Value) (an : Option Addr) (cda : Addr) (ct : Value) (osl : Array (Option Value)) (qual txt : Str) (cc : Addr) (p1 p2 q1 q2 q3 q4 q5 q6 q7 q8 q9 q10 : Pos),
    K.lookup (d.spot K) = some ⟨oc, od, .func (PySem.W.ksFn "__init__" qual (PySem.SupX.iA d.fld p1 p2) (PySem.SupX.iB d.fld txt q1 q2 q3 q4 q5 q6 q7 q8 q9 q10) (PySem.SupX.iS d.fld) .none kV doc pm an (.ref cda) ct cc), osl⟩ ∧ PySem.W.codeIn K (.ref cda) qual = true ∧
    (∃ (ccl : Value) (cdd : Option Addr) (vs : Array Value) (ccs : Array (Option Value)) (file : Str) (tf : Tok), K.lookup cda = some ⟨ccl, cdd, .fields vs, ccs⟩ ∧ vs[2]? = some (.str file tf) ∧ ((P.main.file : Str) == file) = true) ∧
    (∃ (cl : Value) (cld : Option Addr) (csl : Array (Option Value)), K.lookup cc = some ⟨cl, cld, .cell (some (.ref (He.ga K d.cls))), csl⟩) ∧ (q3.endLine == q5.line) = true := by
  obtain ⟨txt, p1, p2, q1, q2, q3, q4, q5, q6, q7, q8, q9, q10, e1, e2, e3, hl⟩ := s
  unfold Sd.fnd at e
  unfold Sd.good at g
  cases q : K.lookup (d.spot K) with
  | none => rw [q] at g; cases g
  | some o =>
    obtain ⟨oc, od, dt, osl⟩ := o
    rw [q] at e g
    cases dt with
    | func fd =>
      obtain ⟨n1, n2, n3, n4, n5, n6, n7, n8, n9, n10, n11, n12, n13, n14, n15⟩ := fd
      have e4 : (some (n1, n2, n3, n4, n5, n6, [], n15) : He.FnW) = (some ("__init__", d.qual, defArgs d.st, .stmts (defBody d.st), defScope d.st, mainGlobals, [], builtinsNs) : He.FnW) := e
      have g2 : (cellB K (He.ga K d.cls) n7 && (fileB K file n13 && (PySem.W.codeIn K n13 d.qual && isNon n8))) = true := g
      obtain ⟨g3, g4⟩ := Bool.and_eq_true_iff.mp g2
      obtain ⟨g5, g6⟩ := Bool.and_eq_true_iff.mp g4
      obtain ⟨g7, g8⟩ := Bool.and_eq_true_iff.mp g6
      have e8 : n8 = .none := by
        cases n8 with
        | none => rfl
        | _ => cases g8
      rw [e1, e2, e3] at e4
      simp only [Option.some.injEq, Prod.mk.injEq] at e4
      obtain ⟨h1, h2, h3, h4, h5, h6, _, h8⟩ := e4
      obtain ⟨cc, ec, cl, cld, csl, hcc⟩ : ∃ cc, n7 = [(("__class__" : Str), cc)] ∧ ∃ (cl : Value) (cld : Option Addr) (csl : Array (Option Value)), K.lookup cc = some ⟨cl, cld, .cell (some (.ref (He.ga K d.cls))), csl⟩ := by
        unfold cellB at g3
        split at g3
        · rename_i n cc
          obtain ⟨a, b⟩ := Bool.and_eq_true_iff.mp g3
          refine ⟨cc, by rw [of_decide_eq_true a], ?_⟩
          split at b
          · rename_i o ho
            obtain ⟨o1, o2, o3, o4⟩ := o
            split at b
            · rename_i D hD
              have hD' : o3 = .cell (some (.ref D)) := hD
              have := of_decide_eq_true b
              subst this
              subst hD'
              exact ⟨_, _, _, ho⟩
            · cases b
          · cases b
        · cases g3
      obtain ⟨cda, ecda, ccl, cdd, vs, ccs, f, tf, hcda, hvs, hff⟩ : ∃ cda, n13 = .ref cda ∧ ∃ (ccl : Value) (cdd : Option Addr) (vs : Array Value) (ccs : Array (Option Value)) (f : Str) (tf : Tok), K.lookup cda = some ⟨ccl, cdd, .fields vs, ccs⟩ ∧ vs[2]? = some (.str f tf) ∧ f = file := by
        unfold fileB at g5
        split at g5
        · rename_i cda
          split at g5
          · rename_i o ho
            obtain ⟨o1, o2, o3, o4⟩ := o
            split at g5
            · rename_i vs hv
              have hv' : o3 = .fields vs := hv
              subst hv'
              split at g5
              · rename_i f tf hx
                exact ⟨cda, rfl, _, _, _, _, f, tf, ho, hx, of_decide_eq_true g5⟩
              · cases g5
            · cases g5
          · cases g5
        · cases g5
      subst h1 h2 h3 h4 h5 h6 h8 e8 ec ecda hff
      exact ⟨oc, od, n9, n10, n11, n12, cda, n14, osl, d.qual, txt, cc, p1, p2, q1, q2, q3, q4, q5, q6, q7, q8, q9, q10, rfl, g7, ⟨ccl, cdd, vs, ccs, f, tf, hcda, hvs, hf⟩, ⟨cl, cld, csl, hcc⟩, hl⟩
    | _ => cases g
/-- the class's object -/
def oexB (K : Frag) (C : Addr) : Bool := match K.lookup C with
  | some ⟨.type "type", _, .cls cd, sl⟩ => (match cd.mro, sl.toList with
    | .ref C' :: bm, [_, _, _, _, some (.builtin n), _] => C' == C && n == "ValueError.__new__" && !cd.hasDel && cd.hasDict && PySem.HandSPX.refsVE bm
    | _, _ => false)
  | _ => false
theorem oexB_ok {K : Frag} {C : Addr} (q : oexB K C = true) : ∃ nm q N bs bm sn sub ab col dd k0 k1 k2 k3 k5, K.lookup C = some (excClassObj nm q C N bs bm true sn sub ab col dd k0 k1 k2 k3 k5 "ValueError.__new__") ∧ PySem.HandSPX.refsVE bm = true := by
  unfold oexB at q
  split at q
  · rename_i dd cd sl ho
    split at q
    · rename_i C' bm k0 k1 k2 k3 n k5 hm hs
      simp only [Bool.and_eq_true, beq_iff_eq, Bool.not_eq_true'] at q
      obtain ⟨⟨⟨⟨rfl, rfl⟩, hdel⟩, hdi⟩, ht⟩ := q
      obtain ⟨nm, bs, mro, ns, qn, hd, sn, sub, ab, col, del⟩ := cd
      dsimp only at hm hdel hdi
      subst hm hdel hdi
      have hsl : sl = #[k0, k1, k2, k3, some (.builtin "ValueError.__new__"), k5] := by
        obtain ⟨l⟩ := sl
        simp only at hs
        rw [hs]
      subst hsl
      exact ⟨nm, qn, ns, bs, bm, sn, sub, ab, col, dd, k0, k1, k2, k3, k5, ho, ht⟩
    · cases q
  · cases q
/-- all that the written part says of the class, as one Bool -/
def supB (x y : Str) : Frag → Bool := fun K =>
  oexB K (He.ga K x) && (He.eqO (PySem.W.findIn K (.ref (He.ga K x)) "__setattr__") (some (some (.builtin "object.__setattr__"))) && (He.eqO (PySem.W.findIn K (.ref (He.ga K x)) "__getattribute__") (some (some (.builtin "BaseException.__getattribute__"))) &&
  (He.eqO (PySem.W.findIn K (.ref (He.ga K x)) "__getattr__") (some none) && (He.eqO (PySem.W.findIn K (.ref (He.ga K x)) y) (some none) && (He.eqO (PySem.W.findIn K (.ref (He.ga K x)) "__init__") (some (some (.ref (He.ma K (He.ga K x) "__init__")))) &&
  (decide (PySem.W.typeIn K (.ref (He.ma K (He.ga K x) "__init__")) = some (.type "function")) && (PySem.W.keepIn K (.ref (He.ga K x)) && (decide (PySem.W.subIn K (.ref (He.ga K x)) (.type "BaseException") = some true) && (decide (PySem.W.subIn K (.ref (He.ga K x)) (.type "ValueError") = some true) &&
  (decide (PySem.W.mroIn K (He.ga K x) (.ref (He.ga K x)) = some true) && (decide (PySem.W.typeIn K (.ref (He.ga K x)) = some (.type "type")) && (PySem.W.hasDictIn K (He.ga K x) && (He.eqO (PySem.W.nsIn K PySem.cStatics "thirdparty.any") (some none) &&
  He.eqO (PySem.W.ks_superIn K (He.ga K x) (He.ga K x) "__init__") (some (some (.builtin "ValueError.__init__"))))))))))))))))
/-- what a law's head gives -/
theorem supB_ok {x y : Str} {K : Frag} {mg : Str → Option Value} {P : Program} {file : Str} {d : Sd} (hb : supB x y K = true) (gC : mg x = some (.ref (He.ga K x))) (noS : mg "super" = none) (top : (P.main.scope.names.lookup ("super" : Str)).isSome = false) (hf : (P.main.file == file) = true)
    (f : PySem.SupX.Fld y) (ec : d.cls = x) (ey : d.fld = y) (s : IsSup d.st d.fld) (e : d.fnd K = d.due) (g : d.good file K = true) : Ox.ExcF P K mg x y (He.ga K x) := by
  subst ec ey
  obtain ⟨h1, h⟩ := Bool.and_eq_true_iff.mp hb
  obtain ⟨h2, h⟩ := Bool.and_eq_true_iff.mp h
  obtain ⟨h3, h⟩ := Bool.and_eq_true_iff.mp h
  obtain ⟨h4, h⟩ := Bool.and_eq_true_iff.mp h
  obtain ⟨h5, h⟩ := Bool.and_eq_true_iff.mp h
  obtain ⟨h6, h⟩ := Bool.and_eq_true_iff.mp h
  obtain ⟨h7, h⟩ := Bool.and_eq_true_iff.mp h
  obtain ⟨h8, h⟩ := Bool.and_eq_true_iff.mp h
  obtain ⟨h9, h⟩ := Bool.and_eq_true_iff.mp h
  obtain ⟨h10, h⟩ := Bool.and_eq_true_iff.mp h
  obtain ⟨h11, h⟩ := Bool.and_eq_true_iff.mp h
  obtain ⟨h12, h⟩ := Bool.and_eq_true_iff.mp h
  obtain ⟨h13, h⟩ := Bool.and_eq_true_iff.mp h
  obtain ⟨h14, h15⟩ := Bool.and_eq_true_iff.mp h
  exact ⟨_, f, gC, noS, oexB_ok h1, He.eqO_ok h2, He.eqO_ok h3, He.eqO_ok h4, He.eqO_ok h5, He.eqO_ok h6, of_decide_eq_true h7, h8, of_decide_eq_true h9, of_decide_eq_true h10, of_decide_eq_true h11, of_decide_eq_true h12, h13, He.eqO_ok h14, He.eqO_ok h15, top, Sd.fn_ s e g hf⟩
theorem supB_g {x y : Str} {K : Frag} (hb : supB x y K = true) : Ox.ExcG K (He.ga K x) y := by
  obtain ⟨h1, h⟩ := Bool.and_eq_true_iff.mp hb
  obtain ⟨h2, h⟩ := Bool.and_eq_true_iff.mp h
  obtain ⟨h3, h⟩ := Bool.and_eq_true_iff.mp h
  obtain ⟨h4, h⟩ := Bool.and_eq_true_iff.mp h
  obtain ⟨h5, h⟩ := Bool.and_eq_true_iff.mp h
  obtain ⟨h6, h⟩ := Bool.and_eq_true_iff.mp h
  obtain ⟨h7, h⟩ := Bool.and_eq_true_iff.mp h
  obtain ⟨h8, h⟩ := Bool.and_eq_true_iff.mp h
  obtain ⟨h9, h⟩ := Bool.and_eq_true_iff.mp h
  obtain ⟨h10, h⟩ := Bool.and_eq_true_iff.mp h
  obtain ⟨h11, h⟩ := Bool.and_eq_true_iff.mp h
  obtain ⟨h12, h⟩ := Bool.and_eq_true_iff.mp h
  obtain ⟨h13, h⟩ := Bool.and_eq_true_iff.mp h
  exact ⟨He.eqO_ok h3, He.eqO_ok h4, of_decide_eq_true h9, h13, He.eqO_ok h5⟩
/-! the hook -/
def see2 (file : Str) (fa : List (Frag → Bool)) (ds : List Dd) (ss : List Sd) (K : Frag) : Ob := ((fa.all fun f => f K) && (ds.all (fun d => d.good K) && ss.all fun d => d.good file K), ds.map (fun d => d.fnd K) ++ ss.map fun d => d.fnd K)
def want2 (ds : List Dd) (ss : List Sd) : Ob := (true, ds.map Dd.due ++ ss.map Sd.due)
def Told2 (file : Str) (fa : List (Frag → Bool)) (ds : List Dd) (ss : List Sd) (K : Frag) : Prop := see2 file fa ds ss K = want2 ds ss
def seeG2 (n : Nat) (file : Str) (fa : List (Frag → Bool)) (ds : List Dd) (ss : List Sd) (g : Addr → Option Obj) : Ob := see2 file fa ds ss (He.frG g (cStatics :: sysModules :: He.asD g n))
def hook2 (n : Nat) (file : Str) (fa : List (Frag → Bool)) (ds : List Dd) (ss : List Sd) : PySem.W.Hook where
  α := Ob
  obs := fun s => seeG2 n file fa ds ss s.heap.get?
  val := fun _ => want2 ds ss
  says := fun _ h => ∃ K : Frag, K.In h ∧ Told2 file fa ds ss K
  of := fun _ _ e => ⟨_, He.frG_in, e⟩
  keeps := fun _ _ _ ⟨K, hK, c⟩ k => ⟨K, PySem.W.Frag.In.keeps hK k, c⟩
def obT2 (n : Nat) (file : Str) (fa : List (Frag → Bool)) (ds : List Dd) (ss : List Sd) (s : PySem.W.SharedT) : Ob := seeG2 n file fa ds ss (HandSHeadRun.getT s)
theorem obT2_eq {n : Nat} {file : Str} {fa : List (Frag → Bool)} {ds : List Dd} {ss : List Sd} (s : PySem.W.SharedT) : obT2 n file fa ds ss s = (hook2 n file fa ds ss).obs s.abs := by
  have e : HandSHeadRun.getT s = s.abs.heap.get? := funext (HandSHeadRun.getT_eq s)
  show seeG2 n file fa ds ss (HandSHeadRun.getT s) = seeG2 n file fa ds ss s.abs.heap.get?
  rw [e]
section
variable {file : Str} {fa : List (Frag → Bool)} {ds : List Dd} {ss : List Sd} {K : Frag}
theorem Told2.told (c : Told2 file fa ds ss K) : Told fa ds K := by
  have c1 := congrArg (fun z : Ob => z.1) c
  have c2 := congrArg (fun z : Ob => z.2) c
  have a1 : ((fa.all fun f => f K) && (ds.all (fun d => d.good K) && ss.all fun d => d.good file K)) = true := c1
  obtain ⟨b1, b2⟩ := Bool.and_eq_true_iff.mp a1
  obtain ⟨b3, b4⟩ := Bool.and_eq_true_iff.mp b2
  have a2 : ds.map (fun d => d.fnd K) ++ ss.map (fun d => d.fnd K) = ds.map Dd.due ++ ss.map Sd.due := c2
  have a3 := (List.append_inj a2 (by simp)).1
  show ((fa.all fun f => f K) && ds.all fun d => d.good K, ds.map fun d => d.fnd K) = (true, ds.map Dd.due)
  rw [b1, b3, a3]
  rfl
theorem Told2.sup (c : Told2 file fa ds ss K) (i : Nat) {d : Sd} (h : ss[i]? = some d) : d.fnd K = d.due ∧ d.good file K = true := by
  have c1 := congrArg (fun z : Ob => z.1) c
  have c2 := congrArg (fun z : Ob => z.2) c
  have a1 : ((fa.all fun f => f K) && (ds.all (fun d => d.good K) && ss.all fun d => d.good file K)) = true := c1
  obtain ⟨b1, b2⟩ := Bool.and_eq_true_iff.mp a1
  obtain ⟨b3, b4⟩ := Bool.and_eq_true_iff.mp b2
  have a2 : ds.map (fun d => d.fnd K) ++ ss.map (fun d => d.fnd K) = ds.map Dd.due ++ ss.map Sd.due := c2
  have a3 := (List.append_inj a2 (by simp)).2
  have e2 : (ss.map fun d => d.fnd K)[i]? = (ss.map Sd.due)[i]? := by rw [a3]
  rw [List.getElem?_map, List.getElem?_map, h] at e2
  exact ⟨Option.some.inj e2, List.all_eq_true.mp b4 d (List.mem_of_getElem? h)⟩
end
end Oh

namespace Law
open PySem PySem.Spec PyProof.Rows L2 Ox
def top (i : Nat) : Stmt := PySem.Challenge.pw_ownslips_k70_whole_keeps_by_all_let_runs.main.body.getD i (.Pass ⟨0, 0, 0, 0⟩)
abbrev s_is_integer : Stmt := top 1
abbrev N_is_integer : List Str := ["thing"]
theorem sc_is_integer : FnScope N_is_integer ["thing"] (defScope s_is_integer) := ⟨rfl, rfl, rfl, by decide +kernel, rfl, by decide +kernel, by decide +kernel⟩
theorem bd_is_integer {K : PySem.W.Frag} {f : Addr} {fd : FuncData} (F : Fun K "is_integer" "is_integer" s_is_integer f fd) : Binds K fd ["thing"] [] := F.binds fun _ _ _ _ _ _ us hl => match us, hl with | [_], _ => rfl
abbrev s_is_name : Stmt := top 2
abbrev N_is_name : List Str := ["thing", "char"]
theorem sc_is_name : FnScope N_is_name ["thing"] (defScope s_is_name) := ⟨rfl, rfl, rfl, by decide +kernel, rfl, by decide +kernel, by decide +kernel⟩
theorem bd_is_name {K : PySem.W.Frag} {f : Addr} {fd : FuncData} (F : Fun K "is_name" "is_name" s_is_name f fd) : Binds K fd ["thing"] [] := F.binds fun _ _ _ _ _ _ us hl => match us, hl with | [_], _ => rfl
abbrev s_is_row : Stmt := top 3
abbrev N_is_row : List Str := ["thing"]
theorem sc_is_row : FnScope N_is_row ["thing"] (defScope s_is_row) := ⟨rfl, rfl, rfl, by decide +kernel, rfl, by decide +kernel, by decide +kernel⟩
theorem bd_is_row {K : PySem.W.Frag} {f : Addr} {fd : FuncData} (F : Fun K "is_row" "is_row" s_is_row f fd) : Binds K fd ["thing"] [] := F.binds fun _ _ _ _ _ _ us hl => match us, hl with | [_], _ => rfl
abbrev s_is_pair : Stmt := top 4
abbrev N_is_pair : List Str := ["thing"]
theorem sc_is_pair : FnScope N_is_pair ["thing"] (defScope s_is_pair) := ⟨rfl, rfl, rfl, by decide +kernel, rfl, by decide +kernel, by decide +kernel⟩
theorem bd_is_pair {K : PySem.W.Frag} {f : Addr} {fd : FuncData} (F : Fun K "is_pair" "is_pair" s_is_pair f fd) : Binds K fd ["thing"] [] := F.binds fun _ _ _ _ _ _ us hl => match us, hl with | [_], _ => rfl
abbrev s_common_divisor : Stmt := top 5
abbrev N_common_divisor : List Str := ["one", "other"]
theorem sc_common_divisor : FnScope N_common_divisor ["one", "other"] (defScope s_common_divisor) := ⟨rfl, rfl, rfl, by decide +kernel, rfl, by decide +kernel, by decide +kernel⟩
theorem bd_common_divisor {K : PySem.W.Frag} {f : Addr} {fd : FuncData} (F : Fun K "common_divisor" "common_divisor" s_common_divisor f fd) : Binds K fd ["one", "other"] [] := F.binds fun _ _ _ _ _ _ us hl => match us, hl with | [_, _], _ => rfl
abbrev s_is_fraction : Stmt := top 6
abbrev N_is_fraction : List Str := ["thing"]
theorem sc_is_fraction : FnScope N_is_fraction ["thing"] (defScope s_is_fraction) := ⟨rfl, rfl, rfl, by decide +kernel, rfl, by decide +kernel, by decide +kernel⟩
theorem bd_is_fraction {K : PySem.W.Frag} {f : Addr} {fd : FuncData} (F : Fun K "is_fraction" "is_fraction" s_is_fraction f fd) : Binds K fd ["thing"] [] := F.binds fun _ _ _ _ _ _ us hl => match us, hl with | [_], _ => rfl
abbrev s_passed : Stmt := top 18
abbrev N_passed : List Str := ["work", "run", "at", "found", "index", "step"]
theorem sc_passed : FnScope N_passed ["work", "run"] (defScope s_passed) := ⟨rfl, rfl, rfl, by decide +kernel, rfl, by decide +kernel, by decide +kernel⟩
theorem bd_passed {K : PySem.W.Frag} {f : Addr} {fd : FuncData} (F : Fun K "passed" "passed" s_passed f fd) : Binds K fd ["work", "run"] [] := F.binds fun _ _ _ _ _ _ us hl => match us, hl with | [_, _], _ => rfl
abbrev s_movers : Stmt := top 19
abbrev N_movers : List Str := ["work", "run", "stands", "stand"]
theorem sc_movers : FnScope N_movers ["work", "run"] (defScope s_movers) := ⟨rfl, rfl, rfl, by decide +kernel, rfl, by decide +kernel, by decide +kernel⟩
theorem bd_movers {K : PySem.W.Frag} {f : Addr} {fd : FuncData} (F : Fun K "movers" "movers" s_movers f fd) : Binds K fd ["work", "run"] [] := F.binds fun _ _ _ _ _ _ us hl => match us, hl with | [_, _], _ => rfl
abbrev s_is_value : Stmt := top 21
abbrev N_is_value : List Str := ["thing"]
theorem sc_is_value : FnScope N_is_value ["thing"] (defScope s_is_value) := ⟨rfl, rfl, rfl, by decide +kernel, rfl, by decide +kernel, by decide +kernel⟩
theorem bd_is_value {K : PySem.W.Frag} {f : Addr} {fd : FuncData} (F : Fun K "is_value" "is_value" s_is_value f fd) : Binds K fd ["thing"] [] := F.binds fun _ _ _ _ _ _ us hl => match us, hl with | [_], _ => rfl
abbrev s_are_worths : Stmt := top 22
abbrev N_are_worths : List Str := ["thing", "name", "value"]
theorem sc_are_worths : FnScope N_are_worths ["thing"] (defScope s_are_worths) := ⟨rfl, rfl, rfl, by decide +kernel, rfl, by decide +kernel, by decide +kernel⟩
theorem bd_are_worths {K : PySem.W.Frag} {f : Addr} {fd : FuncData} (F : Fun K "are_worths" "are_worths" s_are_worths f fd) : Binds K fd ["thing"] [] := F.binds fun _ _ _ _ _ _ us hl => match us, hl with | [_], _ => rfl
abbrev s_Wish_init : Stmt := inClass (top 23) 0
abbrev N_Wish_init : List Str := ["self", "worths", "endless", "below", "above", "value", "name"]
theorem sc_Wish_init : FnScope N_Wish_init ["self", "worths", "endless"] (defScope s_Wish_init) := ⟨rfl, rfl, rfl, by decide +kernel, rfl, by decide +kernel, by decide +kernel⟩
theorem bd_Wish_init {K : PySem.W.Frag} {f : Addr} {fd : FuncData} (F : Fun K "__init__" "Wish.__init__" s_Wish_init f fd) : Binds K fd ["self", "worths", "endless"] [] := F.binds fun _ _ _ _ _ _ us hl => match us, hl with | [_, _, _], _ => rfl
abbrev s_Wish_worths : Stmt := inClass (top 23) 1
abbrev N_Wish_worths : List Str := ["self", "name"]
theorem sc_Wish_worths : FnScope N_Wish_worths ["self"] (defScope s_Wish_worths) := ⟨rfl, rfl, rfl, by decide +kernel, rfl, by decide +kernel, by decide +kernel⟩
theorem bd_Wish_worths {K : PySem.W.Frag} {f : Addr} {fd : FuncData} (F : Fun K "worths" "Wish.worths" s_Wish_worths f fd) : Binds K fd ["self"] [] := F.binds fun _ _ _ _ _ _ us hl => match us, hl with | [_], _ => rfl
abbrev s_Wish_eq : Stmt := inClass (top 23) 2
abbrev N_Wish_eq : List Str := ["self", "other"]
theorem sc_Wish_eq : FnScope N_Wish_eq ["self", "other"] (defScope s_Wish_eq) := ⟨rfl, rfl, rfl, by decide +kernel, rfl, by decide +kernel, by decide +kernel⟩
theorem bd_Wish_eq {K : PySem.W.Frag} {f : Addr} {fd : FuncData} (F : Fun K "__eq__" "Wish.__eq__" s_Wish_eq f fd) : Binds K fd ["self", "other"] [] := F.binds fun _ _ _ _ _ _ us hl => match us, hl with | [_, _], _ => rfl
abbrev s_suited : Stmt := top 24
abbrev N_suited : List Str := ["work", "wish"]
theorem sc_suited : FnScope N_suited ["work", "wish"] (defScope s_suited) := ⟨rfl, rfl, rfl, by decide +kernel, rfl, by decide +kernel, by decide +kernel⟩
theorem bd_suited {K : PySem.W.Frag} {f : Addr} {fd : FuncData} (F : Fun K "suited" "suited" s_suited f fd) : Binds K fd ["work", "wish"] [] := F.binds fun _ _ _ _ _ _ us hl => match us, hl with | [_, _], _ => rfl
abbrev s_is_entry : Stmt := top 26
abbrev N_is_entry : List Str := ["steps", "row", "at", "move"]
theorem sc_is_entry : FnScope N_is_entry ["steps", "row"] (defScope s_is_entry) := ⟨rfl, rfl, rfl, by decide +kernel, rfl, by decide +kernel, by decide +kernel⟩
theorem bd_is_entry {K : PySem.W.Frag} {f : Addr} {fd : FuncData} (F : Fun K "is_entry" "is_entry" s_is_entry f fd) : Binds K fd ["steps", "row"] [] := F.binds fun _ _ _ _ _ _ us hl => match us, hl with | [_, _], _ => rfl
abbrev s_is_book : Stmt := top 27
abbrev N_is_book : List Str := ["work", "thing", "stand"]
theorem sc_is_book : FnScope N_is_book ["work", "thing"] (defScope s_is_book) := ⟨rfl, rfl, rfl, by decide +kernel, rfl, by decide +kernel, by decide +kernel⟩
theorem bd_is_book {K : PySem.W.Frag} {f : Addr} {fd : FuncData} (F : Fun K "is_book" "is_book" s_is_book f fd) : Binds K fd ["work", "thing"] [] := F.binds fun _ _ _ _ _ _ us hl => match us, hl with | [_, _], _ => rfl
abbrev s_let_steps : Stmt := top 28
abbrev N_let_steps : List Str := ["work", "book", "stand"]
theorem sc_let_steps : FnScope N_let_steps ["work", "book", "stand"] (defScope s_let_steps) := ⟨rfl, rfl, rfl, by decide +kernel, rfl, by decide +kernel, by decide +kernel⟩
theorem bd_let_steps {K : PySem.W.Frag} {f : Addr} {fd : FuncData} (F : Fun K "let_steps" "let_steps" s_let_steps f fd) : Binds K fd ["work", "book", "stand"] [] := F.binds fun _ _ _ _ _ _ us hl => match us, hl with | [_, _, _], _ => rfl
abbrev s_first_breach : Stmt := top 29
abbrev N_first_breach : List Str := ["work", "book", "run", "stands", "hands", "at", "step"]
theorem sc_first_breach : FnScope N_first_breach ["work", "book", "run"] (defScope s_first_breach) := ⟨rfl, rfl, rfl, by decide +kernel, rfl, by decide +kernel, by decide +kernel⟩
theorem bd_first_breach {K : PySem.W.Frag} {f : Addr} {fd : FuncData} (F : Fun K "first_breach" "first_breach" s_first_breach f fd) : Binds K fd ["work", "book", "run"] [] := F.binds fun _ _ _ _ _ _ us hl => match us, hl with | [_, _, _], _ => rfl
abbrev s_let_ways : Stmt := top 30
abbrev N_let_ways : List Str := ["work", "book", "ways", "waiting", "at", "stand", "step", "goal"]
theorem sc_let_ways : FnScope N_let_ways ["work", "book"] (defScope s_let_ways) := ⟨rfl, rfl, rfl, by decide +kernel, rfl, by decide +kernel, by decide +kernel⟩
theorem bd_let_ways {K : PySem.W.Frag} {f : Addr} {fd : FuncData} (F : Fun K "let_ways" "let_ways" s_let_ways f fd) : Binds K fd ["work", "book"] [] := F.binds fun _ _ _ _ _ _ us hl => match us, hl with | [_, _], _ => rfl
abbrev s_way_to : Stmt := top 31
abbrev N_way_to : List Str := ["ways", "stand", "steps", "at", "step"]
theorem sc_way_to : FnScope N_way_to ["ways", "stand"] (defScope s_way_to) := ⟨rfl, rfl, rfl, by decide +kernel, rfl, by decide +kernel, by decide +kernel⟩
theorem bd_way_to {K : PySem.W.Frag} {f : Addr} {fd : FuncData} (F : Fun K "way_to" "way_to" s_way_to f fd) : Binds K fd ["ways", "stand"] [] := F.binds fun _ _ _ _ _ _ us hl => match us, hl with | [_, _], _ => rfl
abbrev s_is_below : Stmt := top 32
abbrev N_is_below : List Str := ["worth", "level"]
theorem sc_is_below : FnScope N_is_below ["worth", "level"] (defScope s_is_below) := ⟨rfl, rfl, rfl, by decide +kernel, rfl, by decide +kernel, by decide +kernel⟩
theorem bd_is_below {K : PySem.W.Frag} {f : Addr} {fd : FuncData} (F : Fun K "is_below" "is_below" s_is_below f fd) : Binds K fd ["worth", "level"] [] := F.binds fun _ _ _ _ _ _ us hl => match us, hl with | [_, _], _ => rfl
abbrev s_checked_book : Stmt := top 33
abbrev N_checked_book : List Str := ["work", "wish", "level", "book"]
theorem sc_checked_book : FnScope N_checked_book ["work", "wish", "level", "book"] (defScope s_checked_book) := ⟨rfl, rfl, rfl, by decide +kernel, rfl, by decide +kernel, by decide +kernel⟩
theorem bd_checked_book {K : PySem.W.Frag} {f : Addr} {fd : FuncData} (F : Fun K "checked_book" "checked_book" s_checked_book f fd) : Binds K fd ["work", "wish", "level", "book"] [] := F.binds fun _ _ _ _ _ _ us hl => match us, hl with | [_, _, _, _], _ => rfl
abbrev s_breaking : Stmt := top 34
abbrev N_breaking : List Str := ["work", "wish", "level", "book", "worths", "ways", "stand"]
theorem sc_breaking : FnScope N_breaking ["work", "wish", "level", "book"] (defScope s_breaking) := ⟨rfl, rfl, rfl, by decide +kernel, rfl, by decide +kernel, by decide +kernel⟩
theorem bd_breaking {K : PySem.W.Frag} {f : Addr} {fd : FuncData} (F : Fun K "breaking" "breaking" s_breaking f fd) : Binds K fd ["work", "wish", "level", "book"] [] := F.binds fun _ _ _ _ _ _ us hl => match us, hl with | [_, _, _, _], _ => rfl
abbrev s_keeps : Stmt := top 35
abbrev N_keeps : List Str := ["work", "wish", "level", "book"]
theorem sc_keeps : FnScope N_keeps ["work", "wish", "level", "book"] (defScope s_keeps) := ⟨rfl, rfl, rfl, by decide +kernel, rfl, by decide +kernel, by decide +kernel⟩
theorem bd_keeps {K : PySem.W.Frag} {f : Addr} {fd : FuncData} (F : Fun K "keeps" "keeps" s_keeps f fd) : Binds K fd ["work", "wish", "level", "book"] [] := F.binds fun _ _ _ _ _ _ us hl => match us, hl with | [_, _, _, _], _ => rfl
abbrev s_kept_stands : Stmt := top 36
abbrev N_kept_stands : List Str := ["work", "wish", "level", "book"]
theorem sc_kept_stands : FnScope N_kept_stands ["work", "wish", "level", "book"] (defScope s_kept_stands) := ⟨rfl, rfl, rfl, by decide +kernel, rfl, by decide +kernel, by decide +kernel⟩
theorem bd_kept_stands {K : PySem.W.Frag} {f : Addr} {fd : FuncData} (F : Fun K "kept_stands" "kept_stands" s_kept_stands f fd) : Binds K fd ["work", "wish", "level", "book"] [] := F.binds fun _ _ _ _ _ _ us hl => match us, hl with | [_, _, _, _], _ => rfl
abbrev s_is_moves : Stmt := top 38
abbrev N_is_moves : List Str := ["thing", "names", "move", "to"]
theorem sc_is_moves : FnScope N_is_moves ["thing", "names"] (defScope s_is_moves) := ⟨rfl, rfl, rfl, by decide +kernel, rfl, by decide +kernel, by decide +kernel⟩
theorem bd_is_moves {K : PySem.W.Frag} {f : Addr} {fd : FuncData} (F : Fun K "is_moves" "is_moves" s_is_moves f fd) : Binds K fd ["thing", "names"] [] := F.binds fun _ _ _ _ _ _ us hl => match us, hl with | [_, _], _ => rfl
abbrev s_is_draws : Stmt := top 39
abbrev N_is_draws : List Str := ["thing", "names", "draw", "pair"]
theorem sc_is_draws : FnScope N_is_draws ["thing", "names"] (defScope s_is_draws) := ⟨rfl, rfl, rfl, by decide +kernel, rfl, by decide +kernel, by decide +kernel⟩
theorem bd_is_draws {K : PySem.W.Frag} {f : Addr} {fd : FuncData} (F : Fun K "is_draws" "is_draws" s_is_draws f fd) : Binds K fd ["thing", "names"] [] := F.binds fun _ _ _ _ _ _ us hl => match us, hl with | [_, _], _ => rfl
abbrev s_is_stand : Stmt := top 40
abbrev N_is_stand : List Str := ["thing", "hands", "names"]
theorem sc_is_stand : FnScope N_is_stand ["thing", "hands", "names"] (defScope s_is_stand) := ⟨rfl, rfl, rfl, by decide +kernel, rfl, by decide +kernel, by decide +kernel⟩
theorem bd_is_stand {K : PySem.W.Frag} {f : Addr} {fd : FuncData} (F : Fun K "is_stand" "is_stand" s_is_stand f fd) : Binds K fd ["thing", "hands", "names"] [] := F.binds fun _ _ _ _ _ _ us hl => match us, hl with | [_, _, _], _ => rfl
abbrev s_are_stands : Stmt := top 41
abbrev N_are_stands : List Str := ["thing", "hands", "name", "stand"]
theorem sc_are_stands : FnScope N_are_stands ["thing", "hands"] (defScope s_are_stands) := ⟨rfl, rfl, rfl, by decide +kernel, rfl, by decide +kernel, by decide +kernel⟩
theorem bd_are_stands {K : PySem.W.Frag} {f : Addr} {fd : FuncData} (F : Fun K "are_stands" "are_stands" s_are_stands f fd) : Binds K fd ["thing", "hands"] [] := F.binds fun _ _ _ _ _ _ us hl => match us, hl with | [_, _], _ => rfl
abbrev s_copied : Stmt := top 42
abbrev N_copied : List Str := ["stand", "steps", "ordered", "step"]
theorem sc_copied : FnScope N_copied ["stand"] (defScope s_copied) := ⟨rfl, rfl, rfl, by decide +kernel, rfl, by decide +kernel, by decide +kernel⟩
theorem bd_copied {K : PySem.W.Frag} {f : Addr} {fd : FuncData} (F : Fun K "copied" "copied" s_copied f fd) : Binds K fd ["stand"] [] := F.binds fun _ _ _ _ _ _ us hl => match us, hl with | [_], _ => rfl
abbrev s_leads : Stmt := top 43
abbrev N_leads : List Str := ["work", "stand", "row", "step"]
theorem sc_leads : FnScope N_leads ["work", "stand"] (defScope s_leads) := ⟨rfl, rfl, rfl, by decide +kernel, rfl, by decide +kernel, by decide +kernel⟩
theorem bd_leads {K : PySem.W.Frag} {f : Addr} {fd : FuncData} (F : Fun K "leads" "leads" s_leads f fd) : Binds K fd ["work", "stand"] [] := F.binds fun _ _ _ _ _ _ us hl => match us, hl with | [_, _], _ => rfl
abbrev s_is_ringless : Stmt := top 44
abbrev N_is_ringless : List Str := ["work", "left", "settled", "going", "rest", "name", "to"]
theorem sc_is_ringless : FnScope N_is_ringless ["work"] (defScope s_is_ringless) := ⟨rfl, rfl, rfl, by decide +kernel, rfl, by decide +kernel, by decide +kernel⟩
theorem bd_is_ringless {K : PySem.W.Frag} {f : Addr} {fd : FuncData} (F : Fun K "is_ringless" "is_ringless" s_is_ringless f fd) : Binds K fd ["work"] [] := F.binds fun _ _ _ _ _ _ us hl => match us, hl with | [_], _ => rfl
abbrev s_Work_init : Stmt := inClass (top 45) 0
abbrev N_Work_init : List Str := ["self", "hands", "start", "stands", "name"]
theorem sc_Work_init : FnScope N_Work_init ["self", "hands", "start", "stands"] (defScope s_Work_init) := ⟨rfl, rfl, rfl, by decide +kernel, rfl, by decide +kernel, by decide +kernel⟩
theorem bd_Work_init {K : PySem.W.Frag} {f : Addr} {fd : FuncData} (F : Fun K "__init__" "Work.__init__" s_Work_init f fd) : Binds K fd ["self", "hands", "start", "stands"] [] := F.binds fun _ _ _ _ _ _ us hl => match us, hl with | [_, _, _, _], _ => rfl
abbrev s_Work_stands : Stmt := inClass (top 45) 1
abbrev N_Work_stands : List Str := ["self", "name"]
theorem sc_Work_stands : FnScope N_Work_stands ["self"] (defScope s_Work_stands) := ⟨rfl, rfl, rfl, by decide +kernel, rfl, by decide +kernel, by decide +kernel⟩
theorem bd_Work_stands {K : PySem.W.Frag} {f : Addr} {fd : FuncData} (F : Fun K "stands" "Work.stands" s_Work_stands f fd) : Binds K fd ["self"] [] := F.binds fun _ _ _ _ _ _ us hl => match us, hl with | [_], _ => rfl
abbrev s_Work_eq : Stmt := inClass (top 45) 2
abbrev N_Work_eq : List Str := ["self", "other"]
theorem sc_Work_eq : FnScope N_Work_eq ["self", "other"] (defScope s_Work_eq) := ⟨rfl, rfl, rfl, by decide +kernel, rfl, by decide +kernel, by decide +kernel⟩
theorem bd_Work_eq {K : PySem.W.Frag} {f : Addr} {fd : FuncData} (F : Fun K "__eq__" "Work.__eq__" s_Work_eq f fd) : Binds K fd ["self", "other"] [] := F.binds fun _ _ _ _ _ _ us hl => match us, hl with | [_, _], _ => rfl
abbrev s_Work_row : Stmt := inClass (top 45) 3
abbrev N_Work_row : List Str := ["self", "stand"]
theorem sc_Work_row : FnScope N_Work_row ["self", "stand"] (defScope s_Work_row) := ⟨rfl, rfl, rfl, by decide +kernel, rfl, by decide +kernel, by decide +kernel⟩
theorem bd_Work_row {K : PySem.W.Frag} {f : Addr} {fd : FuncData} (F : Fun K "row" "Work.row" s_Work_row f fd) : Binds K fd ["self", "stand"] [] := F.binds fun _ _ _ _ _ _ us hl => match us, hl with | [_, _], _ => rfl
abbrev s_Work_kind : Stmt := inClass (top 45) 4
abbrev N_Work_kind : List Str := ["self", "stand"]
theorem sc_Work_kind : FnScope N_Work_kind ["self", "stand"] (defScope s_Work_kind) := ⟨rfl, rfl, rfl, by decide +kernel, rfl, by decide +kernel, by decide +kernel⟩
theorem bd_Work_kind {K : PySem.W.Frag} {f : Addr} {fd : FuncData} (F : Fun K "kind" "Work.kind" s_Work_kind f fd) : Binds K fd ["self", "stand"] [] := F.binds fun _ _ _ _ _ _ us hl => match us, hl with | [_, _], _ => rfl
abbrev s_Work_mover : Stmt := inClass (top 45) 5
abbrev N_Work_mover : List Str := ["self", "stand", "row"]
theorem sc_Work_mover : FnScope N_Work_mover ["self", "stand"] (defScope s_Work_mover) := ⟨rfl, rfl, rfl, by decide +kernel, rfl, by decide +kernel, by decide +kernel⟩
theorem bd_Work_mover {K : PySem.W.Frag} {f : Addr} {fd : FuncData} (F : Fun K "mover" "Work.mover" s_Work_mover f fd) : Binds K fd ["self", "stand"] [] := F.binds fun _ _ _ _ _ _ us hl => match us, hl with | [_, _], _ => rfl
abbrev s_Work_steps : Stmt := inClass (top 45) 6
abbrev N_Work_steps : List Str := ["self", "stand", "row"]
theorem sc_Work_steps : FnScope N_Work_steps ["self", "stand"] (defScope s_Work_steps) := ⟨rfl, rfl, rfl, by decide +kernel, rfl, by decide +kernel, by decide +kernel⟩
theorem bd_Work_steps {K : PySem.W.Frag} {f : Addr} {fd : FuncData} (F : Fun K "steps" "Work.steps" s_Work_steps f fd) : Binds K fd ["self", "stand"] [] := F.binds fun _ _ _ _ _ _ us hl => match us, hl with | [_, _], _ => rfl
abbrev s_Work_to : Stmt := inClass (top 45) 7
abbrev N_Work_to : List Str := ["self", "stand", "step", "row"]
theorem sc_Work_to : FnScope N_Work_to ["self", "stand", "step"] (defScope s_Work_to) := ⟨rfl, rfl, rfl, by decide +kernel, rfl, by decide +kernel, by decide +kernel⟩
theorem bd_Work_to {K : PySem.W.Frag} {f : Addr} {fd : FuncData} (F : Fun K "to" "Work.to" s_Work_to f fd) : Binds K fd ["self", "stand", "step"] [] := F.binds fun _ _ _ _ _ _ us hl => match us, hl with | [_, _, _], _ => rfl
abbrev s_Work_weight : Stmt := inClass (top 45) 8
abbrev N_Work_weight : List Str := ["self", "stand", "step", "row"]
theorem sc_Work_weight : FnScope N_Work_weight ["self", "stand", "step"] (defScope s_Work_weight) := ⟨rfl, rfl, rfl, by decide +kernel, rfl, by decide +kernel, by decide +kernel⟩
theorem bd_Work_weight {K : PySem.W.Frag} {f : Addr} {fd : FuncData} (F : Fun K "weight" "Work.weight" s_Work_weight f fd) : Binds K fd ["self", "stand", "step"] [] := F.binds fun _ _ _ _ _ _ us hl => match us, hl with | [_, _, _], _ => rfl
abbrev s_l_open : Stmt := top 47
abbrev N_l_open : List Str := ["_law_script", "_law_k", "_law_cell"]
theorem sc_l_open : FnScope N_l_open ["_law_script", "_law_k"] (defScope s_l_open) := ⟨rfl, rfl, rfl, by decide +kernel, rfl, by decide +kernel, by decide +kernel⟩
theorem bd_l_open {K : PySem.W.Frag} {f : Addr} {fd : FuncData} (F : Fun K "_law_open" "_law_open" s_l_open f fd) : Binds K fd ["_law_script", "_law_k"] [] := F.binds fun _ _ _ _ _ _ us hl => match us, hl with | [_, _], _ => rfl
abbrev s_draw : Stmt := top 48
abbrev N_draw : List Str := ["_law_drawer", "_law_many", "_law_number"]
theorem sc_draw : FnScope N_draw ["_law_drawer", "_law_many"] (defScope s_draw) := ⟨rfl, rfl, rfl, by decide +kernel, rfl, by decide +kernel, by decide +kernel⟩
theorem bd_draw {K : PySem.W.Frag} {f : Addr} {fd : FuncData} (F : Fun K "_law_draw" "_law_draw" s_draw f fd) : Binds K fd ["_law_drawer", "_law_many"] [] := F.binds fun _ _ _ _ _ _ us hl => match us, hl with | [_, _], _ => rfl
abbrev s_l_names : Stmt := top 49
abbrev N_l_names : List Str := ["_law_drawer", "_law_many", "_law_names_here", "_law_k", "_law_letter"]
theorem sc_l_names : FnScope N_l_names ["_law_drawer", "_law_many"] (defScope s_l_names) := ⟨rfl, rfl, rfl, by decide +kernel, rfl, by decide +kernel, by decide +kernel⟩
theorem bd_l_names {K : PySem.W.Frag} {f : Addr} {fd : FuncData} (F : Fun K "_law_names" "_law_names" s_l_names f fd) : Binds K fd ["_law_drawer", "_law_many"] [] := F.binds fun _ _ _ _ _ _ us hl => match us, hl with | [_, _], _ => rfl
abbrev s_l_target : Stmt := top 50
abbrev N_l_target : List Str := ["_law_drawer", "_law_names_here", "_law_k", "_law_rings"]
theorem sc_l_target : FnScope N_l_target ["_law_drawer", "_law_names_here", "_law_k", "_law_rings"] (defScope s_l_target) := ⟨rfl, rfl, rfl, by decide +kernel, rfl, by decide +kernel, by decide +kernel⟩
theorem bd_l_target {K : PySem.W.Frag} {f : Addr} {fd : FuncData} (F : Fun K "_law_target" "_law_target" s_l_target f fd) : Binds K fd ["_law_drawer", "_law_names_here", "_law_k", "_law_rings"] [] := F.binds fun _ _ _ _ _ _ us hl => match us, hl with | [_, _, _, _], _ => rfl
abbrev s_l_menu : Stmt := top 51
abbrev N_l_menu : List Str := ["_law_drawer", "_law_letter", "_law_menus"]
theorem sc_l_menu : FnScope N_l_menu ["_law_drawer"] (defScope s_l_menu) := ⟨rfl, rfl, rfl, by decide +kernel, rfl, by decide +kernel, by decide +kernel⟩
theorem bd_l_menu {K : PySem.W.Frag} {f : Addr} {fd : FuncData} (F : Fun K "_law_menu" "_law_menu" s_l_menu f fd) : Binds K fd ["_law_drawer"] [] := F.binds fun _ _ _ _ _ _ us hl => match us, hl with | [_], _ => rfl
abbrev s_l_stand : Stmt := top 52
abbrev N_l_stand : List Str := ["_law_drawer", "_law_names_here", "_law_k", "_law_hands", "_law_menu_here", "_law_rings", "_law_sort", "_law_count", "_law_shift", "_law_steps_here", "_law_hand", "_law_j", "_law_weight"]
theorem sc_l_stand : FnScope N_l_stand ["_law_drawer", "_law_names_here", "_law_k", "_law_hands", "_law_menu_here", "_law_rings"] (defScope s_l_stand) := ⟨rfl, rfl, rfl, by decide +kernel, rfl, by decide +kernel, by decide +kernel⟩
theorem bd_l_stand {K : PySem.W.Frag} {f : Addr} {fd : FuncData} (F : Fun K "_law_stand" "_law_stand" s_l_stand f fd) : Binds K fd ["_law_drawer", "_law_names_here", "_law_k", "_law_hands", "_law_menu_here", "_law_rings"] [] := F.binds fun _ _ _ _ _ _ us hl => match us, hl with | [_, _, _, _, _, _], _ => rfl
abbrev s_l_stands : Stmt := top 53
abbrev N_l_stands : List Str := ["_law_drawer", "_law_names_here", "_law_hands", "_law_rings", "_law_menu_here", "_law_stands_here", "_law_k"]
theorem sc_l_stands : FnScope N_l_stands ["_law_drawer", "_law_names_here", "_law_hands", "_law_rings"] (defScope s_l_stands) := ⟨rfl, rfl, rfl, by decide +kernel, rfl, by decide +kernel, by decide +kernel⟩
theorem bd_l_stands {K : PySem.W.Frag} {f : Addr} {fd : FuncData} (F : Fun K "_law_stands" "_law_stands" s_l_stands f fd) : Binds K fd ["_law_drawer", "_law_names_here", "_law_hands", "_law_rings"] [] := F.binds fun _ _ _ _ _ _ us hl => match us, hl with | [_, _, _, _], _ => rfl
abbrev s_l_build : Stmt := top 54
abbrev N_l_build : List Str := ["_law_script", "_law_drawer", "_law_hands", "_law_many", "_law_rings", "_law_names_here"]
theorem sc_l_build : FnScope N_l_build ["_law_script"] (defScope s_l_build) := ⟨rfl, rfl, rfl, by decide +kernel, rfl, by decide +kernel, by decide +kernel⟩
theorem bd_l_build {K : PySem.W.Frag} {f : Addr} {fd : FuncData} (F : Fun K "_law_build" "_law_build" s_l_build f fd) : Binds K fd ["_law_script"] [] := F.binds fun _ _ _ _ _ _ us hl => match us, hl with | [_], _ => rfl
abbrev s_l_steps : Stmt := top 55
abbrev N_l_steps : List Str := ["_law_stands_here", "_law_stand_here", "_law_row"]
theorem sc_l_steps : FnScope N_l_steps ["_law_stands_here", "_law_stand_here"] (defScope s_l_steps) := ⟨rfl, rfl, rfl, by decide +kernel, rfl, by decide +kernel, by decide +kernel⟩
theorem bd_l_steps {K : PySem.W.Frag} {f : Addr} {fd : FuncData} (F : Fun K "_law_steps" "_law_steps" s_l_steps f fd) : Binds K fd ["_law_stands_here", "_law_stand_here"] [] := F.binds fun _ _ _ _ _ _ us hl => match us, hl with | [_, _], _ => rfl
abbrev s_l_to : Stmt := top 56
abbrev N_l_to : List Str := ["_law_stands_here", "_law_stand_here", "_law_step", "_law_row"]
theorem sc_l_to : FnScope N_l_to ["_law_stands_here", "_law_stand_here", "_law_step"] (defScope s_l_to) := ⟨rfl, rfl, rfl, by decide +kernel, rfl, by decide +kernel, by decide +kernel⟩
theorem bd_l_to {K : PySem.W.Frag} {f : Addr} {fd : FuncData} (F : Fun K "_law_to" "_law_to" s_l_to f fd) : Binds K fd ["_law_stands_here", "_law_stand_here", "_law_step"] [] := F.binds fun _ _ _ _ _ _ us hl => match us, hl with | [_, _, _], _ => rfl
abbrev s_l_mover : Stmt := top 57
abbrev N_l_mover : List Str := ["_law_stands_here", "_law_stand_here"]
theorem sc_l_mover : FnScope N_l_mover ["_law_stands_here", "_law_stand_here"] (defScope s_l_mover) := ⟨rfl, rfl, rfl, by decide +kernel, rfl, by decide +kernel, by decide +kernel⟩
theorem bd_l_mover {K : PySem.W.Frag} {f : Addr} {fd : FuncData} (F : Fun K "_law_mover" "_law_mover" s_l_mover f fd) : Binds K fd ["_law_stands_here", "_law_stand_here"] [] := F.binds fun _ _ _ _ _ _ us hl => match us, hl with | [_, _], _ => rfl
abbrev s_l_worths : Stmt := top 58
abbrev N_l_worths : List Str := ["_law_drawer", "_law_stands_here", "_law_size", "_law_worths_here", "_law_stand_here"]
theorem sc_l_worths : FnScope N_l_worths ["_law_drawer", "_law_stands_here"] (defScope s_l_worths) := ⟨rfl, rfl, rfl, by decide +kernel, rfl, by decide +kernel, by decide +kernel⟩
theorem bd_l_worths {K : PySem.W.Frag} {f : Addr} {fd : FuncData} (F : Fun K "_law_worths" "_law_worths" s_l_worths f fd) : Binds K fd ["_law_drawer", "_law_stands_here"] [] := F.binds fun _ _ _ _ _ _ us hl => match us, hl with | [_, _], _ => rfl
abbrev s_endless : Stmt := top 59
abbrev N_endless : List Str := ["_law_drawer", "_law_worths_here", "_law_values", "_law_gap", "_law_stand_here"]
theorem sc_endless : FnScope N_endless ["_law_drawer", "_law_worths_here"] (defScope s_endless) := ⟨rfl, rfl, rfl, by decide +kernel, rfl, by decide +kernel, by decide +kernel⟩
theorem bd_endless {K : PySem.W.Frag} {f : Addr} {fd : FuncData} (F : Fun K "_law_endless" "_law_endless" s_endless f fd) : Binds K fd ["_law_drawer", "_law_worths_here"] [] := F.binds fun _ _ _ _ _ _ us hl => match us, hl with | [_, _], _ => rfl
abbrev s_l_level : Stmt := top 60
abbrev N_l_level : List Str := ["_law_drawer", "_law_worths_here", "_law_endless_here", "_law_values", "_law_value", "_law_way", "_law_stand_here"]
theorem sc_l_level : FnScope N_l_level ["_law_drawer", "_law_worths_here", "_law_endless_here"] (defScope s_l_level) := ⟨rfl, rfl, rfl, by decide +kernel, rfl, by decide +kernel, by decide +kernel⟩
theorem bd_l_level {K : PySem.W.Frag} {f : Addr} {fd : FuncData} (F : Fun K "_law_level" "_law_level" s_l_level f fd) : Binds K fd ["_law_drawer", "_law_worths_here", "_law_endless_here"] [] := F.binds fun _ _ _ _ _ _ us hl => match us, hl with | [_, _, _], _ => rfl
abbrev s_l_book : Stmt := top 61
abbrev N_l_book : List Str := ["_law_drawer", "_law_stands_here", "_law_book_here", "_law_stand_here", "_law_steps_here", "_law_bits", "_law_row", "_law_at"]
theorem sc_l_book : FnScope N_l_book ["_law_drawer", "_law_stands_here"] (defScope s_l_book) := ⟨rfl, rfl, rfl, by decide +kernel, rfl, by decide +kernel, by decide +kernel⟩
theorem bd_l_book {K : PySem.W.Frag} {f : Addr} {fd : FuncData} (F : Fun K "_law_book" "_law_book" s_l_book f fd) : Binds K fd ["_law_drawer", "_law_stands_here"] [] := F.binds fun _ _ _ _ _ _ us hl => match us, hl with | [_, _], _ => rfl
abbrev s_l_let : Stmt := top 62
abbrev N_l_let : List Str := ["_law_stands_here", "_law_book_here", "_law_stand_here"]
theorem sc_l_let : FnScope N_l_let ["_law_stands_here", "_law_book_here", "_law_stand_here"] (defScope s_l_let) := ⟨rfl, rfl, rfl, by decide +kernel, rfl, by decide +kernel, by decide +kernel⟩
theorem bd_l_let {K : PySem.W.Frag} {f : Addr} {fd : FuncData} (F : Fun K "_law_let" "_law_let" s_l_let f fd) : Binds K fd ["_law_stands_here", "_law_book_here", "_law_stand_here"] [] := F.binds fun _ _ _ _ _ _ us hl => match us, hl with | [_, _, _], _ => rfl
abbrev s_l_reached : Stmt := top 63
abbrev N_l_reached : List Str := ["_law_stands_here", "_law_book_here", "_law_start", "_law_depths", "_law_found", "_law_at", "_law_step", "_law_to_here"]
theorem sc_l_reached : FnScope N_l_reached ["_law_stands_here", "_law_book_here", "_law_start"] (defScope s_l_reached) := ⟨rfl, rfl, rfl, by decide +kernel, rfl, by decide +kernel, by decide +kernel⟩
theorem bd_l_reached {K : PySem.W.Frag} {f : Addr} {fd : FuncData} (F : Fun K "_law_reached" "_law_reached" s_l_reached f fd) : Binds K fd ["_law_stands_here", "_law_book_here", "_law_start"] [] := F.binds fun _ _ _ _ _ _ us hl => match us, hl with | [_, _, _], _ => rfl
abbrev s_l_same : Stmt := top 64
abbrev N_l_same : List Str := ["_law_told", "_law_expected"]
theorem sc_l_same : FnScope N_l_same ["_law_told", "_law_expected"] (defScope s_l_same) := ⟨rfl, rfl, rfl, by decide +kernel, rfl, by decide +kernel, by decide +kernel⟩
theorem bd_l_same {K : PySem.W.Frag} {f : Addr} {fd : FuncData} (F : Fun K "_law_same" "_law_same" s_l_same f fd) : Binds K fd ["_law_told", "_law_expected"] [] := F.binds fun _ _ _ _ _ _ us hl => match us, hl with | [_, _], _ => rfl
abbrev s_l_breaks : Stmt := top 65
abbrev N_l_breaks : List Str := ["_law_stands_here", "_law_worths_here", "_law_level_here", "_law_book_here", "_law_start", "_law_run", "_law_many", "_law_at", "_law_step"]
theorem sc_l_breaks : FnScope N_l_breaks ["_law_stands_here", "_law_worths_here", "_law_level_here", "_law_book_here", "_law_start", "_law_run", "_law_many"] (defScope s_l_breaks) := ⟨rfl, rfl, rfl, by decide +kernel, rfl, by decide +kernel, by decide +kernel⟩
theorem bd_l_breaks {K : PySem.W.Frag} {f : Addr} {fd : FuncData} (F : Fun K "_law_breaks" "_law_breaks" s_l_breaks f fd) : Binds K fd ["_law_stands_here", "_law_worths_here", "_law_level_here", "_law_book_here", "_law_start", "_law_run", "_law_many"] [] := F.binds fun _ _ _ _ _ _ us hl => match us, hl with | [_, _, _, _, _, _, _], _ => rfl
abbrev s_l_asked : Stmt := top 66
abbrev N_l_asked : List Str := ["_law_work", "_law_wish", "_law_stands_here", "_law_worths_here", "_law_level_here", "_law_book_here", "_law_start", "_law_depths", "_law_low", "_law_run", "_law_found", "_law_end"]
theorem sc_l_asked : FnScope N_l_asked ["_law_work", "_law_wish", "_law_stands_here", "_law_worths_here", "_law_level_here", "_law_book_here", "_law_start"] (defScope s_l_asked) := ⟨rfl, rfl, rfl, by decide +kernel, rfl, by decide +kernel, by decide +kernel⟩
theorem bd_l_asked {K : PySem.W.Frag} {f : Addr} {fd : FuncData} (F : Fun K "_law_asked" "_law_asked" s_l_asked f fd) : Binds K fd ["_law_work", "_law_wish", "_law_stands_here", "_law_worths_here", "_law_level_here", "_law_book_here", "_law_start"] [] := F.binds fun _ _ _ _ _ _ us hl => match us, hl with | [_, _, _, _, _, _, _], _ => rfl
abbrev s_l_known_breach : Stmt := top 67
abbrev N_l_known_breach : List Str := ["_law_work", "_law_wish", "_law_stands_here", "_law_level_here", "_law_book_here", "_law_run", "_law_breach", "_law_at", "_law_step"]
theorem sc_l_known_breach : FnScope N_l_known_breach ["_law_work", "_law_wish", "_law_stands_here", "_law_level_here", "_law_book_here"] (defScope s_l_known_breach) := ⟨rfl, rfl, rfl, by decide +kernel, rfl, by decide +kernel, by decide +kernel⟩
theorem bd_l_known_breach {K : PySem.W.Frag} {f : Addr} {fd : FuncData} (F : Fun K "_law_known_breach" "_law_known_breach" s_l_known_breach f fd) : Binds K fd ["_law_work", "_law_wish", "_law_stands_here", "_law_level_here", "_law_book_here"] [] := F.binds fun _ _ _ _ _ _ us hl => match us, hl with | [_, _, _, _, _], _ => rfl
abbrev s_l_turned : Stmt := top 68
abbrev N_l_turned : List Str := ["_law_table", "_law_found", "_law_key"]
theorem sc_l_turned : FnScope N_l_turned ["_law_table"] (defScope s_l_turned) := ⟨rfl, rfl, rfl, by decide +kernel, rfl, by decide +kernel, by decide +kernel⟩
theorem bd_l_turned {K : PySem.W.Frag} {f : Addr} {fd : FuncData} (F : Fun K "_law_turned" "_law_turned" s_l_turned f fd) : Binds K fd ["_law_table"] [] := F.binds fun _ _ _ _ _ _ us hl => match us, hl with | [_], _ => rfl
abbrev s_l_turned_stands : Stmt := top 69
abbrev N_l_turned_stands : List Str := ["_law_stands_here", "_law_found", "_law_stand_here", "_law_row"]
theorem sc_l_turned_stands : FnScope N_l_turned_stands ["_law_stands_here"] (defScope s_l_turned_stands) := ⟨rfl, rfl, rfl, by decide +kernel, rfl, by decide +kernel, by decide +kernel⟩
theorem bd_l_turned_stands {K : PySem.W.Frag} {f : Addr} {fd : FuncData} (F : Fun K "_law_turned_stands" "_law_turned_stands" s_l_turned_stands f fd) : Binds K fd ["_law_stands_here"] [] := F.binds fun _ _ _ _ _ _ us hl => match us, hl with | [_], _ => rfl
abbrev s_law : Stmt := top 70
abbrev N_law : List Str := ["_law_script", "_law_hands", "_law_names_here", "_law_stands_here", "_law_drawer", "_law_worths_here", "_law_endless_here", "_law_level_here", "_law_book_here", "_law_work", "_law_wish", "_law_before", "_law_other", "_law_turned_here", "_law_mixed", "_law_stand_here", "_law_told"]
theorem sc_law : FnScope N_law ["_law_script"] (defScope s_law) := ⟨rfl, rfl, rfl, by decide +kernel, rfl, by decide +kernel, by decide +kernel⟩
theorem bd_law {K : PySem.W.Frag} {f : Addr} {fd : FuncData} (F : Fun K "law" "law" s_law f fd) : Binds K fd ["_law_script"] [] := F.binds fun _ _ _ _ _ _ us hl => match us, hl with | [_], _ => rfl
end Law
/-! the head -/
namespace Law
open PySem PySem.Spec PyProof.Rows L2 Ox
def d_law : Oh.Dd := ⟨fun K => He.ga K "law", "law", "law", s_law⟩
def d_l_build : Oh.Dd := ⟨fun K => He.ga K "_law_build", "_law_build", "_law_build", s_l_build⟩
def d_l_open : Oh.Dd := ⟨fun K => He.ga K "_law_open", "_law_open", "_law_open", s_l_open⟩
def d_draw : Oh.Dd := ⟨fun K => He.ga K "_law_draw", "_law_draw", "_law_draw", s_draw⟩
def d_l_names : Oh.Dd := ⟨fun K => He.ga K "_law_names", "_law_names", "_law_names", s_l_names⟩
def d_l_stands : Oh.Dd := ⟨fun K => He.ga K "_law_stands", "_law_stands", "_law_stands", s_l_stands⟩
def d_l_menu : Oh.Dd := ⟨fun K => He.ga K "_law_menu", "_law_menu", "_law_menu", s_l_menu⟩
def d_l_stand : Oh.Dd := ⟨fun K => He.ga K "_law_stand", "_law_stand", "_law_stand", s_l_stand⟩
def d_l_target : Oh.Dd := ⟨fun K => He.ga K "_law_target", "_law_target", "_law_target", s_l_target⟩
def d_l_worths : Oh.Dd := ⟨fun K => He.ga K "_law_worths", "_law_worths", "_law_worths", s_l_worths⟩
def d_endless : Oh.Dd := ⟨fun K => He.ga K "_law_endless", "_law_endless", "_law_endless", s_endless⟩
def d_l_level : Oh.Dd := ⟨fun K => He.ga K "_law_level", "_law_level", "_law_level", s_l_level⟩
def d_l_book : Oh.Dd := ⟨fun K => He.ga K "_law_book", "_law_book", "_law_book", s_l_book⟩
def d_l_steps : Oh.Dd := ⟨fun K => He.ga K "_law_steps", "_law_steps", "_law_steps", s_l_steps⟩
def d_Work_init : Oh.Dd := ⟨fun K => He.ma K (He.ga K "Work") "__init__", "__init__", "Work.__init__", s_Work_init⟩
def d_is_integer : Oh.Dd := ⟨fun K => He.ga K "is_integer", "is_integer", "is_integer", s_is_integer⟩
def d_is_name : Oh.Dd := ⟨fun K => He.ga K "is_name", "is_name", "is_name", s_is_name⟩
def d_are_stands : Oh.Dd := ⟨fun K => He.ga K "are_stands", "are_stands", "are_stands", s_are_stands⟩
def d_is_stand : Oh.Dd := ⟨fun K => He.ga K "is_stand", "is_stand", "is_stand", s_is_stand⟩
def d_is_moves : Oh.Dd := ⟨fun K => He.ga K "is_moves", "is_moves", "is_moves", s_is_moves⟩
def d_is_draws : Oh.Dd := ⟨fun K => He.ga K "is_draws", "is_draws", "is_draws", s_is_draws⟩
def d_is_pair : Oh.Dd := ⟨fun K => He.ga K "is_pair", "is_pair", "is_pair", s_is_pair⟩
def d_copied : Oh.Dd := ⟨fun K => He.ga K "copied", "copied", "copied", s_copied⟩
def d_is_ringless : Oh.Dd := ⟨fun K => He.ga K "is_ringless", "is_ringless", "is_ringless", s_is_ringless⟩
def d_leads : Oh.Dd := ⟨fun K => He.ga K "leads", "leads", "leads", s_leads⟩
def d_Wish_init : Oh.Dd := ⟨fun K => He.ma K (He.ga K "Wish") "__init__", "__init__", "Wish.__init__", s_Wish_init⟩
def d_are_worths : Oh.Dd := ⟨fun K => He.ga K "are_worths", "are_worths", "are_worths", s_are_worths⟩
def d_is_value : Oh.Dd := ⟨fun K => He.ga K "is_value", "is_value", "is_value", s_is_value⟩
def d_l_asked : Oh.Dd := ⟨fun K => He.ga K "_law_asked", "_law_asked", "_law_asked", s_l_asked⟩
def d_l_reached : Oh.Dd := ⟨fun K => He.ga K "_law_reached", "_law_reached", "_law_reached", s_l_reached⟩
def d_l_let : Oh.Dd := ⟨fun K => He.ga K "_law_let", "_law_let", "_law_let", s_l_let⟩
def d_l_to : Oh.Dd := ⟨fun K => He.ga K "_law_to", "_law_to", "_law_to", s_l_to⟩
def d_l_same : Oh.Dd := ⟨fun K => He.ga K "_law_same", "_law_same", "_law_same", s_l_same⟩
def d_keeps : Oh.Dd := ⟨fun K => He.ga K "keeps", "keeps", "keeps", s_keeps⟩
def d_breaking : Oh.Dd := ⟨fun K => He.ga K "breaking", "breaking", "breaking", s_breaking⟩
def d_checked_book : Oh.Dd := ⟨fun K => He.ga K "checked_book", "checked_book", "checked_book", s_checked_book⟩
def d_suited : Oh.Dd := ⟨fun K => He.ga K "suited", "suited", "suited", s_suited⟩
def d_is_fraction : Oh.Dd := ⟨fun K => He.ga K "is_fraction", "is_fraction", "is_fraction", s_is_fraction⟩
def d_common_divisor : Oh.Dd := ⟨fun K => He.ga K "common_divisor", "common_divisor", "common_divisor", s_common_divisor⟩
def d_is_book : Oh.Dd := ⟨fun K => He.ga K "is_book", "is_book", "is_book", s_is_book⟩
def d_Work_kind : Oh.Dd := ⟨fun K => He.ma K (He.ga K "Work") "kind", "kind", "Work.kind", s_Work_kind⟩
def d_Work_row : Oh.Dd := ⟨fun K => He.ma K (He.ga K "Work") "row", "row", "Work.row", s_Work_row⟩
def d_Work_steps : Oh.Dd := ⟨fun K => He.ma K (He.ga K "Work") "steps", "steps", "Work.steps", s_Work_steps⟩
def d_is_entry : Oh.Dd := ⟨fun K => He.ga K "is_entry", "is_entry", "is_entry", s_is_entry⟩
def d_Wish_worths : Oh.Dd := ⟨fun K => Oh.ga2 K "Wish" "worths", "worths", "Wish.worths", s_Wish_worths⟩
def d_let_ways : Oh.Dd := ⟨fun K => He.ga K "let_ways", "let_ways", "let_ways", s_let_ways⟩
def d_let_steps : Oh.Dd := ⟨fun K => He.ga K "let_steps", "let_steps", "let_steps", s_let_steps⟩
def d_Work_to : Oh.Dd := ⟨fun K => He.ma K (He.ga K "Work") "to", "to", "Work.to", s_Work_to⟩
def d_is_below : Oh.Dd := ⟨fun K => He.ga K "is_below", "is_below", "is_below", s_is_below⟩
def d_way_to : Oh.Dd := ⟨fun K => He.ga K "way_to", "way_to", "way_to", s_way_to⟩
def d_kept_stands : Oh.Dd := ⟨fun K => He.ga K "kept_stands", "kept_stands", "kept_stands", s_kept_stands⟩
def d_l_breaks : Oh.Dd := ⟨fun K => He.ga K "_law_breaks", "_law_breaks", "_law_breaks", s_l_breaks⟩
def d_l_turned : Oh.Dd := ⟨fun K => He.ga K "_law_turned", "_law_turned", "_law_turned", s_l_turned⟩
def d_l_turned_stands : Oh.Dd := ⟨fun K => He.ga K "_law_turned_stands", "_law_turned_stands", "_law_turned_stands", s_l_turned_stands⟩
def d_l_known_breach : Oh.Dd := ⟨fun K => He.ga K "_law_known_breach", "_law_known_breach", "_law_known_breach", s_l_known_breach⟩
def d_first_breach : Oh.Dd := ⟨fun K => He.ga K "first_breach", "first_breach", "first_breach", s_first_breach⟩
def d_passed : Oh.Dd := ⟨fun K => He.ga K "passed", "passed", "passed", s_passed⟩
def d_is_row : Oh.Dd := ⟨fun K => He.ga K "is_row", "is_row", "is_row", s_is_row⟩
def d_movers : Oh.Dd := ⟨fun K => He.ga K "movers", "movers", "movers", s_movers⟩
def d_Work_mover : Oh.Dd := ⟨fun K => He.ma K (He.ga K "Work") "mover", "mover", "Work.mover", s_Work_mover⟩
def d_l_mover : Oh.Dd := ⟨fun K => He.ga K "_law_mover", "_law_mover", "_law_mover", s_l_mover⟩
abbrev ds0 : List Oh.Dd := [d_law, d_l_build, d_l_open, d_draw, d_l_names, d_l_stands, d_l_menu, d_l_stand, d_l_target, d_l_worths, d_endless, d_l_level, d_l_book, d_l_steps, d_Work_init, d_is_integer, d_is_name, d_are_stands, d_is_stand, d_is_moves, d_is_draws, d_is_pair, d_copied, d_is_ringless, d_leads, d_Wish_init, d_are_worths, d_is_value, d_l_asked, d_l_reached]
abbrev ds1 : List Oh.Dd := [d_l_let, d_l_to, d_l_same, d_keeps, d_breaking, d_checked_book, d_suited, d_is_fraction, d_common_divisor, d_is_book, d_Work_kind, d_Work_row, d_Work_steps, d_is_entry, d_Wish_worths, d_let_ways, d_let_steps, d_Work_to, d_is_below, d_way_to, d_kept_stands, d_l_breaks, d_l_turned, d_l_turned_stands, d_l_known_breach, d_first_breach, d_passed, d_is_row, d_movers, d_Work_mover]
abbrev ds2 : List Oh.Dd := [d_l_mover]
abbrev dsA : List Oh.Dd := ds0 ++ ds1 ++ ds2
abbrev fa0 : List (Oh.Frag → Bool) := [Oh.fo (.glo "law"), Oh.fo (.free "list"), Oh.fo (.free "repr"), fun K => (K.lookup sysModules).isSome, Oh.fo (.free "len"), Oh.fo (.free "int"), Oh.fo (.glo "_law_open"), Oh.fo (.glo "_law_draw"), Oh.fo (.free "range"), Oh.fo (.free "str"), Oh.fo (.glo "_law_names"), Oh.fo (.glo "_law_menu"), Oh.fo (.glo "_law_target"), Oh.fo (.glo "_law_stand"), Oh.fo (.glo "_law_stands"), Oh.fo (.glo "_law_build"), Oh.fo (.free "sorted"), Oh.fo (.glo "_law_worths"), Oh.fo (.free "max"), Oh.fo (.free "min"), Oh.fo (.glo "_law_endless"), Oh.fo (.glo "_law_level"), Oh.fo (.free "tuple"), Oh.fo (.glo "_law_steps"), Oh.fo (.glo "_law_book"), Oh.fo (.cls "Work"), Oh.fo (.noat "Work" "hands"), Oh.fo (.noat "Work" "start"), Oh.fo (.noat "Work" "table"), Oh.fo (.noat "Work" "names")]
abbrev fa1 : List (Oh.Frag → Bool) := [Oh.fo (.noat "Work" "ends"), Oh.fo (.noat "Work" "ringless"), Oh.fo (.free "bool"), Oh.fo (.free "isinstance"), Oh.fo (.glo "is_integer"), Oh.fo (.glo "is_name"), Oh.fo (.free "dict"), Oh.fo (.glo "is_moves"), Oh.fo (.glo "is_pair"), Oh.fo (.glo "is_draws"), Oh.fo (.glo "is_stand"), Oh.fo (.glo "are_stands"), Oh.fo (.glo "copied"), Oh.fo (.free "all"), Oh.fo (.glo "leads"), Oh.fo (.glo "is_ringless"), Oh.fo (.mkr "Work"), Oh.fo (.glo "Work"), Oh.fo (.cls "Wish"), Oh.fo (.noat "Wish" "table"), Oh.fo (.noat "Wish" "endless"), Oh.fo (.noat "Wish" "coming"), Oh.fo (.glo "is_value"), Oh.fo (.glo "are_worths"), Oh.fo (.mkr "Wish"), Oh.fo (.glo "Wish"), Oh.fo (.glo "_law_let"), Oh.fo (.glo "_law_to"), Oh.fo (.glo "_law_reached"), Oh.fo (.glo "_law_same")]
abbrev fa2 : List (Oh.Frag → Bool) := [Oh.fo (.glo "suited"), Oh.fo (.free "abs"), Oh.fo (.glo "common_divisor"), Oh.fo (.glo "is_fraction"), Oh.fo (.meth "Work" "row"), Oh.fo (.meth "Work" "kind"), Oh.fo (.meth "Work" "steps"), Oh.fo (.free "enumerate"), Oh.fo (.glo "is_entry"), Oh.fo (.glo "is_book"), Oh.fo (.glo "checked_book"), Oh.propB "Wish" "worths", Oh.fo (.glo "let_steps"), Oh.fo (.meth "Work" "to"), Oh.fo (.glo "let_ways"), Oh.fo (.glo "is_below"), Oh.fo (.glo "way_to"), Oh.fo (.glo "breaking"), Oh.fo (.glo "keeps"), Oh.fo (.glo "kept_stands"), Oh.fo (.glo "_law_breaks"), Oh.fo (.glo "_law_asked"), Oh.fo (.glo "_law_turned"), Oh.fo (.glo "_law_turned_stands"), Oh.fo (.glo "is_row"), Oh.fo (.glo "passed"), Oh.fo (.meth "Work" "mover"), Oh.fo (.glo "movers"), Oh.fo (.glo "first_breach"), Oh.fo (.glo "_law_mover")]
abbrev fa3 : List (Oh.Frag → Bool) := [Oh.fo (.glo "_law_known_breach")]
abbrev faA : List (Oh.Frag → Bool) := fa0 ++ fa1 ++ fa2 ++ fa3
abbrev lo0 : List Str := ["is_integer", "is_name", "is_row", "is_pair", "common_divisor", "is_fraction", "OwnError", "BadWork", "NoStand", "NoStep", "BadRun", "BadWish", "Unsuited", "BadFraction", "BadBook", "passed", "movers", "is_value", "are_worths", "Wish", "suited", "is_entry", "is_book", "let_steps", "first_breach", "let_ways", "way_to", "is_below", "checked_book", "breaking"]
abbrev lo1 : List Str := ["keeps", "kept_stands", "is_moves", "is_draws", "is_stand", "are_stands", "copied", "leads", "is_ringless", "Work", "_law_open", "_law_draw", "_law_names", "_law_target", "_law_menu", "_law_stand", "_law_stands", "_law_build", "_law_steps", "_law_to", "_law_mover", "_law_worths", "_law_endless", "_law_level", "_law_book", "_law_let", "_law_reached", "_law_same", "_law_breaks", "_law_asked"]
abbrev lo2 : List Str := ["_law_known_breach", "_law_turned", "_law_turned_stands"]
abbrev loA : List Str := lo0 ++ lo1 ++ lo2
abbrev ssA : List Oh.Sd := []
abbrev Rw : PySem.W.OpenRow := PySem.W.OpenLaw.row PySem.Challenge.rw_ownslips_k70_whole_keeps_by_all_let_runs
abbrev hk : PySem.W.Hook := Oh.hook2 8 "/claim/cut.py" faA dsA ssA
def ob (s : PySem.W.SharedT) : Oh.Ob := Oh.obT2 8 "/claim/cut.py" faA dsA ssA s
theorem ob_eq (s : PySem.W.SharedT) : ob s = hk.obs s.abs := Oh.obT2_eq s
theorem run (w : World) : HandSHeadRun.RunEq Rw (PySem.W.view Rw.prog [70]) hk ob 6000 loA w := by
  intro os
  kernel_rfl
end Law

namespace Law
open PySem PySem.Spec PyProof.Rows L2 Ox
local macro_rules | `(tactic| walk_at "hp") => `(tactic| first
  | assumption
  | exact upd_same
  | (refine (upd_ne ?_).trans ?_; (walk_at "ne"); (walk_at "hp")))
local macro_rules | `(tactic| walk_at "ne") => `(tactic| first
  | assumption
  | exact Ne.symm (by assumption)
  | exact ne_old (by assumption) (by walk_at "hp")
  | exact Ne.symm (ne_old (by assumption) (by walk_at "hp"))
  | exact ne_two (by walk_at "hp") (by walk_at "hp") (by intro z; cases z)
  | exact fun z => absurd z (by decide))
local macro_rules | `(tactic| walk_at "kd") => `(tactic| first
  | exact .non
  | exact .bl _
  | exact .int _
  | exact .str _
  | assumption
  | exact .lst (SqL.of (by walk_at "hp"))
  | exact .tup (SqT.of (by walk_at "hp"))
  | exact .dict (.inl (by walk_at "hp")))
local macro_rules | `(tactic| walk_at "cond") => `(tactic| first
  | omega
  | exact mulok_r (by omega) (by omega)
  | exact mulok_l (by omega) (by omega)
  | exact divok (by omega) (by omega)
  | exact divok2 (by omega) (by omega)
  | exact ⟨by omega, by decide +kernel⟩
  | decide +kernel)
local macro_rules | `(tactic| walk_at "go") => `(tactic| repeat (first
  | (with_reducible refine x_seq ?_)
  | (with_reducible refine x_next ?_)
  | (with_reducible refine x_brk ?_)
  | (with_reducible refine x_cont ?_)
  | (with_reducible refine x_ret ?_)
  | (with_reducible refine x_retN ?_)
  | (with_reducible refine x_set ?_)
  | (with_reducible refine x_if ?_)
  | (with_reducible refine x_drop ?_)
  | (with_reducible refine x_par ?_)
  | (with_reducible refine x_par2 ?_)
  | (with_reducible refine x_setL ?_)
  | ((with_reducible refine' x_var ?xh ?_); (case xh => exact rfl))
  | ((with_reducible refine' x_aug ?xh ?_); (case xh => exact rfl))
  | (with_reducible refine x_c ?_)
  | (with_reducible refine x_op ?_)
  | (with_reducible refine x_un ?_)
  | (with_reducible refine x_I0 ?_)
  | (with_reducible refine x_ipI ?_)
  | ((with_reducible refine x_I ?xh ?_); (case xh => walk_at "cond"))
  | (with_reducible refine x_U ?_)
  | (with_reducible refine x_eqI ?_)
  | (with_reducible refine x_eqS ?_)
  | (with_reducible refine x_eqB ?_)
  | (with_reducible refine x_neI ?_)
  | (with_reducible refine x_neS ?_)
  | (with_reducible refine x_neB ?_)
  | (with_reducible refine x_blV ?_)
  | (with_reducible refine x_bl ?_)
  | (with_reducible refine x_test ?_)
  | (with_reducible refine x_B ?_)
  | (with_reducible refine x_not ?_)
  | (with_reducible refine x_and ?_)
  | (with_reducible refine x_or ?_)
  | (with_reducible refine x_andV ?_)
  | (with_reducible refine x_orV ?_)
  | (with_reducible refine x_notV ?_)
  | (with_reducible refine x_ifE ?_)
  | (with_reducible refine x_chain ?_)
  | (with_reducible refine x_nil ?_)
  | (with_reducible refine x_cons ?_)
  | (with_reducible refine x_tup ?_)
  | (with_reducible refine x_lst ?_)
  | (with_reducible refine x_cb ?_)
  | (with_reducible refine x_call ?_)
  | (with_reducible refine x_make ?_)
  | (with_reducible refine x_Fld ?_)
  | (with_reducible refine x_forL ?_)
  | (with_reducible refine x_forT ?_)
  | (with_reducible refine x_forR ?_)
  | (with_reducible refine x_forR2 ?_)
  | (with_reducible refine x_forS ?_)
  | (with_reducible refine x_forK ?_)
  | (with_reducible refine x_forI ?_)
  | (with_reducible refine x_forV ?_)
  | (with_reducible refine x_g1 ?_)
  | (with_reducible refine x_lc ?_)
  | (with_reducible refine x_dc ?_)
  | (with_reducible refine x_yes1 ?_)
  | (with_reducible refine x_iK ?_)
  | (with_reducible refine x_iV ?_)
  | (with_reducible refine x_iI ?_)
  | (with_reducible refine x_iL ?_)
  | (with_reducible refine x_iT ?_)
  | (with_reducible refine x_iS ?_)
  | (with_reducible refine x_iR ?_)
  | (with_reducible refine x_dget ?_)
  | (with_reducible refine x_din ?_)
  | (with_reducible refine x_dnin ?_)
  | (with_reducible refine x_dput ?_)
  | (with_reducible refine x_newK ?_)
  | (with_reducible refine x_listV ?_)
  | (with_reducible refine x_sfld ?_)
  | (with_reducible refine x_revL ?_)
  | (with_reducible refine x_prop ?_)
  | (with_reducible refine x_sl ?_)
  | (with_reducible refine x_forE ?_)
  | (with_reducible refine x_mt ?_)
  | (with_reducible refine x_nopart ?_)
  | (with_reducible refine x_part ?_)
  | (with_reducible refine x_parti ?_)
  | (with_reducible refine x_bm ?_)
  | (with_reducible refine x_bm0 ?_)
  | (with_reducible refine x_intI ?_)
  | (with_reducible refine x_max2 ?_)
  | (with_reducible refine x_min2 ?_)
  | (with_reducible refine x_abs ?_)
  | (with_reducible refine x_isN ?_)
  | (with_reducible refine x_notN ?_)
  | (with_reducible refine x_inS ?_)
  | (with_reducible refine x_ninS ?_)
  | (with_reducible refine x_T ?_)
  | (with_reducible refine x_F ?_)
  | (with_reducible refine x_nT ?_)
  | (with_reducible refine x_nF ?_)
  | ((with_reducible refine' x_lenL ?xh ?_); (case xh => exact SqL.of (by walk_at "hp")))
  | ((with_reducible refine' x_tyL ?xh ?_); (case xh => exact SqL.of (by walk_at "hp")))
  ))
/-! ### a list over a range, ends of an if -/
theorem lcR {D : Addr} {g : TG} {tt : TT} {te : TE} {vs : List Nat} {σ : L2.St} {H : Hp} {Qd : Hp → Prop} {m : Nat} (Pv : Nat → Hp → Prop) (h0 : Pv 0 (upd H D (.lst [])))
    (hs : ∀ i H, i < m → Pv i H → g (.int (i : Int)) (wipe σ vs) H fun σ2 H2 => wipe σ2 vs = wipe σ vs ∧ tt σ2 H2 fun b H3 =>
      if b = true then te σ2 H3 fun y H4 => ∃ acc, H4 D = some (.lst acc) ∧ acc.length < sizeLine ∧ Pv (i + 1) (upd H4 D (.lst (acc ++ [y]))) else Pv (i + 1) H3) (hd : ∀ H, Pv m H → Qd H) : LcP (Itr 0 m) g tt te vs σ D Qd H :=
  lc_by walk_range Pv h0 (fun _ _ _ _ => trivial) (fun i x H H' hi hp y => by
    obtain ⟨rfl, rfl⟩ := y
    dsimp only
    rw [Int.zero_add]
    exact hs i _ hi hp) hd
/-- both ends of an if go on alike -/
theorem if_join {α : Type} {c : TT} {t e : TS} {n : L2.St → Hp → Prop} {r : VK} {b k : L2.St → Hp → Prop} {σ : L2.St} {H : Hp} (S : α → Prop) (f : α → L2.St) (h : ∀ n' : L2.St → Hp → Prop, (∀ a, S a → n' (f a) H) → tIfS c t e ⟨n', r, b, k⟩ σ H) (hn : ∀ a, S a → n (f a) H) : tIfS c t e ⟨n, r, b, k⟩ σ H := h n hn
theorem if_joinH {α : Type} {c : TT} {t e : TS} {n : L2.St → Hp → Prop} {r : VK} {b k : L2.St → Hp → Prop} {σ : L2.St} {H : Hp} (S : α → Hp → Prop) (f : α → L2.St) (h : ∀ n' : L2.St → Hp → Prop, (∀ a H', S a H' → n' (f a) H') → tIfS c t e ⟨n', r, b, k⟩ σ H) (hn : ∀ a H', S a H' → n (f a) H') : tIfS c t e ⟨n, r, b, k⟩ σ H := h n hn
/-! ### family C: a drawer; nothing is said of what is drawn but its bounds -/
abbrev intsV (ns : List Int) : List V := ns.map V.int
def PoolAt (H : Hp) (p : Addr) : Prop := ∃ (c : Int) (f : Bool) (s n : Int), H p = some (.lst [.int c, .bl f, .int s, .int n])
def spOpen (K : PySem.W.Frag) : Sp := fun vs H Q _ => ∃ (a : Addr) (ns : List Int) (k : Int), vs = [.ref a, .int k] ∧ SqL K H a (intsV ns) ∧ ns.length ≤ 63 ∧ 0 ≤ k ∧ k ≤ 100 ∧
  ∀ H' p, L2.Same H H' → H p = none → PoolAt H' p → Q (.ref p) H'
def spDraw : Sp := fun vs H Q _ => ∃ (p : Addr) (m : Int), vs = [.ref p, .int m] ∧ PoolAt H p ∧ 0 < m ∧ m < 2 ^ 200 ∧
  ∀ H' r, But p H H' → PoolAt H' p → 0 ≤ r → r < m → Q (.int r) H'
theorem intsV_at {ns : List Int} {j : Nat} {z : Int} (h : ns[j]? = some z) : atI (intsV ns) (j : Int) = some (.int z) := atI_nat (by rw [List.getElem?_map, h]; rfl)
section
variable {P : Program} {w : World} {K : PySem.W.Frag} {mg : Str → Option Value} {base : Heap}
theorem ok_draw {f : Addr} {fd : FuncData} (F : Fun K "_law_draw" "_law_draw" s_draw f fd) (Z_int : mg "int" = none) : FnOk P w K mg base CX0 1 f fd ["_law_drawer", "_law_many"] spDraw := by
  refine F.ok sc_draw (fun vs H Q E h => ?_) (fun cdv A outer s H vs Q E hr h => ?_)
  · obtain ⟨_, _, rfl, _⟩ := h
    rfl
  · obtain ⟨p, m, rfl, ⟨c, fl, sd, n, hp⟩, hm, hm2, k⟩ := h
    refine ⟨_, (pss_cons (ps_if (PW.pt (pw_and (pt_val (pe_ix ix_list (pv 0) pe_int (fun _ _ => rfl))) (pw_and1 (pt_cmpR op_gt (pe_ix ix_list (pv 0) pe_int (fun _ _ => rfl)) pe_int (nomark _)))))
      (pss_cons (ps_set (i := 2) sc_draw.nd rfl (Or.inl rfl) (pe_op op_mod (pe_callTy call_intA (by rfl) Z_int (by decide +kernel) (pa_cons (pe_ix ix_list (pv 0) pe_int (fun _ _ => rfl)) pa_nil)) (pv 1)))
      (pss_cons (ps_asg (pe_op op_fdivA (pe_ix ix_list (pv 0) pe_int (fun _ _ => rfl)) (pv 1)) (pg_sub (pv 0) pe_int set_list))
      (pss_one (ps_ret (pv 2)))))
      pss_nil)
      (pss_cons (ps_asg (pe_op op_add (pe_ix ix_list (pv 0) pe_int (fun _ _ => rfl)) pe_int) (pg_sub (pv 0) pe_int set_list))
      (pss_cons (ps_set (i := 2) sc_draw.nd rfl (Or.inl rfl) (pe_op op_mod (pe_callTy call_intA (by rfl) Z_int (by decide +kernel) (pa_cons (pe_op op_mulA (pe_op op_add (pe_op op_add (pe_ix ix_list (pv 0) pe_int (fun _ _ => rfl)) (pe_op op_mulA pe_int (pe_ix ix_list (pv 0) pe_int (fun _ _ => rfl)))) pe_int) pe_int) pa_nil)) pe_int))
      (pss_cons (ps_set (i := 2) sc_draw.nd rfl (Or.inl rfl) (pe_op op_mod (pe_callTy call_intA (by rfl) Z_int (by decide +kernel) (pa_cons (pe_op op_mulA (pv 2) (pe_op op_add (pe_op op_fdivA (pv 2) pe_int) pe_int)) pa_nil)) pe_int))
      (pss_cons (ps_set (i := 2) sc_draw.nd rfl (Or.inl rfl) (pe_op op_mod (pe_callTy call_intA (by rfl) Z_int (by decide +kernel) (pa_cons (pe_op op_mulA (pv 2) (pe_op op_add (pe_op op_fdivA (pv 2) pe_int) pe_int)) pa_nil)) pe_int))
      (pss_one (ps_ret (pe_op op_mod (pe_callTy call_intA (by rfl) Z_int (by decide +kernel) (pa_cons (pe_op op_fdivA (pv 2) pe_int) pa_nil)) (pv 1))))))))), ?_⟩
    have fin : ∀ (r : Int) (H' : Hp), But p H H' → PoolAt H' p → Q (.int (r % m)) H' := fun r H' b pp => k H' _ b pp (Int.emod_nonneg _ (by omega)) (Int.emod_lt_of_pos _ hm)
    refine x_seq ?_
    refine if_joinH (α := Unit) (fun _ H' => H' = H) (fun _ => [some (.ref p), some (.int m), none]) (fun n' hn' => ?_) ?_
    · walk_at "go"
      refine x_ixl 1 (SqL.of hp) rfl rfl ?_
      walk_at "go"
      cases fl with
      | false =>
        walk_at "go"
        exact hn' () H rfl
      | true =>
        walk_at "go"
        refine x_ixl 0 (SqL.of hp) rfl rfl ?_
        walk_at "go"
        refine x_dec (fun hc => ?_) (fun hc => ?_)
        · walk_at "go"
          refine x_ixl 0 (SqL.of hp) rfl rfl ?_
          walk_at "go"
          refine x_ixl 0 (SqL.of hp) rfl rfl ?_
          walk_at "go"
          refine x_setl (j := 0) hp rfl (by simp) ?_
          walk_at "go"
          exact fin c _ (But.refl.at_) ⟨_, _, _, _, upd_same⟩
        · walk_at "go"
          exact hn' () H rfl
    · rintro ⟨⟩ H' rfl
      walk_at "go"
      refine x_ixl 3 (SqL.of hp) rfl rfl ?_
      walk_at "go"
      refine x_setl (j := 3) hp rfl (by simp) ?_
      walk_at "go"
      refine x_ixl 2 (SqL.of upd_same) rfl rfl ?_
      walk_at "go"
      refine x_ixl 3 (SqL.of upd_same) rfl rfl ?_
      walk_at "go"
      exact fin _ _ (But.refl.at_) ⟨_, _, _, _, upd_same⟩
theorem ok_l_open {f : Addr} {fd : FuncData} (F : Fun K "_law_open" "_law_open" s_l_open f fd) (Z_len : mg "len" = none) (Z_int : mg "int" = none) : FnOk P w K mg base CX0 1 f fd ["_law_script", "_law_k"] (spOpen K) := by
  refine F.ok sc_l_open (fun vs H Q E h => ?_) (fun cdv A outer s H vs Q E hr h => ?_)
  · obtain ⟨_, _, _, rfl, _⟩ := h
    rfl
  · obtain ⟨a, ns, kk, rfl, hS, hlen, k0, k1, k⟩ := h
    refine ⟨_, (pss_cons (ps_set (i := 2) sc_l_open.nd rfl (Or.inl rfl) pe_int)
      (pss_cons (ps_if (pt_cmpR op_lt (pv 1) (pe_callB call_lenA (by rfl) Z_len (by decide +kernel) (pa_cons (pv 0) pa_nil)) (nomark _))
      (pss_one (ps_set (i := 2) sc_l_open.nd rfl (Or.inl rfl) (pe_op op_mod (pe_callTy call_intA (by rfl) Z_int (by decide +kernel) (pa_cons (pe_ix ix_list (pv 0) (pv 1) (fun _ _ => rfl)) pa_nil)) (pe_op op_powW (pe_op op_powW pe_int pe_int) pe_int))))
      pss_nil)
      (pss_one (ps_ret (pe_lst (pa_cons (pv 2) (pa_cons (pe_cmpR op_ge (pv 2) (pe_op op_powW pe_int pe_int) (nomark _)) (pa_cons (pe_op op_mod (pe_op op_add (pv 2) (pe_op op_mulA pe_int (pe_op op_add (pv 1) pe_int))) pe_int) (pa_cons pe_int pa_nil))))))))), ?_⟩
    walk_at "go"
    refine x_lenL hS ?_
    walk_at "go"
    refine x_dec (fun hc => ?_) (fun hc => ?_)
    · rw [List.length_map] at hc
      obtain ⟨z, hz⟩ : ∃ z, ns[kk.toNat]? = some z := ⟨_, List.getElem?_eq_getElem (by omega)⟩
      have hz2 : (intsV ns)[kk.toNat]? = some (.int z) := by rw [List.getElem?_map, hz]; rfl
      walk_at "go"
      refine x_ixl kk.toNat hS (by omega) hz2 ?_
      walk_at "go"
      refine ⟨sz_le (by simp), fun p hp => ?_⟩
      exact k _ p (same_new hp) hp ⟨_, _, _, _, upd_same⟩
    · walk_at "go"
      refine ⟨sz_le (by simp), fun p hp => ?_⟩
      exact k _ p (same_new hp) hp ⟨_, _, _, _, upd_same⟩
end
theorem PoolAt.upd {H : Hp} {p q : Addr} {o : HO} (h : PoolAt H p) (n : p ≠ q) : PoolAt (upd H q o) p := by
  obtain ⟨c, f, s, k, e⟩ := h
  exact ⟨c, f, s, k, by rw [upd_ne n]; exact e⟩
theorem PoolAt.new {H : Hp} {p q : Addr} {o : HO} (h : PoolAt H p) (n : H q = none) : PoolAt (L2.upd H q o) p := by
  obtain ⟨c, f, s, k, e⟩ := h
  exact ⟨c, f, s, k, by rw [upd_ne (ne_of_none e n)]; exact e⟩
theorem PoolAt.ne {H : Hp} {p q : Addr} (h : PoolAt H p) (n : H q = none) : q ≠ p := by
  obtain ⟨c, f, s, k, e⟩ := h
  exact fun z => by rw [z, e] at n; cases n
theorem PoolAt.same {H H' : Hp} {p : Addr} (h : PoolAt H p) (s : L2.Same H H') : PoolAt H' p := by
  obtain ⟨c, f, sd, k, e⟩ := h
  exact ⟨c, f, sd, k, s _ _ e⟩
theorem PoolAt.ned {H : Hp} {p d : Addr} {kvs : List (Key × V)} (h : PoolAt H p) (n : H d = some (.dK kvs)) : d ≠ p := by
  obtain ⟨c, f, s, k, e⟩ := h
  exact fun z => by rw [z, e] at n; cases n
def Side (e : Int) (l : List (Str × Int)) : Prop := (∀ p ∈ l, e ≤ p.2) ∨ (∀ p ∈ l, p.2 ≤ e)
/-! ### names -/
def lowC (d : Nat) : Prop := 97 ≤ d ∧ d ≤ 122
def sgnC (d : Nat) : Prop := (97 ≤ d ∧ d ≤ 122) ∨ (48 ≤ d ∧ d ≤ 57)
instance (d : Nat) : Decidable (lowC d) := inferInstanceAs (Decidable (_ ∧ _))
instance (d : Nat) : Decidable (sgnC d) := inferInstanceAs (Decidable (_ ∨ _))
/-- a name's signs -/
def NameL (l : List Nat) : Prop := ∃ d r, l = d :: r ∧ lowC d ∧ r.length ≤ 7 ∧ ∀ e ∈ r, sgnC e
def NameS (z : Str) : Prop := NameL z.cps.toList
theorem str_len (z : Str) : z.length = z.cps.toList.length := by show z.cps.size = _; simp
theorem tl_app (x y : Str) : (x ++ y).cps.toList = x.cps.toList ++ y.cps.toList := TL.tl_append x y
theorem NameS.len {z : Str} (h : NameS z) : z.length ≤ 8 := by
  obtain ⟨d, r, e, _, hl, _⟩ := h
  rw [str_len, e]
  simp
  omega
theorem letters_at : ∀ j < 26, ("abcdefghijklmnopqrstuvwxyz" : Str).cps.toList[j]? = some (97 + j) := by decide +kernel
theorem signs_at : ∀ j < 36, ∃ d, (("abcdefghijklmnopqrstuvwxyz" : Str) ++ ("0123456789" : Str)).cps.toList[j]? = some d ∧ sgnC d := by
  have h : ∀ j < 36, ((("abcdefghijklmnopqrstuvwxyz" : Str) ++ ("0123456789" : Str)).cps.toList[j]?).any (fun d => decide (sgnC d)) = true := by decide +kernel
  intro j hj
  have h1 := h j hj
  cases e : (("abcdefghijklmnopqrstuvwxyz" : Str) ++ ("0123456789" : Str)).cps.toList[j]? with
  | none => rw [e] at h1; cases h1
  | some d => rw [e] at h1; exact ⟨d, rfl, of_decide_eq_true h1⟩
/-! ### several names, all different -/
def nmS (t : Nat) : Str := ("n" : Str) ++ Str.ofString (toString ((t : Nat) : Int))
theorem nmS_tl (t : Nat) : (nmS t).cps.toList = 110 :: TL.numL t := by
  unfold nmS
  rw [tl_app]
  have e : ("n" : Str).cps.toList = [110] := by decide +kernel
  rw [e]
  show 110 :: _ = _
  exact congrArg (List.cons 110) (TL.tl_num t)
theorem nmS_inj {a b : Nat} (h : nmS a = nmS b) : a = b := by
  have e := congrArg (fun z : Str => z.cps.toList) h
  simp only [nmS_tl, List.cons.injEq, true_and] at e
  exact TL.numL_inj e
theorem nmS_name {t : Nat} (h : t < 1000000) : NameS (nmS t) := by
  refine ⟨110, TL.numL t, nmS_tl t, ⟨by omega, by omega⟩, ?_, fun e he => ?_⟩
  · exact Nat.le_trans (TL.numL_len (k := 6) (by decide) (by simpa using h)) (by decide)
  · have := TL.numL_digits t e he
    exact .inr ⟨this.1, this.2⟩
abbrev strsV (ws : List Str) : List V := ws.map V.str
/-! ### integers and names -/
def isIntK : Kn → Bool
  | .int => true
  | _ => false
def nameL : List Nat → Bool
  | [] => false
  | d :: r => decide (r.length ≤ 7) && (decide (lowC d) && r.all fun e => decide (sgnC e))
def nameV : V → Bool
  | .str z => nameL z.cps.toList
  | _ => false
theorem nameL_iff {l : List Nat} : nameL l = true ↔ NameL l := by
  cases l with
  | nil =>
    refine ⟨fun h => (by cases h), fun h => ?_⟩
    obtain ⟨d, r, e, _⟩ := h
    cases e
  | cons d r =>
    show (decide (r.length ≤ 7) && (decide (lowC d) && r.all fun e => decide (sgnC e))) = true ↔ _
    rw [Bool.and_eq_true, Bool.and_eq_true, decide_eq_true_iff, decide_eq_true_iff, List.all_eq_true]
    refine ⟨fun ⟨h1, h2, h3⟩ => ⟨d, r, rfl, h2, h1, fun e he => of_decide_eq_true (h3 e he)⟩, fun h => ?_⟩
    obtain ⟨d', r', e, h2, h1, h3⟩ := h
    injection e with e1 e2
    subst e1 e2
    exact ⟨h1, h2, fun e he => decide_eq_true (h3 e he)⟩
theorem NameS.v {z : Str} (h : NameS z) : nameV (.str z) = true := nameL_iff.mpr h
/-- a value of a known kind; a text not too long -/
def Fine (K : PySem.W.Frag) (H : Hp) (x : V) (k : Kn) : Prop := Kd K H x k ∧ ∀ z, x = .str z → z.length ≤ 10000
def spIsInt (K : PySem.W.Frag) : Sp := fun vs H Q _ => ∃ x k, vs = [x] ∧ Kd K H x k ∧ Q (.bl (isIntK k)) H
def spIsName (K : PySem.W.Frag) : Sp := fun vs H Q _ => ∃ x k, vs = [x] ∧ Fine K H x k ∧ Q (.bl (nameV x)) H
section
variable {P : Program} {w : World} {K : PySem.W.Frag} {mg : Str → Option Value} {base : Heap}
theorem ok_is_integer {f : Addr} {fd : FuncData} (F : Fun K "is_integer" "is_integer" s_is_integer f fd) (Z_int : mg "int" = none) (Z_bool : mg "bool" = none) (Z_isinstance : mg "isinstance" = none) : FnOk P w K mg base CX0 1 f fd ["thing"] (spIsInt K) := by
  refine F.ok sc_is_integer (fun vs H Q E h => ?_) (fun cdv A outer s H vs Q E hr h => ?_)
  · obtain ⟨_, _, rfl, _⟩ := h
    rfl
  · obtain ⟨x, k, rfl, hk, q⟩ := h
    refine ⟨_, (pss_one (ps_ret (pe_and (pe_callB call_isi (by rfl) Z_isinstance (by decide +kernel) (pa_cons (pv 0) (pa_cons (pe_bltn (v := .ty "int") (by rfl) Z_int (by decide +kernel) rfl) pa_nil))) (pe_one (pe_not (pe_callB call_isi (by rfl) Z_isinstance (by decide +kernel) (pa_cons (pv 0) (pa_cons (pe_bltn (v := .ty "bool") (by rfl) Z_bool (by decide +kernel) rfl) pa_nil)))))))), ?_⟩
    walk_at "go"
    refine x_isiInt hk ?_
    walk_at "go"
    cases k
    case int =>
      refine x_T ?_
      walk_at "go"
      refine x_isiBool hk ?_
      walk_at "go"
      exact q
    case bl =>
      refine x_T ?_
      walk_at "go"
      refine x_isiBool hk ?_
      walk_at "go"
      exact q
    all_goals
      refine x_F ?_
      exact q
theorem ok_is_name {f : Addr} {fd : FuncData} (F : Fun K "is_name" "is_name" s_is_name f fd) (Z_str : mg "str" = none) (Z_len : mg "len" = none) (Z_isinstance : mg "isinstance" = none) : FnOk P w K mg base CX0 1 f fd ["thing"] (spIsName K) := by
  refine F.ok sc_is_name (fun vs H Q E h => ?_) (fun cdv A outer s H vs Q E hr h => ?_)
  · obtain ⟨_, _, rfl, _⟩ := h
    rfl
  · obtain ⟨x, k, rfl, ⟨hk, hz⟩, q⟩ := h
    refine ⟨_, (pss_cons (ps_if (PW.pt (pw_or (pt_not (pt_val (pe_callB call_isi (by rfl) Z_isinstance (by decide +kernel) (pa_cons (pv 0) (pa_cons (pe_bltn (v := .ty "str") (by rfl) Z_str (by decide +kernel) rfl) pa_nil))))) (pw_or1 (pt_not (pt_chain op_le op_le pe_int (pe_callB call_lenA (by rfl) Z_len (by decide +kernel) (pa_cons (pv 0) pa_nil)) pe_int)))))
      (pss_one (ps_ret pe_bl))
      pss_nil)
      (pss_cons (ps_if (pt_not (pt_chain op_leS op_leS pe_str (pe_ix ix_str (pv 0) pe_int (fun _ _ => rfl)) pe_str))
      (pss_one (ps_ret pe_bl))
      pss_nil)
      (pss_cons (ps_for PassesOwn.never rfl (pi_str (pv 0)) (pg_name (i := 1) sc_is_name.nd rfl (Or.inl rfl))
      (pss_one (ps_if (PW.pt (pw_and (pt_not (pt_chain op_leS op_leS pe_str (pv 1) pe_str)) (pw_and1 (pt_not (pt_chain op_leS op_leS pe_str (pv 1) pe_str)))))
      (pss_one (ps_ret pe_bl))
      pss_nil)))
      (pss_one (ps_ret pe_bl))))), ?_⟩
    walk_at "go"
    refine x_isiStr hk ?_
    walk_at "go"
    have other : ∀ {x}, (∀ z, x ≠ V.str z) → nameV x = false := fun {x} h => by
      cases x with
      | str z => exact absurd rfl (h z)
      | _ => rfl
    cases hk with
    | str z =>
      have hzl := hz z rfl
      have hzs : z.length ≤ sizeLine := sz_le hzl
      refine x_nT ?_
      walk_at "go"
      refine x_lenS hzs ?_
      walk_at "go"
      have el := str_len z
      refine x_dec (fun h1 => ?_) (fun h1 => ?_)
      · walk_at "go"
        refine x_ndec (fun h8 => ?_) (fun h8 => ?_)
        · walk_at "go"
          have e : nameV (.str z) = false := by
            show nameL z.cps.toList = false
            cases ez : z.cps.toList with
            | nil => rfl
            | cons d r =>
              rw [el, ez] at h8
              simp at h8
              show (decide (r.length ≤ 7) && _) = false
              rw [decide_eq_false (by omega)]
              rfl
          rw [e] at q
          exact q
        · walk_at "go"
          cases ez : z.cps.toList with
          | nil =>
            rw [el, ez] at h1
            simp at h1
          | cons d r =>
            have hl7 : r.length ≤ 7 := by
              rw [el, ez] at h8
              simp at h8
              omega
            refine x_ixs 0 hzs rfl (by rw [ez]; rfl) ?_
            refine x_leL 97 chr_a ?_
            walk_at "go"
            have neg : ¬ lowC d → Q (.bl false) H := fun hn => by
              have e : nameV (.str z) = false := by
                show nameL z.cps.toList = false
                rw [ez]
                show (decide (r.length ≤ 7) && (decide (lowC d) && _)) = false
                rw [decide_eq_false hn]
                simp
              rw [e] at q
              exact q
            refine x_dec (fun ha => ?_) (fun ha => ?_)
            · walk_at "go"
              refine x_leR 122 chr_z ?_
              walk_at "go"
              refine x_ndec (fun hb => ?_) (fun hb => ?_)
              · walk_at "go"
                exact neg fun hl => hb hl.2
              · walk_at "go"
                have hlow : lowC d := ⟨ha, hb⟩
                refine lpS (fun i σ H' => ∃ v, σ = [some (.str z), v] ∧ H' = H ∧ ∀ j < i, ∃ e, (d :: r)[j]? = some e ∧ sgnC e) ?_ ?_ ?_
                · exact ⟨none, rfl, rfl, fun j hj => absurd hj (by omega)⟩
                · rintro i e σ H' hi ⟨v, rfl, rfl, hall⟩
                  have hi2 : (d :: r)[i]? = some e := by rw [← ez, Array.getElem?_toList]; exact hi
                  have bad : ¬ sgnC e → Q (.bl false) H' := fun hn => by
                    have e0 : nameV (.str z) = false := by
                      show nameL z.cps.toList = false
                      rw [ez]
                      cases i with
                      | zero =>
                        have : d = e := Option.some.inj hi2
                        subst this
                        exact absurd (.inl hlow) hn
                      | succ i =>
                        have hm : e ∈ r := List.mem_of_getElem? (i := i) hi2
                        have : (r.all fun e => decide (sgnC e)) = false := by
                          cases ea : (r.all fun e => decide (sgnC e)) with
                          | false => rfl
                          | true => exact absurd (of_decide_eq_true (List.all_eq_true.mp ea e hm)) hn
                        show (decide (r.length ≤ 7) && (decide (lowC d) && (r.all fun e => decide (sgnC e)))) = false
                        rw [this]
                        simp
                    rw [e0] at q
                    exact q
                  have good : sgnC e → ∀ j < i + 1, ∃ e, (d :: r)[j]? = some e ∧ sgnC e := fun hg j hj => by
                    by_cases ej : j = i
                    · subst ej; exact ⟨e, hi2, hg⟩
                    · exact hall j (by omega)
                  walk_at "go"
                  refine x_leL 97 chr_a ?_
                  walk_at "go"
                  have second : ¬ (97 ≤ e ∧ e ≤ 122) → (48 ≤ e ∧ e ≤ 57 → sgnC e) := fun _ h => .inr h
                  refine x_dec (fun ha => ?_) (fun ha => ?_)
                  · walk_at "go"
                    refine x_leR 122 chr_z ?_
                    walk_at "go"
                    refine x_ndec (fun hb => ?_) (fun hb => ?_)
                    · walk_at "go"
                      refine x_leL 48 chr_0 ?_
                      walk_at "go"
                      refine x_dec (fun hc => ?_) (fun hc => ?_)
                      · walk_at "go"
                        refine x_leR 57 chr_9 ?_
                        walk_at "go"
                        refine x_ndec (fun hd => ?_) (fun hd => ?_)
                        · walk_at "go"
                          exact bad fun hs => by rcases hs with hs | hs <;> omega
                        · walk_at "go"
                          exact ⟨_, rfl, rfl, good (.inr ⟨hc, hd⟩)⟩
                      · walk_at "go"
                        exact bad fun hs => by rcases hs with hs | hs <;> omega
                    · walk_at "go"
                      exact ⟨_, rfl, rfl, good (.inl ⟨ha, hb⟩)⟩
                  · walk_at "go"
                    refine x_leL 48 chr_0 ?_
                    walk_at "go"
                    refine x_dec (fun hc => ?_) (fun hc => ?_)
                    · walk_at "go"
                      refine x_leR 57 chr_9 ?_
                      walk_at "go"
                      refine x_ndec (fun hd => ?_) (fun hd => ?_)
                      · walk_at "go"
                        exact bad fun hs => by rcases hs with hs | hs <;> omega
                      · walk_at "go"
                        exact ⟨_, rfl, rfl, good (.inr ⟨hc, hd⟩)⟩
                    · walk_at "go"
                      exact bad fun hs => by rcases hs with hs | hs <;> omega
                · rintro σ H' ⟨v, rfl, rfl, hall⟩
                  walk_at "go"
                  have e : nameV (.str z) = true := by
                    refine nameL_iff.mpr ⟨d, r, ez, hlow, hl7, fun e he => ?_⟩
                    obtain ⟨j, hj, hje⟩ := List.getElem_of_mem he
                    obtain ⟨e', h1, h2⟩ := hall (j + 1) (by
                      have : z.cps.size = (d :: r).length := by rw [← ez]; simp
                      rw [this]
                      simp
                      exact hj)
                    have h3 : (d :: r)[j + 1]? = some e := by
                      show r[j]? = some e
                      rw [List.getElem?_eq_getElem hj, hje]
                    rw [h3] at h1
                    cases h1
                    exact h2
                  rw [e] at q
                  exact q
            · walk_at "go"
              exact neg fun hl => ha hl.1
      · walk_at "go"
        have e : nameV (.str z) = false := by
          show nameL z.cps.toList = false
          cases ez : z.cps.toList with
          | nil => rfl
          | cons d r =>
            rw [el, ez] at h1
            simp at h1
            omega
        rw [e] at q
        exact q
    | non => rw [other (fun z => by simp)] at q; refine x_nF ?_; walk_at "go"; exact q
    | bl b => rw [other (fun z => by simp)] at q; refine x_nF ?_; walk_at "go"; exact q
    | int i => rw [other (fun z => by simp)] at q; refine x_nF ?_; walk_at "go"; exact q
    | lst h => rw [other (fun z => by simp)] at q; refine x_nF ?_; walk_at "go"; exact q
    | tup h => rw [other (fun z => by simp)] at q; refine x_nF ?_; walk_at "go"; exact q
    | dict h => rw [other (fun z => by simp)] at q; refine x_nF ?_; walk_at "go"; exact q
end
/-! ### works: the judges, of what is right -/
/-- a stand -/
inductive Sd where
  | fin
  | chance (l : List (Str × (Str × Int)))
  | hand (k : Int) (l : List (Str × Str))
/-- a dict of references, each of which stands for something -/
structure DictOf {α : Type} (R : Hp → Addr → α → Prop) (H : Hp) (d : Addr) (l : List (Str × α)) : Prop where
  ex : ∃ m : List (Str × Addr), H d = some (.dK (strK V.ref m)) ∧ m.map (·.1) = l.map (·.1) ∧ ∀ z a, (z, a) ∈ m → ∃ x, l.lookup z = some x ∧ R H a x
def PairAt (H : Hp) (a : Addr) (x : Str × Int) : Prop := H a = some (.tup [.str x.1, .int x.2])
def SdAt (H : Hp) (a : Addr) : Sd → Prop
  | .fin => H a = some (.tup [.str "end"])
  | .chance l => ∃ d, H a = some (.tup [.str "chance", .ref d]) ∧ DictOf PairAt H d l
  | .hand k l => ∃ d, H a = some (.tup [.str "hand", .int k, .ref d]) ∧ H d = some (.dK (strK V.str l))
theorem DictOf.imp {α : Type} {R : Hp → Addr → α → Prop} {H H' : Hp} {d : Addr} {l : List (Str × α)} (h : DictOf R H d l) (s : L2.Same H H') (hR : ∀ a x, R H a x → R H' a x) : DictOf R H' d l := by
  obtain ⟨m, h1, h2, h3⟩ := h.ex
  exact ⟨m, s _ _ h1, h2, fun z a hm => by
    obtain ⟨x, e, r⟩ := h3 z a hm
    exact ⟨x, e, hR _ _ r⟩⟩
theorem SdAt.same {H H' : Hp} {a : Addr} {x : Sd} (h : SdAt H a x) (s : L2.Same H H') : SdAt H' a x := by
  cases x with
  | fin => exact s _ _ h
  | chance l =>
    obtain ⟨d, h1, h2⟩ := h
    exact ⟨d, s _ _ h1, h2.imp s fun _ _ h => s _ _ h⟩
  | hand k l =>
    obtain ⟨d, h1, h2⟩ := h
    exact ⟨d, s _ _ h1, s _ _ h2⟩
theorem DictOf.same {H H' : Hp} {d : Addr} {l : List (Str × Sd)} (h : DictOf SdAt H d l) (s : L2.Same H H') : DictOf SdAt H' d l := h.imp s fun _ _ h => h.same s
/-- a right stand, of names ns and less than h hands -/
def GoodSd (h : Int) (ns : List Str) : Sd → Prop
  | .fin => True
  | .chance l => (l.map (·.1)).Nodup ∧ 1 ≤ l.length ∧ l.length ≤ 4 ∧ ∀ q ∈ l, NameS q.1 ∧ q.2.1 ∈ ns ∧ 1 ≤ q.2.2 ∧ q.2.2 ≤ 9
  | .hand k l => 0 ≤ k ∧ k < h ∧ (l.map (·.1)).Nodup ∧ 1 ≤ l.length ∧ l.length ≤ 4 ∧ ∀ q ∈ l, NameS q.1 ∧ q.2 ∈ ns
theorem x_name {K : PySem.W.Frag} {H : Hp} {Q : VK} {E : XK} {z : Str} (g : NameS z) (q : Q (.bl true) H) : spIsName K [.str z] H Q E :=
  ⟨.str z, .str, rfl, ⟨.str z, fun z' e => by cases e; exact Nat.le_trans g.len (by decide)⟩, by rw [g.v]; exact q⟩
def spIsPair (K : PySem.W.Frag) : Sp := fun vs H Q _ => ∃ a xs, vs = [.ref a] ∧ SqT K H a xs ∧ Q (.bl (decide (xs.length = 2))) H
def spIsMoves : Sp := fun vs H Q _ => ∃ (d n : Addr) (l : List (Str × Str)) (m : List (Str × Addr)), vs = [.ref d, .ref n] ∧ H d = some (.dK (strK V.str l)) ∧ n ≠ d ∧ Rd H n (.dK (strK V.ref m)) ∧ 1 ≤ l.length ∧ l.length ≤ 4 ∧
  (∀ q ∈ l, NameS q.1 ∧ NameS q.2 ∧ q.2 ∈ m.map (·.1)) ∧ ∀ H', L2.Same H H' → Q (.bl true) H'
def spIsDraws : Sp := fun vs H Q _ => ∃ (d n : Addr) (l : List (Str × (Str × Int))) (m : List (Str × Addr)), vs = [.ref d, .ref n] ∧ DictOf PairAt H d l ∧ n ≠ d ∧ Rd H n (.dK (strK V.ref m)) ∧ 1 ≤ l.length ∧ l.length ≤ 4 ∧
  (∀ z q, l.lookup z = some q → NameS z ∧ NameS q.1 ∧ q.1 ∈ m.map (·.1) ∧ 1 ≤ q.2 ∧ q.2 ≤ 9) ∧ ∀ H', L2.Same H H' → Q (.bl true) H'
theorem keyIn {m : List (Str × Addr)} {z : Str} (h : z ∈ m.map (·.1)) : (m.lookup z).isSome = true := by
  obtain ⟨x, hx⟩ := lookup_isSome h
  rw [hx]
  rfl
section
variable {P : Program} {w : World} {K : PySem.W.Frag} {mg : Str → Option Value} {base : Heap}
theorem ok_is_pair {f : Addr} {fd : FuncData} (F : Fun K "is_pair" "is_pair" s_is_pair f fd) (Z_tuple : mg "tuple" = none) (Z_len : mg "len" = none) (Z_isinstance : mg "isinstance" = none) : FnOk P w K mg base CX0 1 f fd ["thing"] (spIsPair K) := by
  refine F.ok sc_is_pair (fun vs H Q E h => ?_) (fun cdv A outer s H vs Q E hr h => ?_)
  · obtain ⟨_, _, rfl, _⟩ := h
    rfl
  · obtain ⟨a, xs, rfl, ha, q⟩ := h
    refine ⟨_, (pss_one (ps_ret (pe_and (pe_callB call_isi (by rfl) Z_isinstance (by decide +kernel) (pa_cons (pv 0) (pa_cons (pe_bltn (v := .ty "tuple") (by rfl) Z_tuple (by decide +kernel) rfl) pa_nil))) (pe_one (pe_cmpR op_eq (pe_callB call_lenA (by rfl) Z_len (by decide +kernel) (pa_cons (pv 0) pa_nil)) pe_int (nomark _)))))), ?_⟩
    walk_at "go"
    refine x_isiTup (.tup ha) ?_
    walk_at "go"
    refine x_T ?_
    walk_at "go"
    refine x_lenT ha ?_
    walk_at "go"
    have e : decide ((xs.length : Int) = 2) = decide (xs.length = 2) := decide_eq_decide.mpr (by omega)
    rw [e]
    exact q
theorem ok_is_moves {f : Addr} {fd : FuncData} (F : Fun K "is_moves" "is_moves" s_is_moves f fd) (Z_dict : mg "dict" = none) (Z_len : mg "len" = none) (Z_isinstance : mg "isinstance" = none)
    (C_is_name : Cal P w K mg base 1 "is_name" ["thing"] (spIsName K)) : FnOk P w K mg base CX0 2 f fd ["thing", "names"] spIsMoves := by
  refine F.ok sc_is_moves (fun vs H Q E h => ?_) (fun cdv A outer s H vs Q E hr h => ?_)
  · obtain ⟨_, _, _, _, rfl, _⟩ := h
    rfl
  · obtain ⟨d, n, l, m, rfl, hd, nd, hn, l1, l4, hg, q⟩ := h
    have hu := hu_of hr
    refine ⟨_, (pss_cons (ps_if (PW.pt (pw_or (pt_not (pt_val (pe_callB call_isi (by rfl) Z_isinstance (by decide +kernel) (pa_cons (pv 0) (pa_cons (pe_bltn (v := .ty "dict") (by rfl) Z_dict (by decide +kernel) rfl) pa_nil))))) (pw_or1 (pt_not (pt_chain op_le op_le pe_int (pe_callB call_lenDA (by rfl) Z_len (by decide +kernel) (pa_cons (pv 0) pa_nil)) pe_int)))))
      (pss_one (ps_ret pe_bl))
      pss_nil)
      (pss_cons (ps_lock (ps_for PassesOwn.never rfl (pi_items (pv 0)) (pg_tup rfl (pgs_cons (pg_name (i := 2) sc_is_moves.nd rfl (Or.inl rfl)) (pgs_cons (pg_name (i := 3) sc_is_moves.nd rfl (Or.inl rfl)) pgs_nil)))
      (pss_one (ps_if (PW.pt (pw_or (pt_not (pt_val (pe_cal C_is_name (hr.mono (by decide)) (by rfl) (pa_cons (pv 2) pa_nil)))) (pw_or (pt_not (pt_val (pe_cal C_is_name (hr.mono (by decide)) (by rfl) (pa_cons (pv 3) pa_nil)))) (pw_or1 (pt_cmp (pc_dnotin hu (pv 3) (pv 1)))))))
      (pss_one (ps_ret pe_bl))
      pss_nil))))
      (pss_one (ps_ret pe_bl)))), ?_⟩
    have hl : (strK V.str l).length = l.length := List.length_map ..
    walk_at "go"
    refine x_isiDict (.dict (.inl hd)) ?_
    walk_at "go"
    refine x_nT ?_
    walk_at "go"
    refine x_lenD (.inl hd) ?_
    rw [hl]
    walk_at "go"
    refine x_yes (by omega) ?_
    walk_at "go"
    refine x_nyes (by omega) ?_
    walk_at "go"
    refine x_lock hd trivial fun od => ?_
    walk_at "go"
    refine lpI (kvs := strK V.str l) (fun i σ H' => ∃ v1 v2, σ = [some (.ref d), some (.ref n), v1, v2] ∧ L2.Same (upd H d (.frz od (.dK (strK V.str l)))) H') upd_same ?_ ?_ ?_ ?_
    · exact ⟨none, none, rfl, L2.Same.refl _⟩
    · exact fun i σ H' _ ⟨_, _, _, s1⟩ => s1 d _ upd_same
    · rintro i k0 v0 σ H' T hi ⟨v1, v2, rfl, s1⟩ hT
      obtain ⟨z, x, rfl, rfl, hlx⟩ := strK_at hi
      obtain ⟨g1, g2, g3⟩ := hg _ (List.mem_of_getElem? hlx)
      have s2 : L2.Same (upd H d (.frz od (.dK (strK V.str l)))) (upd H' T (.tup [kV (Sum.inr z), .str x])) := same_upd s1 (s1.free hT)
      refine x_g2 (SqT.of upd_same) ?_
      walk_at "go"
      refine x_name g1 ?_
      walk_at "go"
      refine x_name g2 ?_
      walk_at "go"
      refine x_ninD (l := m) (same_rd s2 (rd_held nd hn)) ?_
      rw [keyIn g3]
      refine ⟨false, rfl, x_F ?_⟩
      walk_at "go"
      exact ⟨_, _, rfl, s2⟩
    · rintro σ H' ⟨v1, v2, rfl, s1⟩
      refine ⟨s1 d _ upd_same, ?_⟩
      walk_at "go"
      exact q _ (same_back hd s1)
theorem ok_is_draws {f : Addr} {fd : FuncData} (F : Fun K "is_draws" "is_draws" s_is_draws f fd) (Z_dict : mg "dict" = none) (Z_len : mg "len" = none) (Z_isinstance : mg "isinstance" = none)
    (C_is_name : Cal P w K mg base 1 "is_name" ["thing"] (spIsName K)) (C_is_pair : Cal P w K mg base 1 "is_pair" ["thing"] (spIsPair K)) (C_is_integer : Cal P w K mg base 1 "is_integer" ["thing"] (spIsInt K)) : FnOk P w K mg base CX0 2 f fd ["thing", "names"] spIsDraws := by
  refine F.ok sc_is_draws (fun vs H Q E h => ?_) (fun cdv A outer s H vs Q E hr h => ?_)
  · obtain ⟨_, _, _, _, rfl, _⟩ := h
    rfl
  · obtain ⟨d, n, l, m, rfl, hD, nd, hn, l1, l4, hg, q⟩ := h
    obtain ⟨p, hd, hk, hp⟩ := hD.ex
    have hu := hu_of hr
    refine ⟨_, (pss_cons (ps_if (PW.pt (pw_or (pt_not (pt_val (pe_callB call_isi (by rfl) Z_isinstance (by decide +kernel) (pa_cons (pv 0) (pa_cons (pe_bltn (v := .ty "dict") (by rfl) Z_dict (by decide +kernel) rfl) pa_nil))))) (pw_or1 (pt_not (pt_chain op_le op_le pe_int (pe_callB call_lenDA (by rfl) Z_len (by decide +kernel) (pa_cons (pv 0) pa_nil)) pe_int)))))
      (pss_one (ps_ret pe_bl))
      pss_nil)
      (pss_cons (ps_lock (ps_for PassesOwn.never rfl (pi_items (pv 0)) (pg_tup rfl (pgs_cons (pg_name (i := 2) sc_is_draws.nd rfl (Or.inl rfl)) (pgs_cons (pg_name (i := 3) sc_is_draws.nd rfl (Or.inl rfl)) pgs_nil)))
      (pss_cons (ps_if (PW.pt (pw_or (pt_not (pt_val (pe_cal C_is_name (hr.mono (by decide)) (by rfl) (pa_cons (pv 2) pa_nil)))) (pw_or1 (pt_not (pt_val (pe_cal C_is_pair (hr.mono (by decide)) (by rfl) (pa_cons (pv 3) pa_nil)))))))
      (pss_one (ps_ret pe_bl))
      pss_nil)
      (pss_cons (ps_if (PW.pt (pw_or (pt_not (pt_val (pe_cal C_is_name (hr.mono (by decide)) (by rfl) (pa_cons (pe_ix ix_tup (pv 3) pe_int (fun _ _ => rfl)) pa_nil)))) (pw_or1 (pt_cmp (pc_dnotin hu (pe_ix ix_tup (pv 3) pe_int (fun _ _ => rfl)) (pv 1))))))
      (pss_one (ps_ret pe_bl))
      pss_nil)
      (pss_one (ps_if (PW.pt (pw_or (pt_not (pt_val (pe_cal C_is_integer (hr.mono (by decide)) (by rfl) (pa_cons (pe_ix ix_tup (pv 3) pe_int (fun _ _ => rfl)) pa_nil)))) (pw_or1 (pt_not (pt_chain op_le op_le pe_int (pe_ix ix_tup (pv 3) pe_int (fun _ _ => rfl)) pe_int)))))
      (pss_one (ps_ret pe_bl))
      pss_nil))))))
      (pss_one (ps_ret pe_bl)))), ?_⟩
    have hl : (strK V.ref p).length = l.length := by
      rw [List.length_map]
      have := congrArg List.length hk
      rwa [List.length_map, List.length_map] at this
    walk_at "go"
    refine x_isiDict (.dict (.inl hd)) ?_
    walk_at "go"
    refine x_nT ?_
    walk_at "go"
    refine x_lenD (.inl hd) ?_
    rw [hl]
    walk_at "go"
    refine x_yes (by omega) ?_
    walk_at "go"
    refine x_nyes (by omega) ?_
    walk_at "go"
    refine x_lock hd trivial fun od => ?_
    walk_at "go"
    refine lpI (kvs := strK V.ref p) (fun i σ H' => ∃ v1 v2, σ = [some (.ref d), some (.ref n), v1, v2] ∧ L2.Same (upd H d (.frz od (.dK (strK V.ref p)))) H') upd_same ?_ ?_ ?_ ?_
    · exact ⟨none, none, rfl, L2.Same.refl _⟩
    · exact fun i σ H' _ ⟨_, _, _, s1⟩ => s1 d _ upd_same
    · rintro i k0 v0 σ H' T hi ⟨v1, v2, rfl, s1⟩ hT
      obtain ⟨z, x, rfl, rfl, hlx⟩ := strK_at hi
      obtain ⟨y, hy, hx⟩ := hp _ _ (List.mem_of_getElem? hlx)
      obtain ⟨g1, g2, g3, g4, g5⟩ := hg _ _ hy
      have s2 : L2.Same (upd H d (.frz od (.dK (strK V.ref p)))) (upd H' T (.tup [kV (Sum.inr z), .ref x])) := same_upd s1 (s1.free hT)
      have hxd : x ≠ d := fun e => by subst e; rw [show H x = _ from hx] at hd; cases hd
      have hx2 : (upd H' T (.tup [kV (Sum.inr z), .ref x])) x = some (.tup [.str y.1, .int y.2]) := s2 _ _ (by rw [upd_ne hxd]; exact hx)
      refine x_g2 (SqT.of upd_same) ?_
      walk_at "go"
      refine x_name g1 ?_
      walk_at "go"
      refine ⟨_, _, rfl, SqT.of hx2, ?_⟩
      walk_at "go"
      refine x_nyes rfl ?_
      walk_at "go"
      refine x_ixt 0 (SqT.of hx2) rfl rfl ?_
      walk_at "go"
      refine x_name g2 ?_
      walk_at "go"
      refine x_ixt 0 (SqT.of hx2) rfl rfl ?_
      walk_at "go"
      refine x_ninD (l := m) (same_rd s2 (rd_held nd hn)) ?_
      rw [keyIn g3]
      refine ⟨false, rfl, x_F ?_⟩
      walk_at "go"
      refine x_ixt 1 (SqT.of hx2) rfl rfl ?_
      walk_at "go"
      refine ⟨_, _, rfl, .int _, ?_⟩
      walk_at "go"
      refine x_nT ?_
      walk_at "go"
      refine x_ixt 1 (SqT.of hx2) rfl rfl ?_
      walk_at "go"
      refine x_yes (by omega) ?_
      walk_at "go"
      refine x_nyes (by omega) ?_
      walk_at "go"
      exact ⟨_, _, rfl, s2⟩
    · rintro σ H' ⟨v1, v2, rfl, s1⟩
      refine ⟨s1 d _ upd_same, ?_⟩
      walk_at "go"
      exact q _ (same_back hd s1)
/-- a stand, judged among the stands at n -/
def spIsStand (K : PySem.W.Frag) : Sp := fun vs H Q _ => ∃ (a n : Addr) (h : Int) (x : Sd) (m : List (Str × Addr)), vs = [.ref a, .int h, .ref n] ∧ SdAt H a x ∧ (∀ o, H n ≠ some (.dK o)) ∧ Rd H n (.dK (strK V.ref m)) ∧ GoodSd h (m.map (·.1)) x ∧ (∀ z ∈ m.map (·.1), NameS z) ∧
  ∀ H', L2.Same H H' → Q (.bl true) H'
theorem ok_is_stand {f : Addr} {fd : FuncData} (F : Fun K "is_stand" "is_stand" s_is_stand f fd) (Z_tuple : mg "tuple" = none) (Z_str : mg "str" = none) (Z_len : mg "len" = none) (Z_isinstance : mg "isinstance" = none)
    (C_is_moves : Cal P w K mg base 2 "is_moves" ["thing", "names"] spIsMoves) (C_is_draws : Cal P w K mg base 2 "is_draws" ["thing", "names"] spIsDraws) (C_is_integer : Cal P w K mg base 1 "is_integer" ["thing"] (spIsInt K)) : FnOk P w K mg base CX0 3 f fd ["thing", "hands", "names"] (spIsStand K) := by
  refine F.ok sc_is_stand (fun vs H Q E h => ?_) (fun cdv A outer s H vs Q E hr h => ?_)
  · obtain ⟨_, _, _, _, _, rfl, _⟩ := h
    rfl
  · obtain ⟨a, n, h, x, m, rfl, hx, hnf, hn, hg, hnm, q⟩ := h
    refine ⟨_, (pss_cons (ps_if (PW.pt (pw_or (pt_not (pt_val (pe_callB call_isi (by rfl) Z_isinstance (by decide +kernel) (pa_cons (pv 0) (pa_cons (pe_bltn (v := .ty "tuple") (by rfl) Z_tuple (by decide +kernel) rfl) pa_nil))))) (pw_or (pt_cmpR op_eq (pe_callB call_lenA (by rfl) Z_len (by decide +kernel) (pa_cons (pv 0) pa_nil)) pe_int (nomark _)) (pw_or1 (pt_not (pt_val (pe_callB call_isi (by rfl) Z_isinstance (by decide +kernel) (pa_cons (pe_ix ix_tup (pv 0) pe_int (fun _ _ => rfl)) (pa_cons (pe_bltn (v := .ty "str") (by rfl) Z_str (by decide +kernel) rfl) pa_nil)))))))))
      (pss_one (ps_ret pe_bl))
      pss_nil)
      (pss_cons (ps_if (pt_cmpR op_eq (pe_ix ix_tup (pv 0) pe_int (fun _ _ => rfl)) pe_str (nomark _))
      (pss_one (ps_ret (pe_cmpR op_eq (pe_callB call_lenA (by rfl) Z_len (by decide +kernel) (pa_cons (pv 0) pa_nil)) pe_int (nomark _))))
      pss_nil)
      (pss_cons (ps_if (pt_cmpR op_eq (pe_ix ix_tup (pv 0) pe_int (fun _ _ => rfl)) pe_str (nomark _))
      (pss_one (ps_ret (pe_and (pe_cmpR op_eq (pe_callB call_lenA (by rfl) Z_len (by decide +kernel) (pa_cons (pv 0) pa_nil)) pe_int (nomark _)) (pe_one (pe_cal C_is_draws (hr.mono (by decide)) (by rfl) (pa_cons (pe_ix ix_tup (pv 0) pe_int (fun _ _ => rfl)) (pa_cons (pv 2) pa_nil)))))))
      pss_nil)
      (pss_cons (ps_if (PW.pt (pw_or (pt_cmpR op_ne (pe_ix ix_tup (pv 0) pe_int (fun _ _ => rfl)) pe_str (nomark _)) (pw_or1 (pt_cmpR op_ne (pe_callB call_lenA (by rfl) Z_len (by decide +kernel) (pa_cons (pv 0) pa_nil)) pe_int (nomark _)))))
      (pss_one (ps_ret pe_bl))
      pss_nil)
      (pss_cons (ps_if (PW.pt (pw_or (pt_not (pt_val (pe_cal C_is_integer (hr.mono (by decide)) (by rfl) (pa_cons (pe_ix ix_tup (pv 0) pe_int (fun _ _ => rfl)) pa_nil)))) (pw_or1 (pt_not (pt_chain op_le op_lt pe_int (pe_ix ix_tup (pv 0) pe_int (fun _ _ => rfl)) (pv 1))))))
      (pss_one (ps_ret pe_bl))
      pss_nil)
      (pss_one (ps_ret (pe_cal C_is_moves (hr.mono (by decide)) (by rfl) (pa_cons (pe_ix ix_tup (pv 0) pe_int (fun _ _ => rfl)) (pa_cons (pv 2) pa_nil)))))))))), ?_⟩
    walk_at "go"
    cases x with
    | fin =>
      have ha : H a = some (.tup [.str "end"]) := hx
      refine x_isiTup (.tup (SqT.of ha)) ?_
      walk_at "go"
      refine x_nT ?_
      walk_at "go"
      refine x_lenT (SqT.of ha) ?_
      walk_at "go"
      refine x_no (fun z => by cases z) ?_
      walk_at "go"
      refine x_ixt 0 (SqT.of ha) rfl rfl ?_
      walk_at "go"
      refine x_isiStr (.str _) ?_
      walk_at "go"
      refine x_nT ?_
      walk_at "go"
      refine x_ixt 0 (SqT.of ha) rfl rfl ?_
      walk_at "go"
      refine x_yes rfl ?_
      walk_at "go"
      refine x_lenT (SqT.of ha) ?_
      walk_at "go"
      exact q H (L2.Same.refl H)
    | chance l =>
      obtain ⟨d, ha, hD⟩ := hx
      obtain ⟨g1, g2, g3, g4⟩ := hg
      refine x_isiTup (.tup (SqT.of ha)) ?_
      walk_at "go"
      refine x_nT ?_
      walk_at "go"
      refine x_lenT (SqT.of ha) ?_
      walk_at "go"
      refine x_no (fun z => by cases z) ?_
      walk_at "go"
      refine x_ixt 0 (SqT.of ha) rfl rfl ?_
      walk_at "go"
      refine x_isiStr (.str _) ?_
      walk_at "go"
      refine x_nT ?_
      walk_at "go"
      refine x_ixt 0 (SqT.of ha) rfl rfl ?_
      walk_at "go"
      refine x_no (by decide +kernel) ?_
      walk_at "go"
      refine x_ixt 0 (SqT.of ha) rfl rfl ?_
      walk_at "go"
      refine x_yes rfl ?_
      walk_at "go"
      refine x_lenT (SqT.of ha) ?_
      walk_at "go"
      refine x_yes rfl ?_
      walk_at "go"
      refine x_ixt 1 (SqT.of ha) rfl rfl ?_
      walk_at "go"
      have hnd : n ≠ d := fun e => by
        obtain ⟨p, hd, _⟩ := hD.ex
        rw [e] at hnf
        exact hnf _ hd
      refine ⟨d, n, l, m, rfl, hD, hnd, hn, g2, g3, fun z y hz => ?_, q⟩
      have := g4 _ (lookup_mem hz)
      exact ⟨this.1, hnm _ this.2.1, this.2.1, this.2.2.1, this.2.2.2⟩
    | hand k l =>
      obtain ⟨d, ha, hd⟩ := hx
      obtain ⟨g1, g2, g3, g4, g5, g6⟩ := hg
      refine x_isiTup (.tup (SqT.of ha)) ?_
      walk_at "go"
      refine x_nT ?_
      walk_at "go"
      refine x_lenT (SqT.of ha) ?_
      walk_at "go"
      refine x_no (fun z => by cases z) ?_
      walk_at "go"
      refine x_ixt 0 (SqT.of ha) rfl rfl ?_
      walk_at "go"
      refine x_isiStr (.str _) ?_
      walk_at "go"
      refine x_nT ?_
      walk_at "go"
      refine x_ixt 0 (SqT.of ha) rfl rfl ?_
      walk_at "go"
      refine x_no (by decide +kernel) ?_
      walk_at "go"
      refine x_ixt 0 (SqT.of ha) rfl rfl ?_
      walk_at "go"
      refine x_no (by decide +kernel) ?_
      walk_at "go"
      refine x_ixt 0 (SqT.of ha) rfl rfl ?_
      walk_at "go"
      refine x_nyes rfl ?_
      walk_at "go"
      refine x_lenT (SqT.of ha) ?_
      walk_at "go"
      refine x_nyes rfl ?_
      walk_at "go"
      refine x_ixt 1 (SqT.of ha) rfl rfl ?_
      walk_at "go"
      refine ⟨_, _, rfl, .int _, ?_⟩
      walk_at "go"
      refine x_nT ?_
      walk_at "go"
      refine x_ixt 1 (SqT.of ha) rfl rfl ?_
      walk_at "go"
      refine x_yes (by omega) ?_
      walk_at "go"
      refine x_nyes (by omega) ?_
      walk_at "go"
      refine x_ixt 2 (SqT.of ha) rfl rfl ?_
      walk_at "go"
      have hnd : n ≠ d := fun e => by
        rw [e] at hnf
        exact hnf _ hd
      refine ⟨d, n, l, m, rfl, hd, hnd, hn, g4, g5, fun y hy => ?_, q⟩
      have := g6 _ hy
      exact ⟨this.1, hnm _ this.2, this.2⟩
theorem strK_inj {α : Type} {f : α → V} (hf : ∀ a b, f a = f b → a = b) : ∀ {l l' : List (Str × α)}, strK f l = strK f l' → l = l'
  | [], [], _ => rfl
  | [], _ :: _, h => by cases h
  | _ :: _, [], h => by cases h
  | p :: r, p' :: r', h => by
    have h1 : ((Sum.inr p.1 : Key), f p.2) :: strK f r = ((Sum.inr p'.1 : Key), f p'.2) :: strK f r' := h
    injection h1 with h2 h3
    injection h2 with h4 h5
    have e1 : p.1 = p'.1 := Sum.inr.inj h4
    have e2 := hf _ _ h5
    have e3 : p = p' := by
      obtain ⟨a, b⟩ := p
      obtain ⟨c, d⟩ := p'
      cases e1
      cases e2
      rfl
    rw [e3, strK_inj hf h3]
theorem sd_held {H : Hp} {d a : Addr} {u : HO} {m : List (Str × Addr)} {z : Str} {x : Sd} {h : Int} {ns : List Str} (hd : H d = some (.dK (strK V.ref m))) (hm : (z, a) ∈ m) (hx : SdAt H a x) (hg : GoodSd h ns x) : SdAt (upd H d u) a x := by
  cases x with
  | fin =>
    have ha : H a = some (.tup [.str "end"]) := hx
    have n1 : a ≠ d := ne_of ha hd (by intro z; cases z)
    show upd H d u a = _
    rw [upd_ne n1]
    exact ha
  | chance l =>
    obtain ⟨d2, ha, hD⟩ := hx
    obtain ⟨m2, h1, h2, h3⟩ := hD.ex
    have n1 : a ≠ d := ne_of ha hd (by intro z; cases z)
    have n2 : d2 ≠ d := fun e => by
      subst e
      rw [hd] at h1
      have e1 := strK_inj (f := V.ref) (fun a b e => by cases e; rfl) (HO.dK.inj (Option.some.inj h1))
      rw [e1] at hm
      obtain ⟨y, _, hy⟩ := h3 _ _ hm
      rw [show H a = _ from hy] at ha
      injection ha with ha
      injection ha with ha
      injection ha with _ ha
      injection ha with ha _
      cases ha
    refine ⟨d2, by rw [upd_ne n1]; exact ha, ⟨m2, by rw [upd_ne n2]; exact h1, h2, fun z a hza => ?_⟩⟩
    obtain ⟨y, hy, hp⟩ := h3 _ _ hza
    refine ⟨y, hy, ?_⟩
    have n3 : a ≠ d := ne_of (show H a = some _ from hp) hd (by intro z; cases z)
    show upd H d u a = _
    rw [upd_ne n3]
    exact hp
  | hand k l =>
    obtain ⟨d2, ha, h1⟩ := hx
    have n1 : a ≠ d := ne_of ha hd (by intro z; cases z)
    have n2 : d2 ≠ d := fun e => by
      subst e
      rw [hd] at h1
      have e1 := HO.dK.inj (Option.some.inj h1)
      obtain ⟨_, _, _, hl, _⟩ := hg
      cases l with
      | nil => exact absurd hl (by decide)
      | cons p r =>
        cases m with
        | nil => cases e1
        | cons p' r' =>
          have e2 : ((Sum.inr p'.1 : Key), V.ref p'.2) :: strK V.ref r' = ((Sum.inr p.1 : Key), V.str p.2) :: strK V.str r := e1
          injection e2 with e3 _
          injection e3 with _ e4
          cases e4
    exact ⟨d2, by rw [upd_ne n1]; exact ha, by rw [upd_ne n2]; exact h1⟩
/-- the stands of a work -/
structure GoodT (h : Int) (l : List (Str × Sd)) : Prop where
  nd : (l.map (·.1)).Nodup
  l1 : 1 ≤ l.length
  l2 : l.length ≤ 100
  nm : ∀ z ∈ l.map (·.1), NameS z
  sd : ∀ z x, l.lookup z = some x → GoodSd h (l.map (·.1)) x
def spAreStands : Sp := fun vs H Q _ => ∃ (d : Addr) (h : Int) (l : List (Str × Sd)), vs = [.ref d, .int h] ∧ DictOf SdAt H d l ∧ GoodT h l ∧ ∀ H', L2.Same H H' → Q (.bl true) H'
theorem ok_are_stands {f : Addr} {fd : FuncData} (F : Fun K "are_stands" "are_stands" s_are_stands f fd) (Z_dict : mg "dict" = none) (Z_len : mg "len" = none) (Z_isinstance : mg "isinstance" = none)
    (C_is_name : Cal P w K mg base 1 "is_name" ["thing"] (spIsName K)) (C_is_stand : Cal P w K mg base 3 "is_stand" ["thing", "hands", "names"] (spIsStand K)) : FnOk P w K mg base CX0 4 f fd ["thing", "hands"] spAreStands := by
  refine F.ok sc_are_stands (fun vs H Q E h => ?_) (fun cdv A outer s H vs Q E hr h => ?_)
  · obtain ⟨_, _, _, rfl, _⟩ := h
    rfl
  · obtain ⟨d, h, l, rfl, hD, g, q⟩ := h
    obtain ⟨m, hd, hk, hp⟩ := id hD.ex
    refine ⟨_, (pss_cons (ps_if (PW.pt (pw_or (pt_not (pt_val (pe_callB call_isi (by rfl) Z_isinstance (by decide +kernel) (pa_cons (pv 0) (pa_cons (pe_bltn (v := .ty "dict") (by rfl) Z_dict (by decide +kernel) rfl) pa_nil))))) (pw_or1 (pt_not (pt_chain op_le op_le pe_int (pe_callB call_lenDA (by rfl) Z_len (by decide +kernel) (pa_cons (pv 0) pa_nil)) pe_int)))))
      (pss_one (ps_ret pe_bl))
      pss_nil)
      (pss_cons (ps_lock (ps_for PassesOwn.never rfl (pi_keys (pv 0)) (pg_name (i := 2) sc_are_stands.nd rfl (Or.inl rfl))
      (pss_one (ps_if (pt_not (pt_val (pe_cal C_is_name (hr.mono (by decide)) (by rfl) (pa_cons (pv 2) pa_nil))))
      (pss_one (ps_ret pe_bl))
      pss_nil))))
      (pss_cons (ps_lock (ps_for PassesOwn.never rfl (pi_values (pv 0)) (pg_name (i := 3) sc_are_stands.nd rfl (Or.inl rfl))
      (pss_one (ps_if (pt_not (pt_val (pe_cal C_is_stand (hr.mono (by decide)) (by rfl) (pa_cons (pv 3) (pa_cons (pv 1) (pa_cons (pv 0) pa_nil))))))
      (pss_one (ps_ret pe_bl))
      pss_nil))))
      (pss_one (ps_ret pe_bl))))), ?_⟩
    have hl : (strK V.ref m).length = l.length := by
      rw [List.length_map]
      have := congrArg List.length hk
      rwa [List.length_map, List.length_map] at this
    have g1 := g.l1
    have g2 := g.l2
    walk_at "go"
    refine x_isiDict (.dict (.inl hd)) ?_
    walk_at "go"
    refine x_nT ?_
    walk_at "go"
    refine x_lenD (.inl hd) ?_
    rw [hl]
    walk_at "go"
    refine x_yes (by omega) ?_
    walk_at "go"
    refine x_nyes (by omega) ?_
    walk_at "go"
    refine x_lock hd trivial fun od => ?_
    walk_at "go"
    refine lpK (kvs := strK V.ref m) (fun i σ H' => ∃ v1, σ = [some (.ref d), some (.int h), v1, none] ∧ L2.Same (upd H d (.frz od (.dK (strK V.ref m)))) H') upd_same ?_ ?_ ?_ ?_
    · exact ⟨none, rfl, L2.Same.refl _⟩
    · exact fun i σ H' _ ⟨_, _, s1⟩ => s1 d _ upd_same
    · rintro i k0 v0 σ H' hi ⟨v1, rfl, s1⟩
      obtain ⟨z, x, rfl, rfl, hlx⟩ := strK_at hi
      have hz : NameS z := g.nm _ (by rw [← hk]; exact List.mem_map.mpr ⟨_, List.mem_of_getElem? hlx, rfl⟩)
      walk_at "go"
      refine x_name hz ?_
      walk_at "go"
      exact ⟨_, rfl, s1⟩
    · rintro σ H1 ⟨v1, rfl, s1⟩
      refine ⟨s1 d _ upd_same, ?_⟩
      have s2 := same_back hd s1
      walk_at "go"
      have hd1 : upd H1 d (.dK (strK V.ref m)) d = some (.dK (strK V.ref m)) := upd_same
      generalize upd H1 d (.dK (strK V.ref m)) = H1 at s2 hd1 ⊢
      refine x_lock hd1 trivial fun oe => ?_
      walk_at "go"
      refine lpV (kvs := strK V.ref m) (fun i σ H' => ∃ v1 v2, σ = [some (.ref d), some (.int h), v1, v2] ∧ L2.Same (upd H1 d (.frz oe (.dK (strK V.ref m)))) H') upd_same ?_ ?_ ?_ ?_
      · exact ⟨_, _, rfl, L2.Same.refl _⟩
      · exact fun i σ H' _ ⟨_, _, _, s1⟩ => s1 d _ upd_same
      · rintro i k0 v0 σ H' hi ⟨v1, v2, rfl, s3⟩
        obtain ⟨z, x, rfl, rfl, hlx⟩ := strK_at hi
        obtain ⟨y, hy, hx⟩ := hp _ _ (List.mem_of_getElem? hlx)
        have hm1 := List.mem_of_getElem? hlx
        have hg := g.sd _ _ hy
        have hx1 : SdAt H1 x y := hx.same s2
        have hx2 : SdAt H' x y := (sd_held hd1 hm1 hx1 hg).same s3
        walk_at "go"
        refine ⟨x, d, h, y, m, rfl, hx2, fun o e => ?_, .inr ⟨oe, s3 _ _ upd_same⟩, by rw [hk]; exact hg, by rw [hk]; exact g.nm, fun H3 s4 => ?_⟩
        · rw [s3 _ _ upd_same] at e
          cases e
        walk_at "go"
        exact ⟨_, _, rfl, s3.trans s4⟩
      · rintro σ H2 ⟨v1, v2, rfl, s3⟩
        refine ⟨s3 d _ upd_same, ?_⟩
        walk_at "go"
        exact q _ (s2.trans (same_back hd1 s3))
end
/-! ### copied, leads -/
/-- {z: d[z] for z in sorted(d)} -/
theorem dc_sorted {K : PySem.W.Frag} {α : Type} [Inhabited α] {f : α → V} {σ : L2.St} {H : Hp} {Qd : Addr → Hp → Prop} {d : Addr} {l : List (Str × α)} {j n : Nat} (hd : Rd H d (.dK (strK f l))) (hnd : (l.map (·.1)).Nodup) (hl : l.length ≤ 100) (hj : j ≠ n) (hn : n < σ.length)
    (h2 : σ[j]? = some (some (.ref d))) (k : ∀ H' D l', L2.Same H H' → H D = none → H' D = some (.dK (strK f l')) → l'.Perm l → sortedS (l'.map (·.1)) = true → Qd D H') :
    rSortDA [.ref d] H fun x H1 => RunL K (fun J H1 => ∀ D, H1 D = none → DcP J (gName n) tYes (tVar n) (tDGet (tVar j) (tVar n)) [n] σ D (Qd D) H1) x H1 := by
  have ek : (strK f l).map (·.1) = (l.map (·.1)).map Sum.inr := by rw [List.map_map, List.map_map]; rfl
  refine ⟨d, _, l.map (·.1), rfl, hd, ek, by rw [List.length_map]; omega, fun ys q hperm hsort hq => runL (SqL.of upd_same) fun D4 hD4 => ?_⟩
  have hq4 : q ≠ D4 := ne_of_none upd_same hD4
  have hD40 : H D4 = none := by rw [upd_ne hq4.symm] at hD4; exact hD4
  have ynd : ys.Nodup := (hperm.nodup_iff).mpr hnd
  have ylen : ys.length = l.length := by rw [hperm.length_eq, List.length_map]
  refine dcL (xs := ys.map V.str) (fun t H' => L2.Same H H' ∧ H' q = some (.lst (ys.map V.str)) ∧ H' D4 = some (.dK (strK f ((ys.take t).map fun z => (z, (l.lookup z).getD default))))) ?_ ?_ ?_ ?_
  · exact ⟨same_upd (same_new hq) hD40, by rw [upd_ne hq4]; exact upd_same, upd_same⟩
  · exact fun t H' _ h => SqL.of h.2.1
  · rintro t x H' hx ⟨s4, hq1, hD41⟩
    rw [List.getElem?_map] at hx
    cases hz : ys[t]? with
    | none => rw [hz] at hx; cases hx
    | some z =>
      rw [hz] at hx
      have ex : V.str z = x := Option.some.inj hx
      subst ex
      have hlt : t < ys.length := (List.getElem?_eq_some_iff.mp hz).1
      have hzm : z ∈ l.map (·.1) := hperm.mem_iff.mp (List.mem_of_getElem? hz)
      obtain ⟨xz, hxz⟩ := lookup_isSome hzm
      refine x_g1 ⟨?_, x_yes1 (x_T (x_var (v := .str z) ?_ (x_dget (x_var (v := .ref d) ?_ (x_var (v := .str z) ?_ (x_getL (l := l) (same_rd s4 hd) hxz ⟨_, Sum.inr z, rfl, hD41, sz_lt (by simp; omega), same_upd s4 hD40, by rw [upd_ne hq4]; exact hq1, ?_⟩))))))⟩
      · show ((σ.set n none).set n (some (.str z))).set n none = σ.set n none
        rw [List.set_set, List.set_set]
      · show ((σ.set n none).set n _)[n]? = _
        rw [List.getElem?_set_self (by rw [List.length_set]; exact hn)]
      · show ((σ.set n none).set n _)[j]? = _
        rw [List.getElem?_set_ne hj.symm, List.getElem?_set_ne hj.symm]
        exact h2
      · show ((σ.set n none).set n _)[n]? = _
        rw [List.getElem?_set_self (by rw [List.length_set]; exact hn)]
      · rw [upd_same, strK_put, putL_new, take_succ_get hz, List.map_append]
        · simp [hxz]
        · rw [List.map_map]
          intro hm
          obtain ⟨z', hz', e'⟩ := List.mem_map.mp hm
          have e2 : z' = z := e'
          subst e2
          obtain ⟨i, hi, he⟩ := List.getElem_of_mem hz'
          have hi2 : i < t := by simp at hi; omega
          have h5 : ys[i]? = some z' := by
            rw [List.getElem_take] at he
            rw [List.getElem?_eq_getElem (by omega), he]
          have := L2.nd_ix ynd h5 hz
          omega
  · rintro H4 ⟨s4, hq1, hD41⟩
    rw [List.length_map, List.take_length] at hD41
    refine k H4 D4 _ s4 hD40 hD41 (table_perm hnd hperm default) ?_
    rw [List.map_map]
    have : ((fun x : Str × α => x.1) ∘ fun z => (z, (l.lookup z).getD default)) = id := rfl
    rw [this, List.map_id]
    exact hsort
/-- the same stand, its steps in order -/
def SdSort : Sd → Sd → Prop
  | .fin, .fin => True
  | .chance l, .chance l' => l'.Perm l ∧ sortedS (l'.map (·.1)) = true
  | .hand k l, .hand k' l' => k' = k ∧ l'.Perm l ∧ sortedS (l'.map (·.1)) = true
  | _, _ => False
def spCopied : Sp := fun vs H Q _ => ∃ (a : Addr) (x : Sd) (h : Int) (ns : List Str), vs = [.ref a] ∧ SdAt H a x ∧ GoodSd h ns x ∧ ∀ H' p x', L2.Same H H' → H p = none → SdAt H' p x' → SdSort x x' → Q (.ref p) H'
def leadsL : Sd → List Str
  | .fin => []
  | .chance l => l.map (·.2.1)
  | .hand _ l => l.map (·.2)
def spLeads (C : Addr) : Sp := fun vs H Q _ => ∃ (a dx t : Addr) (fs : List (Str × V)) (tab : List (Str × Sd)) (z : Str) (x : Sd) (h : Int) (ns : List Str), vs = [.ref a, .str z] ∧ H a = some (.ins C dx fs) ∧ fs.lookup ("table" : Str) = some (.ref t) ∧ DictOf SdAt H t tab ∧
  tab.lookup z = some x ∧ GoodSd h ns x ∧ ∀ H' p, L2.Same H H' → H p = none → H' p = some (.lst (strsV (leadsL x))) → Q (.ref p) H'
/-- what stands in the dict for a key -/
theorem DictOf.at {α : Type} {R : Hp → Addr → α → Prop} {H : Hp} {d : Addr} {l : List (Str × α)} (h : DictOf R H d l) {z : Str} {x : α} (e : l.lookup z = some x) : ∃ (m : List (Str × Addr)) (a : Addr), H d = some (.dK (strK V.ref m)) ∧ m.lookup z = some a ∧ R H a x := by
  obtain ⟨m, h1, h2, h3⟩ := h.ex
  have hz : z ∈ m.map (·.1) := by
    rw [h2]
    exact List.mem_map.mpr ⟨_, lookup_mem e, rfl⟩
  obtain ⟨a, ha⟩ := lookup_isSome hz
  obtain ⟨y, hy, r⟩ := h3 _ _ (lookup_mem ha)
  rw [e] at hy
  cases hy
  exact ⟨m, a, h1, ha, r⟩
section
variable {P : Program} {w : World} {K : PySem.W.Frag} {mg : Str → Option Value} {base : Heap} {CW : Addr}
theorem ok_copied {f : Addr} {fd : FuncData} (F : Fun K "copied" "copied" s_copied f fd) (Z_len : mg "len" = none) (Z_sorted : mg "sorted" = none) : FnOk P w K mg base CX0 1 f fd ["stand"] spCopied := by
  refine F.ok sc_copied (fun vs H Q E h => ?_) (fun cdv A outer s H vs Q E hr h => ?_)
  · obtain ⟨_, _, _, _, rfl, _⟩ := h
    rfl
  · obtain ⟨a, x, h, ns, rfl, hx, hg, q⟩ := h
    have hu := hu_of hr
    refine ⟨_, (pss_cons (ps_if (pt_cmpR op_eq (pe_ix ix_tup (pv 0) pe_int (fun _ _ => rfl)) pe_str (nomark _))
      (pss_one (ps_ret (pe_tup (pa_cons pe_str pa_nil))))
      pss_nil)
      (pss_cons (ps_set (i := 1) sc_copied.nd rfl (Or.inr rfl) (pe_ix ix_tup (pv 0) (pe_op op_sub (pe_callB call_lenA (by rfl) Z_len (by decide +kernel) (pa_cons (pv 0) pa_nil)) pe_int) (fun _ _ => rfl)))
      (pss_cons (ps_setDc (i := 2) (own := [("step", 3)]) (g := gName 3) (tt := tYes) (by rfl) sc_copied.nd rfl rfl (sw_trueD rfl rfl rfl (by decide +kernel)) (pi_list (pe_callB (call_sortedDA rfl) (by rfl) Z_sorted (by decide +kernel) (pa_cons (pv 1) pa_nil))) (blkOk_by (own := [("step", 3)]) (N := N_copied) (sc := defScope s_copied) (by decide +kernel)) (fun _ _ _ _ _ => (pg_name (i := 3) sc_copied.nd rfl (Or.inl rfl))) (fun _ _ _ _ _ => pts_nil) (fun _ _ _ _ _ => by exact (pv 3)) (fun _ _ _ _ _ => by exact (pe_dget hu (pv 1) (pv 3) (fun _ _ => rfl))))
      (pss_cons (ps_if (pt_cmpR op_eq (pe_ix ix_tup (pv 0) pe_int (fun _ _ => rfl)) pe_str (nomark _))
      (pss_one (ps_ret (pe_tup (pa_cons pe_str (pa_cons (pe_ix ix_tup (pv 0) pe_int (fun _ _ => rfl)) (pa_cons (pv 2) pa_nil))))))
      pss_nil)
      (pss_one (ps_ret (pe_tup (pa_cons pe_str (pa_cons (pv 2) pa_nil))))))))), ?_⟩
    walk_at "go"
    cases x with
    | fin =>
      have ha : H a = some (.tup [.str "end"]) := hx
      refine x_ixt 0 (SqT.of ha) rfl rfl ?_
      walk_at "go"
      refine x_yes rfl ?_
      walk_at "go"
      refine ⟨by decide, fun p hp => ?_⟩
      exact q _ p .fin (same_new hp) hp (show upd H p _ p = _ from upd_same) trivial
    | chance l =>
      obtain ⟨d, ha, hD⟩ := hx
      obtain ⟨g1, g2, g3, g4⟩ := hg
      obtain ⟨m, hd, hk, hp⟩ := hD.ex
      refine x_ixt 0 (SqT.of ha) rfl rfl ?_
      walk_at "go"
      refine x_no (by decide +kernel) ?_
      walk_at "go"
      refine x_lenT (SqT.of ha) ?_
      walk_at "go"
      refine x_ixt 1 (SqT.of ha) rfl rfl ?_
      walk_at "go"
      have hkl : m.length = l.length := by
        have := congrArg List.length hk
        rwa [List.length_map, List.length_map] at this
      refine dc_sorted (f := V.ref) (l := m) (.inl hd) (by rw [hk]; exact g1) (by omega) (by decide) (by decide : 3 < 4) rfl fun H1 D m' s1 hD1 hD2 hpm hso => ?_
      walk_at "go"
      refine x_ixt 0 (SqT.of (s1 _ _ ha)) rfl rfl ?_
      walk_at "go"
      refine x_no (by decide +kernel) ?_
      walk_at "go"
      refine ⟨sz_le (by simp), fun p hp2 => ?_⟩
      have hpk : (m'.map (·.1)).Perm (l.map (·.1)) := by rw [← hk]; exact hpm.map _
      have nDp : D ≠ p := ne_of_none hD2 hp2
      refine q _ p (.chance ((m'.map (·.1)).map fun z => (z, (l.lookup z).getD default))) (same_upd s1 (s1.free hp2)) (s1.free hp2) ?_ ⟨table_perm g1 hpk default, ?_⟩
      · refine ⟨D, upd_same, ⟨m', by rw [upd_ne nDp]; exact hD2, ?_, fun z y hzy => ?_⟩⟩
        · rw [List.map_map]
          have : ((fun x : Str × (Str × Int) => x.1) ∘ fun z => (z, (l.lookup z).getD default)) = id := rfl
          rw [this, List.map_id]
        · obtain ⟨v, hv, hr2⟩ := hp _ _ (hpm.mem_iff.mp hzy)
          refine ⟨v, ?_, (show PairAt _ _ _ from ?_)⟩
          · rw [lookup_perm (table_perm g1 hpk default) g1]
            exact hv
          · show upd H1 p _ y = _
            have hy := s1 _ _ (show H y = some _ from hr2)
            rw [upd_ne (ne_of_none hy hp2)]
            exact hy
      · rw [List.map_map]
        have : ((fun x : Str × (Str × Int) => x.1) ∘ fun z => (z, (l.lookup z).getD default)) = id := rfl
        rw [this, List.map_id]
        exact hso
    | hand k l =>
      obtain ⟨d, ha, hd⟩ := hx
      obtain ⟨_, _, g1, g2, g3, g4⟩ := hg
      refine x_ixt 0 (SqT.of ha) rfl rfl ?_
      walk_at "go"
      refine x_no (by decide +kernel) ?_
      walk_at "go"
      refine x_lenT (SqT.of ha) ?_
      walk_at "go"
      refine x_ixt 2 (SqT.of ha) rfl rfl ?_
      walk_at "go"
      refine dc_sorted (f := V.str) (l := l) (.inl hd) g1 (by omega) (by decide) (by decide : 3 < 4) rfl fun H1 D l' s1 hD1 hD2 hpm hso => ?_
      walk_at "go"
      refine x_ixt 0 (SqT.of (s1 _ _ ha)) rfl rfl ?_
      walk_at "go"
      refine x_yes rfl ?_
      walk_at "go"
      refine x_ixt 1 (SqT.of (s1 _ _ ha)) rfl rfl ?_
      walk_at "go"
      refine ⟨sz_le (by simp), fun p hp2 => ?_⟩
      have nDp : D ≠ p := ne_of_none hD2 hp2
      exact q _ p (.hand k l') (same_upd s1 (s1.free hp2)) (s1.free hp2) ⟨D, upd_same, by rw [upd_ne nDp]; exact hD2⟩ ⟨rfl, hpm, hso⟩
theorem ok_leads {f : Addr} {fd : FuncData} (F : Fun K "leads" "leads" s_leads f fd) (K_Work : Cls K CW) (N1 : NoAttr K CW "table") : FnOk P w K mg base CX0 1 f fd ["work", "stand"] (spLeads CW) := by
  refine F.ok sc_leads (fun vs H Q E h => ?_) (fun cdv A outer s H vs Q E hr h => ?_)
  · obtain ⟨_, _, _, _, _, _, _, _, _, rfl, _⟩ := h
    rfl
  · obtain ⟨a, dx, t, fs, tab, z, x, h, ns, rfl, ha, hf, hT, hz, hg, q⟩ := h
    obtain ⟨m, b, ht, hb, hx⟩ := hT.at hz
    have hu := hu_of hr
    refine ⟨_, (pss_cons (ps_set (i := 2) sc_leads.nd rfl (Or.inr rfl) (pe_dget hu (pe_fld (pv 0) rfl) (pv 1) (fun _ _ => rfl)))
      (pss_cons (ps_if (pt_cmpR op_eq (pe_ix ix_tup (pv 2) pe_int (fun _ _ => rfl)) pe_str (nomark _))
      (pss_one (ps_ret (pe_lst pa_nil)))
      pss_nil)
      (pss_cons (ps_if (pt_cmpR op_eq (pe_ix ix_tup (pv 2) pe_int (fun _ _ => rfl)) pe_str (nomark _))
      (pss_one (ps_ret (pe_lock (pe_lc (own := [("step", 3)]) (g := gName 3) (tt := tYes) (by rfl) sc_leads.nd (pi_keys (pe_ix ix_tup (pv 2) pe_int (fun _ _ => rfl))) (blkOk_by (own := [("step", 3)]) (N := N_leads) (sc := defScope s_leads) (by decide +kernel)) (fun _ _ _ _ _ => (pg_name (i := 3) sc_leads.nd rfl (Or.inl rfl))) (fun _ _ _ _ _ => pts_nil) (fun _ _ _ _ _ => by exact (pe_dget hu (pe_ix (ix_tupK (K := K)) (pv 2) pe_int (fun _ _ => rfl)) (pv 3) (fun _ _ => rfl)))))))
      pss_nil)
      (pss_one (ps_ret (pe_lock (pe_lc (own := [("step", 3)]) (g := gName 3) (tt := tYes) (by rfl) sc_leads.nd (pi_keys (pe_ix ix_tup (pv 2) pe_int (fun _ _ => rfl))) (blkOk_by (own := [("step", 3)]) (N := N_leads) (sc := defScope s_leads) (by decide +kernel)) (fun _ _ _ _ _ => (pg_name (i := 3) sc_leads.nd rfl (Or.inl rfl))) (fun _ _ _ _ _ => pts_nil) (fun _ _ _ _ _ => by exact (pe_ix (ix_tupK (K := K)) (pe_dget hu (pe_ix (ix_tupK (K := K)) (pv 2) pe_int (fun _ _ => rfl)) (pv 3) (fun _ _ => rfl)) pe_int (fun _ _ => rfl)))))))))), ?_⟩
    walk_at "go"
    refine x_fld K_Work N1 ha hf ?_
    walk_at "go"
    refine x_getL (.inl ht) hb ?_
    walk_at "go"
    cases x with
    | fin =>
      have hb1 : H b = some (.tup [.str "end"]) := hx
      refine x_ixt 0 (SqT.of hb1) rfl rfl ?_
      walk_at "go"
      refine x_yes rfl ?_
      walk_at "go"
      refine ⟨by decide, fun p hp => ?_⟩
      exact q _ p (same_new hp) hp upd_same
    | chance l =>
      obtain ⟨d, hb1, hD⟩ := hx
      obtain ⟨g1, g2, g3, g4⟩ := hg
      obtain ⟨m2, hd, hk, hp⟩ := hD.ex
      have hkl : m2.length = l.length := by
        have := congrArg List.length hk
        rwa [List.length_map, List.length_map] at this
      have nd2 : (m2.map (·.1)).Nodup := by rw [hk]; exact g1
      refine x_ixt 0 (SqT.of hb1) rfl rfl ?_
      walk_at "go"
      refine x_no (by decide +kernel) ?_
      walk_at "go"
      refine x_ixt 0 (SqT.of hb1) rfl rfl ?_
      walk_at "go"
      refine x_no (by decide +kernel) ?_
      walk_at "go"
      have nbd : b ≠ d := ne_of hb1 hd (by intro z; cases z)
      refine x_lockE hd trivial fun od => ?_
      have hb2 : (upd H d (.frz od (.dK (strK V.ref m2)))) b = some (.tup [.str "chance", .ref d]) := by rw [upd_ne nbd]; exact hb1
      walk_at "go"
      refine x_ixt 1 (SqT.of hb2) rfl rfl ?_
      refine runK upd_same ?_
      intro D hD
      have hDd : D ≠ d := fun z => by rw [z, upd_same] at hD; cases hD
      have hD0 : H D = none := by rw [upd_ne hDd] at hD; exact hD
      refine lcK (kvs := strK V.ref m2) (fun i H' => L2.Same (upd H d (.frz od (.dK (strK V.ref m2)))) H' ∧ H' D = some (.lst (strsV ((l.take i).map (·.2.1))))) ?_ ?_ ?_ ?_
      · exact ⟨same_new hD, upd_same⟩
      · exact fun i H' _ h => h.1 d _ upd_same
      · rintro i k0 v0 H' hi ⟨s1, hD1⟩
        obtain ⟨z, y, rfl, rfl, hly⟩ := strK_at hi
        have hym := List.mem_of_getElem? hly
        obtain ⟨v, hv, hr2⟩ := hp _ _ hym
        have nyd : y ≠ d := ne_of (show H y = some _ from hr2) hd (by intro z; cases z)
        have hy1 : H' y = some (.tup [.str v.1, .int v.2]) := s1 _ _ (by rw [upd_ne nyd]; exact hr2)
        have hlt : i < m2.length := (List.getElem?_eq_some_iff.mp hly).1
        have hli : l[i]? = some (z, v) := by
          have e1 : (m2.map (·.1))[i]? = some z := by rw [List.getElem?_map, hly]; rfl
          rw [hk, List.getElem?_map] at e1
          cases e2 : l[i]? with
          | none => rw [e2] at e1; cases e1
          | some q2 =>
            rw [e2] at e1
            have e3 : q2.1 = z := Option.some.inj e1
            have e4 := lookup_of g1 (z := q2.1) (x := q2.2) (List.mem_of_getElem? e2)
            rw [e3, hv] at e4
            have e5 := Option.some.inj e4
            rw [← e3, e5]
        walk_at "go"
        refine ⟨rfl, ?_⟩
        walk_at "go"
        refine x_ixt 1 (SqT.of (s1 _ _ hb2)) rfl rfl ?_
        walk_at "go"
        refine x_getL (l := m2) (.inr ⟨od, s1 _ _ upd_same⟩) (lookup_of nd2 hym) ?_
        walk_at "go"
        refine x_ixt 0 (SqT.of hy1) rfl rfl ?_
        refine ⟨_, hD1, sz_lt (by simp; omega), same_upd s1 hD, ?_⟩
        rw [upd_same, take_succ_get hli]
        simp
      · rintro H4 ⟨s1, hD1⟩
        have eL : (strK V.ref m2).length = l.length := by rw [List.length_map]; exact hkl
        rw [eL, List.take_length] at hD1
        refine ⟨s1 d _ upd_same, ?_⟩
        exact q _ D (same_back hd s1) hD0 (by rw [upd_ne hDd]; exact hD1)
    | hand k l =>
      obtain ⟨d, hb1, hd⟩ := hx
      obtain ⟨_, _, g1, g2, g3, g4⟩ := hg
      refine x_ixt 0 (SqT.of hb1) rfl rfl ?_
      walk_at "go"
      refine x_no (by decide +kernel) ?_
      walk_at "go"
      refine x_ixt 0 (SqT.of hb1) rfl rfl ?_
      walk_at "go"
      refine x_yes rfl ?_
      walk_at "go"
      have nbd : b ≠ d := ne_of hb1 hd (by intro z; cases z)
      refine x_lockE hd trivial fun od => ?_
      have hb2 : (upd H d (.frz od (.dK (strK V.str l)))) b = some (.tup [.str "hand", .int k, .ref d]) := by rw [upd_ne nbd]; exact hb1
      walk_at "go"
      refine x_ixt 2 (SqT.of hb2) rfl rfl ?_
      refine runK upd_same ?_
      intro D hD
      have hDd : D ≠ d := fun z => by rw [z, upd_same] at hD; cases hD
      have hD0 : H D = none := by rw [upd_ne hDd] at hD; exact hD
      refine lcK (kvs := strK V.str l) (fun i H' => L2.Same (upd H d (.frz od (.dK (strK V.str l)))) H' ∧ H' D = some (.lst (strsV ((l.take i).map (·.2))))) ?_ ?_ ?_ ?_
      · exact ⟨same_new hD, upd_same⟩
      · exact fun i H' _ h => h.1 d _ upd_same
      · rintro i k0 v0 H' hi ⟨s1, hD1⟩
        obtain ⟨z, y, rfl, rfl, hly⟩ := strK_at hi
        have hym := List.mem_of_getElem? hly
        have hlt : i < l.length := (List.getElem?_eq_some_iff.mp hly).1
        walk_at "go"
        refine ⟨rfl, ?_⟩
        walk_at "go"
        refine x_ixt 2 (SqT.of (s1 _ _ hb2)) rfl rfl ?_
        walk_at "go"
        refine x_getL (l := l) (.inr ⟨od, s1 _ _ upd_same⟩) (lookup_of g1 hym) ?_
        refine ⟨_, hD1, sz_lt (by simp; omega), same_upd s1 hD, ?_⟩
        rw [upd_same, take_succ_get hly]
        simp
      · rintro H4 ⟨s1, hD1⟩
        have eL : (strK V.str l).length = l.length := List.length_map ..
        rw [eL, List.take_length] at hD1
        refine ⟨s1 d _ upd_same, ?_⟩
        exact q _ D (same_back hd s1) hD0 (by rw [upd_ne hDd]; exact hD1)
end
/-! ### is a work ringless -/
def rlStep (ld : Str → List Str) (p : List (Str × Bool) × List Str) (z : Str) : List (Str × Bool) × List Str :=
  if (ld z).all (fun t => (p.1.lookup t).isSome) = true then (putL p.1 z true, p.2) else (p.1, p.2 ++ [z])
def rlPass (ld : Str → List Str) (left : List Str) (st : List (Str × Bool)) : List (Str × Bool) × List Str := left.foldl (rlStep ld) (st, [])
def rlRun (ld : Str → List Str) : Nat → List Str → List (Str × Bool) → List Str
  | 0, left, _ => left
  | n + 1, left, st => if (rlPass ld left st).2.length < left.length then rlRun ld n (rlPass ld left st).2 (rlPass ld left st).1 else (rlPass ld left st).2
def leadOf (tab : List (Str × Sd)) (z : Str) : List Str := ((tab.lookup z).map leadsL).getD []
def ringB (tab : List (Str × Sd)) (ns : List Str) : Bool := decide ((rlRun (leadOf tab) (ns.length + 1) ns []).length = 0)
def spRingless (C : Addr) : Sp := fun vs H Q _ => ∃ (a dx t n : Addr) (fs : List (Str × V)) (tab : List (Str × Sd)) (ns : List Str) (h : Int) (nm : List Str), vs = [.ref a] ∧ H a = some (.ins C dx fs) ∧ fs.lookup ("table" : Str) = some (.ref t) ∧ fs.lookup ("names" : Str) = some (.ref n) ∧
  DictOf SdAt H t tab ∧ H n = some (.tup (strsV ns)) ∧ ns.length ≤ 100 ∧ (∀ z ∈ ns, ∃ x, tab.lookup z = some x ∧ GoodSd h nm x) ∧ ∀ H', L2.Same H H' → Q (.bl (ringB tab ns)) H'
theorem leads_len {h : Int} {nm : List Str} {x : Sd} (g : GoodSd h nm x) : (leadsL x).length ≤ 4 := by
  cases x with
  | fin => exact Nat.zero_le _
  | chance l =>
    show (l.map _).length ≤ 4
    rw [List.length_map]
    exact g.2.2.1
  | hand k l =>
    show (l.map _).length ≤ 4
    rw [List.length_map]
    exact g.2.2.2.2.1
section
variable {P : Program} {w : World} {K : PySem.W.Frag} {mg : Str → Option Value} {base : Heap} {CW : Addr}
theorem ok_is_ringless {f : Addr} {fd : FuncData} (F : Fun K "is_ringless" "is_ringless" s_is_ringless f fd) (K_Work : Cls K CW) (N1 : NoAttr K CW "names") (Z_list : mg "list" = none) (Z_all : mg "all" = none) (Z_len : mg "len" = none)
    (C_leads : Cal P w K mg base 1 "leads" ["work", "stand"] (spLeads CW)) : FnOk P w K mg base CX0 2 f fd ["work"] (spRingless CW) := by
  refine F.ok sc_is_ringless (fun vs H Q E h => ?_) (fun cdv A outer s H vs Q E hr h => ?_)
  · obtain ⟨_, _, _, _, _, _, _, _, _, rfl, _⟩ := h
    rfl
  · obtain ⟨a, dx, t, n, fs, tab, ns, h, nm, rfl, ha, hft, hfn, hT, hn, hlen, hg, q⟩ := h
    have hu := hu_of hr
    refine ⟨_, (pss_cons (ps_set (i := 1) sc_is_ringless.nd rfl (Or.inl rfl) (pe_callTy call_listA (by rfl) Z_list (by decide +kernel) (pa_cons (pe_fld (pv 0) rfl) pa_nil)))
      (pss_cons (ps_set (i := 2) sc_is_ringless.nd rfl (Or.inr rfl) pe_dnewK)
      (pss_cons (ps_set (i := 3) sc_is_ringless.nd rfl (Or.inl rfl) pe_bl)
      (pss_cons (ps_while PassesOwn.never (pt_val (pv 3))
      (pss_cons (ps_set (i := 4) sc_is_ringless.nd rfl (Or.inl rfl) (pe_lst pa_nil))
      (pss_cons (ps_for PassesOwn.never rfl (pi_list (pv 1)) (pg_name (i := 5) sc_is_ringless.nd rfl (Or.inl rfl))
      (pss_one (ps_if (pt_val (pe_callB (cr_all rfl) (by rfl) Z_all (by decide +kernel) (pa_cons (pe_lc (own := [("to", 6)]) (g := gName 6) (tt := tYes) (by rfl) sc_is_ringless.nd (pi_list (pe_cal C_leads (hr.mono (by decide)) (by rfl) (pa_cons (pv 0) (pa_cons (pv 5) pa_nil)))) (blkOk_by (own := [("to", 6)]) (N := N_is_ringless) (sc := defScope s_is_ringless) (by decide +kernel)) (fun _ _ _ _ _ => (pg_name (i := 6) sc_is_ringless.nd rfl (Or.inl rfl))) (fun _ _ _ _ _ => pts_nil) (fun _ _ _ _ _ => by exact (pe_cmp (pc_din hu (pv 6) (pv 2))))) pa_nil)))
      (pss_one (ps_dput hu (pv 2) (pv 5) pe_bl rfl))
      (pss_one (ps_expr (pe_bm PySem.F.plainAttrs_list PySem.F.slot_list_append PySem.F.type_list_append mt_append (pv 4) (pa_cons (pv 5) pa_nil)))))))
      (pss_cons (ps_set (i := 3) sc_is_ringless.nd rfl (Or.inl rfl) (pe_cmpR op_lt (pe_callB call_lenA (by rfl) Z_len (by decide +kernel) (pa_cons (pv 4) pa_nil)) (pe_callB call_lenA (by rfl) Z_len (by decide +kernel) (pa_cons (pv 1) pa_nil)) (nomark _)))
      (pss_one (ps_set (i := 1) sc_is_ringless.nd rfl (Or.inl rfl) (pv 4)))))))
      (pss_one (ps_ret (pe_cmpR op_eq (pe_callB call_lenA (by rfl) Z_len (by decide +kernel) (pa_cons (pv 1) pa_nil)) pe_int (nomark _)))))))), ?_⟩
    walk_at "go"
    refine x_fld K_Work N1 ha hfn ?_
    walk_at "go"
    refine x_listT (SqT.of hn) fun l0 hl0 => ?_
    walk_at "go"
    intro st hst
    have nl0 : l0 ≠ st := ne_of_none upd_same hst
    have hst0 : H st = none := by rw [upd_ne nl0.symm] at hst; exact hst
    walk_at "go"
    refine lpWv (fun m σ H' => ∃ lA g rest name lf stl, σ = [some (.ref a), some (.ref lA), some (.ref st), some (.bl g), rest, name, none] ∧ L2.Same H H' ∧ H lA = none ∧ lA ≠ st ∧ H' lA = some (.lst (strsV lf)) ∧ H' st = some (.dK (strK V.bl stl)) ∧
      (∀ z ∈ lf, z ∈ ns) ∧ lf.length ≤ 100 ∧ stl.length + m * 100 ≤ 10100 ∧ ((g = true ∧ lf.length < m ∧ rlRun (leadOf tab) m lf stl = rlRun (leadOf tab) (ns.length + 1) ns []) ∨ (g = false ∧ lf = rlRun (leadOf tab) (ns.length + 1) ns []))) (m := ns.length + 1) ?_ ?_
    · refine ⟨l0, true, _, _, ns, [], rfl, same_upd (same_new hl0) hst0, hl0, nl0, by rw [upd_ne nl0]; exact upd_same, upd_same, fun z hz => hz, hlen, by simp; omega, .inl ⟨rfl, Nat.lt_succ_self _, rfl⟩⟩
    · rintro m σ H1 ⟨lA, g, rest, name, lf, stl, rfl, s1, hlA, nlA, h1l, h1s, hsub, hlf, hm, hcase⟩
      refine ⟨g, rfl, ?_⟩
      rcases hcase with ⟨rfl, hlt, hR⟩ | ⟨rfl, hR⟩
      · refine x_T ?_
        obtain ⟨m', rfl⟩ : ∃ k, m = k + 1 := ⟨m - 1, by omega⟩
        walk_at "go"
        refine ⟨sz_le (by simp), fun rA hrA => ?_⟩
        have nrl : lA ≠ rA := ne_of_none h1l hrA
        have nrs : st ≠ rA := ne_of_none h1s hrA
        have hrA0 := s1.free hrA
        walk_at "go"
        refine lpL (xs := strsV lf) (fun i σ H' => ∃ name, σ = [some (.ref a), some (.ref lA), some (.ref st), some (.bl true), some (.ref rA), name, none] ∧ L2.Same H H' ∧ H' lA = some (.lst (strsV lf)) ∧
          H' st = some (.dK (strK V.bl (rlPass (leadOf tab) (lf.take i) stl).1)) ∧ H' rA = some (.lst (strsV (rlPass (leadOf tab) (lf.take i) stl).2)) ∧ (rlPass (leadOf tab) (lf.take i) stl).1.length ≤ stl.length + i ∧ (rlPass (leadOf tab) (lf.take i) stl).2.length ≤ i ∧
          ∀ z ∈ (rlPass (leadOf tab) (lf.take i) stl).2, z ∈ ns) (SqL.of (by rw [upd_ne nrl]; exact h1l)) ?_ ?_ ?_ ?_
        · exact ⟨_, rfl, same_upd s1 hrA0, by rw [upd_ne nrl]; exact h1l, by rw [upd_ne nrs]; exact h1s, upd_same, by simp [rlPass], by simp [rlPass], by simp [rlPass]⟩
        · exact fun i σ H' _ ⟨_, _, _, h, _⟩ => SqL.of h
        · rintro i y σ H2 hy ⟨name, rfl, s2, h2l, h2s, h2r, b1, b2, b3⟩
          rw [List.getElem?_map] at hy
          cases hz : lf[i]? with
          | none => rw [hz] at hy; cases hy
          | some z =>
            rw [hz] at hy
            have ex : V.str z = y := Option.some.inj hy
            subst ex
            have hi : i < lf.length := (List.getElem?_eq_some_iff.mp hz).1
            have hzn : z ∈ ns := hsub z (List.mem_of_getElem? hz)
            obtain ⟨x, hx, hgx⟩ := hg z hzn
            have elead : leadOf tab z = leadsL x := by
              unfold leadOf
              rw [hx]
              rfl
            have estep : rlPass (leadOf tab) (lf.take (i + 1)) stl = rlStep (leadOf tab) (rlPass (leadOf tab) (lf.take i) stl) z := by
              unfold rlPass
              rw [take_succ_get hz, List.foldl_append]
              rfl
            rw [estep]
            generalize rlPass (leadOf tab) (lf.take i) stl = pp at h2s h2r b1 b2 b3 ⊢
            obtain ⟨p1, p2⟩ := pp
            walk_at "go"
            refine ⟨a, dx, t, fs, tab, z, x, h, nm, rfl, s2 _ _ ha, hft, hT.same s2, hx, hgx, fun H3 q3 s3 hq3 hq33 => runL (SqL.of hq33) fun D hD => ?_⟩
            have ll := leads_len hgx
            have nqD : q3 ≠ D := ne_of_none hq33 hD
            have hD2 := s3.free hD
            have h3s := s3 _ _ h2s
            have h3r := s3 _ _ h2r
            have h3l := s3 _ _ h2l
            refine lcL (xs := strsV (leadsL x)) (fun j H' => L2.Same H3 H' ∧ H' D = some (.lst ((((leadsL x).take j).map fun y => (p1.lookup y).isSome).map V.bl))) ?_ ?_ ?_ ?_
            · exact ⟨same_new hD, upd_same⟩
            · exact fun j H' _ h => SqL.of (h.1 _ _ hq33)
            · rintro j y H4 hy ⟨s4, hD4⟩
              rw [List.getElem?_map] at hy
              cases hw : (leadsL x)[j]? with
              | none => rw [hw] at hy; cases hy
              | some u =>
                rw [hw] at hy
                have ex : V.str u = y := Option.some.inj hy
                subst ex
                have hj : j < (leadsL x).length := (List.getElem?_eq_some_iff.mp hw).1
                walk_at "go"
                refine ⟨rfl, ?_⟩
                walk_at "go"
                refine x_inD (l := p1) (.inl (s4 _ _ h3s)) ?_
                refine ⟨_, hD4, sz_lt (by simp; omega), same_upd s4 hD, ?_⟩
                rw [upd_same, take_succ_get hw]
                simp
            · rintro H4 ⟨s4, hD4⟩
              rw [List.length_map, List.take_length] at hD4
              have s34 : L2.Same H2 H4 := s3.trans s4
              walk_at "go"
              refine ⟨D, _, rfl, SqL.of hD4, ?_⟩
              have eall : (List.map (fun y => (p1.lookup y).isSome) (leadsL x)).all id = (leadOf tab z).all fun t => (p1.lookup t).isSome := by
                rw [elead, List.all_map]
                rfl
              rw [eall]
              walk_at "go"
              refine x_ite (fun hall => ?_) (fun hall => ?_)
              · have e2 : rlStep (leadOf tab) (p1, p2) z = (putL p1 z true, p2) := if_pos hall
                rw [e2]
                walk_at "go"
                refine x_putL (s34 _ _ h2s) (by have : p1.length ≤ stl.length + i := b1; omega) rfl ?_
                walk_at "go"
                refine ⟨_, rfl, same_upd (s2.trans s34) hst0, by rw [upd_ne nlA]; exact s34 _ _ h2l, upd_same, by rw [upd_ne nrs.symm]; exact s34 _ _ h2r, ?_, Nat.le_succ_of_le b2, b3⟩
                have := putL_len p1 z true
                have b1' : p1.length ≤ stl.length + i := b1
                show (putL p1 z true).length ≤ stl.length + (i + 1)
                omega
              · have e2 : rlStep (leadOf tab) (p1, p2) z = (p1, p2 ++ [z]) := if_neg (by rw [hall]; exact Bool.false_ne_true)
                rw [e2]
                walk_at "go"
                refine x_tyL (SqL.of (s34 _ _ h2r)) ?_
                walk_at "go"
                refine x_app (s34 _ _ h2r) (sz_lt (by have : p2.length ≤ i := b2; simp; omega)) ?_
                walk_at "go"
                refine ⟨_, rfl, same_upd (s2.trans s34) hrA0, by rw [upd_ne nrl]; exact s34 _ _ h2l, by rw [upd_ne nrs]; exact s34 _ _ h2s, by rw [upd_same]; simp, Nat.le_succ_of_le b1, ?_, ?_⟩
                · have b2' : p2.length ≤ i := b2
                  show (p2 ++ [z]).length ≤ i + 1
                  simp
                  omega
                · intro u hu2
                  rcases List.mem_append.mp hu2 with hu2 | hu2
                  · exact b3 u hu2
                  · rw [List.mem_singleton.mp hu2]
                    exact hzn
        · rintro σ H2 ⟨name, rfl, s2, h2l, h2s, h2r, b1, b2, b3⟩
          rw [List.length_map, List.take_length] at h2s h2r b1 b2 b3
          walk_at "go"
          have hR2 : (if (rlPass (leadOf tab) lf stl).2.length < lf.length then rlRun (leadOf tab) m' (rlPass (leadOf tab) lf stl).2 (rlPass (leadOf tab) lf stl).1 else (rlPass (leadOf tab) lf stl).2) = rlRun (leadOf tab) (ns.length + 1) ns [] := hR
          generalize rlPass (leadOf tab) lf stl = pp at h2s h2r b1 b2 b3 hR2
          obtain ⟨p1, p2⟩ := pp
          have ed : decide (((strsV p2).length : Int) < ((strsV lf).length : Int)) = decide (p2.length < lf.length) := decide_eq_decide.mpr (by rw [List.length_map, List.length_map]; omega)
          refine ⟨m', Nat.lt_succ_self _, rA, _, _, _, p2, p1, rfl, s2, hrA0, nrs.symm, h2r, h2s, b3, by have b2' : p2.length ≤ lf.length := b2; omega, by have b1' : p1.length ≤ stl.length + lf.length := b1; omega, ?_⟩
          rw [ed]
          by_cases hlt2 : p2.length < lf.length
          · rw [if_pos hlt2] at hR2
            exact .inl ⟨decide_eq_true hlt2, by omega, hR2⟩
          · rw [if_neg hlt2] at hR2
            exact .inr ⟨decide_eq_false hlt2, hR2⟩
      · refine x_F ?_
        walk_at "go"
        have e : decide (((strsV lf).length : Int) = 0) = ringB tab ns := by
          unfold ringB
          rw [← hR]
          exact decide_eq_decide.mpr (by rw [List.length_map]; omega)
        rw [e]
        exact q _ s1
end
/-! ### a work as an object -/
def wkF (h : Int) (st : Str) (t n e : Addr) (r : Bool) : List (Str × V) := putF "ringless" (.bl r) (putF "ends" (.ref e) (putF "names" (.ref n) (putF "table" (.ref t) (putF "start" (.str st) (putF "hands" (.int h) [])))))
def isFin : Sd → Bool
  | .fin => true
  | _ => false
def finAt (tab : List (Str × Sd)) (z : Str) : Bool := ((tab.lookup z).map isFin).getD false
/-- the same stands, all in order -/
structure TabSort (l l' : List (Str × Sd)) : Prop where
  pm : (l'.map (·.1)).Perm (l.map (·.1))
  so : sortedS (l'.map (·.1)) = true
  sd : ∀ z x', l'.lookup z = some x' → ∃ x, l.lookup z = some x ∧ SdSort x x'
/-- a work stands at p, l its table -/
structure WorkAt (C : Addr) (H : Hp) (p : Addr) (h : Int) (st : Str) (l : List (Str × Sd)) : Prop where
  ex : ∃ dx t n e, H p = some (.ins C dx (wkF h st t n e (ringB l (l.map (·.1))))) ∧ DictOf SdAt H t l ∧ H n = some (.tup (strsV (l.map (·.1)))) ∧ H e = some (.tup (strsV ((l.map (·.1)).filter (finAt l))))
theorem WorkAt.same {C : Addr} {H H' : Hp} {p : Addr} {h : Int} {st : Str} {l : List (Str × Sd)} (w : WorkAt C H p h st l) (s : L2.Same H H') : WorkAt C H' p h st l := by
  obtain ⟨dx, t, n, e, h1, h2, h3, h4⟩ := w.ex
  exact ⟨dx, t, n, e, s _ _ h1, h2.same s, s _ _ h3, s _ _ h4⟩
theorem GoodSd.sort {h : Int} {ns : List Str} {x x' : Sd} (g : GoodSd h ns x) (s : SdSort x x') : GoodSd h ns x' := by
  cases x with
  | fin => cases x' with
    | fin => trivial
    | chance _ => cases s
    | hand _ _ => cases s
  | chance l => cases x' with
    | fin => cases s
    | hand _ _ => cases s
    | chance l' =>
      obtain ⟨g1, g2, g3, g4⟩ := g
      obtain ⟨p, _⟩ := s
      have e := p.length_eq
      exact ⟨(List.Perm.nodup_iff (p.map _)).mpr g1, by omega, by omega, fun q hq => g4 q (p.mem_iff.mp hq)⟩
  | hand k l => cases x' with
    | fin => cases s
    | chance _ => cases s
    | hand k' l' =>
      obtain ⟨g0, g1, g2, g3, g4, g5⟩ := g
      obtain ⟨rfl, p, _⟩ := s
      have e := p.length_eq
      exact ⟨g0, g1, (List.Perm.nodup_iff (p.map _)).mpr g2, by omega, by omega, fun q hq => g5 q (p.mem_iff.mp hq)⟩
theorem GoodSd.perm {h : Int} {ns ns' : List Str} {x : Sd} (g : GoodSd h ns x) (p : ∀ z ∈ ns, z ∈ ns') : GoodSd h ns' x := by
  cases x with
  | fin => trivial
  | chance l => exact ⟨g.1, g.2.1, g.2.2.1, fun q hq => ⟨(g.2.2.2 q hq).1, p _ (g.2.2.2 q hq).2.1, (g.2.2.2 q hq).2.2⟩⟩
  | hand k l => exact ⟨g.1, g.2.1, g.2.2.1, g.2.2.2.1, g.2.2.2.2.1, fun q hq => ⟨(g.2.2.2.2.2 q hq).1, p _ (g.2.2.2.2.2 q hq).2⟩⟩
theorem TabSort.good {h : Int} {l l' : List (Str × Sd)} (g : GoodT h l) (s : TabSort l l') : GoodT h l' where
  nd := (List.Perm.nodup_iff s.pm).mpr g.nd
  l1 := by
    have := s.pm.length_eq
    rw [List.length_map, List.length_map] at this
    have := g.l1
    omega
  l2 := by
    have := s.pm.length_eq
    rw [List.length_map, List.length_map] at this
    have := g.l2
    omega
  nm := fun z hz => g.nm z (s.pm.mem_iff.mp hz)
  sd := fun z x' hz => by
    obtain ⟨x, hx, hs⟩ := s.sd z x' hz
    exact ((g.sd z x hx).sort hs).perm fun z hz => s.pm.mem_iff.mpr hz
theorem pair_not_sd {H : Hp} {b : Addr} {v : Str × Int} {y : Sd} (h1 : PairAt H b v) (h2 : SdAt H b y) : False := by
  have e1 : H b = some (.tup [.str v.1, .int v.2]) := h1
  cases y with
  | fin =>
    rw [show H b = some (.tup [.str "end"]) from h2] at e1
    simp at e1
  | chance l =>
    obtain ⟨d, h3, _⟩ := h2
    rw [h3] at e1
    simp at e1
  | hand k l =>
    obtain ⟨d, h3, _⟩ := h2
    rw [h3] at e1
    simp at e1
theorem sd_wo {H : Hp} {D a : Addr} {x : Sd} {h : Int} {ns : List Str} (h1 : ∀ xs, H D ≠ some (.tup xs)) (h2 : ∀ l : List (Str × Str), l ≠ [] → H D ≠ some (.dK (strK V.str l))) (h3 : ∀ l : List (Str × (Str × Int)), l ≠ [] → ¬ DictOf PairAt H D l)
    (hx : SdAt H a x) (hg : GoodSd h ns x) : SdAt (wo H D) a x := by
  cases x with
  | fin =>
    have ha : H a = some (.tup [.str "end"]) := hx
    have n1 : a ≠ D := fun e => by rw [e] at ha; exact h1 _ ha
    show wo H D a = _
    rw [wo_ne n1]
    exact ha
  | chance l =>
    obtain ⟨d2, ha, hD⟩ := hx
    have hl : l ≠ [] := fun e => by
      rw [e] at hg
      exact absurd hg.2.1 (by decide)
    have n1 : a ≠ D := fun e => by rw [e] at ha; exact h1 _ ha
    have n2 : d2 ≠ D := fun e => by rw [e] at hD; exact h3 _ hl hD
    obtain ⟨m2, g1, g2, g3⟩ := hD.ex
    refine ⟨d2, by rw [wo_ne n1]; exact ha, ⟨m2, by rw [wo_ne n2]; exact g1, g2, fun z b hzb => ?_⟩⟩
    obtain ⟨y, hy, hp⟩ := g3 _ _ hzb
    have hp1 : H b = some (.tup [.str y.1, .int y.2]) := hp
    refine ⟨y, hy, ?_⟩
    have n3 : b ≠ D := fun e => by rw [e] at hp1; exact h1 _ hp1
    show wo H D b = _
    rw [wo_ne n3]
    exact hp1
  | hand k l =>
    obtain ⟨d2, ha, hd⟩ := hx
    have hl : l ≠ [] := fun e => by
      rw [e] at hg
      exact absurd hg.2.2.2.1 (by decide)
    have n1 : a ≠ D := fun e => by rw [e] at ha; exact h1 _ ha
    have n2 : d2 ≠ D := fun e => by rw [e] at hd; exact h2 _ hl hd
    exact ⟨d2, by rw [wo_ne n1]; exact ha, by rw [wo_ne n2]; exact hd⟩
/-- D is a table of stands or is to become one -/
theorem sd_woT {H : Hp} {D a : Addr} {x : Sd} {h : Int} {ns : List Str} {m : List (Str × Addr)} (hd : H D = some (.dK (strK V.ref m))) (hm : ∀ z b, (z, b) ∈ m → ∃ y, SdAt H b y) (hx : SdAt H a x) (hg : GoodSd h ns x) : SdAt (wo H D) a x := by
  refine sd_wo (fun xs e => ?_) (fun l hl e => ?_) (fun l hl hD => ?_) hx hg
  · rw [hd] at e
    cases e
  · rw [hd] at e
    have e1 := HO.dK.inj (Option.some.inj e)
    cases l with
    | nil => exact hl rfl
    | cons p r =>
      cases m with
      | nil => cases e1
      | cons p' r' =>
        have e2 : ((Sum.inr p'.1 : Key), V.ref p'.2) :: strK V.ref r' = ((Sum.inr p.1 : Key), V.str p.2) :: strK V.str r := e1
        injection e2 with e3 _
        injection e3 with _ e4
        cases e4
  · obtain ⟨m2, g1, g2, g3⟩ := hD.ex
    rw [hd] at g1
    have e1 := strK_inj (f := V.ref) (fun a b e => by cases e; rfl) (HO.dK.inj (Option.some.inj g1))
    subst e1
    cases m with
    | nil =>
      cases l with
      | nil => exact hl rfl
      | cons p r => cases g2
    | cons p r =>
      obtain ⟨v, _, hv⟩ := g3 p.1 p.2 List.mem_cons_self
      obtain ⟨y, hy⟩ := hm p.1 p.2 List.mem_cons_self
      exact pair_not_sd hv hy
theorem sd_woI {H : Hp} {D a C dx : Addr} {fs : List (Str × V)} {x : Sd} {h : Int} {ns : List Str} (hd : H D = some (.ins C dx fs)) (hx : SdAt H a x) (hg : GoodSd h ns x) : SdAt (wo H D) a x := by
  refine sd_wo (fun xs e => ?_) (fun l hl e => ?_) (fun l hl hD => ?_) hx hg
  · rw [hd] at e
    cases e
  · rw [hd] at e
    cases e
  · obtain ⟨m2, g1, _⟩ := hD.ex
    rw [hd] at g1
    cases g1
/-- a table without an object's place -/
theorem tab_woI {H : Hp} {D t C dx : Addr} {fs : List (Str × V)} {l : List (Str × Sd)} {h : Int} (hd : H D = some (.ins C dx fs)) (hT : DictOf SdAt H t l) (hg : ∀ z x, l.lookup z = some x → ∃ ns, GoodSd h ns x) : DictOf SdAt (wo H D) t l := by
  obtain ⟨m, h1, h2, h3⟩ := hT.ex
  have n1 : t ≠ D := ne_of h1 hd (by intro z; cases z)
  refine ⟨m, by rw [wo_ne n1]; exact h1, h2, fun z a hza => ?_⟩
  obtain ⟨x, hx, hs⟩ := h3 _ _ hza
  obtain ⟨ns, g⟩ := hg _ _ hx
  exact ⟨x, hx, sd_woI hd hs g⟩
def spWorkInit (C : Addr) : Sp := fun vs H Q _ => ∃ (s d dx : Addr) (h : Int) (st : Str) (l : List (Str × Sd)), vs = [.ref s, .int h, .str st, .ref d] ∧ H s = some (.ins C dx []) ∧ DictOf SdAt H d l ∧ GoodT h l ∧ 1 ≤ h ∧ h ≤ 4 ∧ st ∈ l.map (·.1) ∧
  ∀ H' l', (∀ b o, H b = some o → b ≠ s → H' b = some o) → TabSort l l' → WorkAt C H' s h st l' → Q .non H'
theorem lookup_snoc {α : Type} {l : List (Str × α)} {z y : Str} {x : α} (hz : z ∉ l.map (·.1)) : (l ++ [(z, x)]).lookup y = if y = z then some x else l.lookup y := by
  rw [List.lookup_append]
  by_cases e : y = z
  · subst e
    rw [if_pos rfl, lookup_none hz]
    simp
  · rw [if_neg e]
    cases hl : l.lookup y with
    | some v => rfl
    | none =>
      have e2 : (y == z) = false := by simpa using e
      simp [List.lookup, e2]
section
variable {P : Program} {w : World} {K : PySem.W.Frag} {mg : Str → Option Value} {base : Heap} {CW : Addr}
theorem ok_Work_init {f : Addr} {fd : FuncData} (F : Fun K "__init__" "Work.__init__" s_Work_init f fd) (K_Work : Cls K CW) (N1 : NoAttr K CW "hands") (N2 : NoAttr K CW "start") (N3 : NoAttr K CW "table") (N4 : NoAttr K CW "names") (N5 : NoAttr K CW "ends") (N6 : NoAttr K CW "ringless")
    (Z_sorted : mg "sorted" = none) (Z_tuple : mg "tuple" = none)
    (C_is_integer : Cal P w K mg base 1 "is_integer" ["thing"] (spIsInt K)) (C_is_name : Cal P w K mg base 1 "is_name" ["thing"] (spIsName K)) (C_are_stands : Cal P w K mg base 4 "are_stands" ["thing", "hands"] spAreStands)
    (C_copied : Cal P w K mg base 1 "copied" ["stand"] spCopied) (C_is_ringless : Cal P w K mg base 2 "is_ringless" ["work"] (spRingless CW)) : FnOk P w K mg base CX0 5 f fd ["self", "hands", "start", "stands"] (spWorkInit CW) := by
  refine F.ok sc_Work_init (fun vs H Q E h => ?_) (fun cdv A outer s H vs Q E hr h => ?_)
  · obtain ⟨_, _, _, _, _, _, rfl, _⟩ := h
    rfl
  · obtain ⟨a, d, dx, h, st, l, rfl, ha, hD, g, h1, h4, hst, k⟩ := h
    have hu := hu_of hr
    refine ⟨_, (pss_cons (ps_if (PW.pt (pw_or (pt_not (pt_val (pe_cal C_is_integer (hr.mono (by decide)) (by rfl) (pa_cons (pv 1) pa_nil)))) (pw_or1 (pt_not (pt_chain op_le op_le pe_int (pv 1) pe_int)))))
      (pss_one ps_never)
      pss_nil)
      (pss_cons (ps_if (pt_not (pt_val (pe_cal C_are_stands (hr.mono (by decide)) (by rfl) (pa_cons (pv 3) (pa_cons (pv 1) pa_nil)))))
      (pss_one ps_never)
      pss_nil)
      (pss_cons (ps_if (PW.pt (pw_or (pt_not (pt_val (pe_cal C_is_name (hr.mono (by decide)) (by rfl) (pa_cons (pv 2) pa_nil)))) (pw_or1 (pt_cmp (pc_dnotin hu (pv 2) (pv 3))))))
      (pss_one ps_never)
      pss_nil)
      (pss_cons (ps_fld (pv 0) (pv 1) rfl)
      (pss_cons (ps_fld (pv 0) (pv 2) rfl)
      (pss_cons (ps_fld (pv 0) (pe_dc (own := [("name", 4)]) (g := gName 4) (tt := tYes) (by rfl) sc_Work_init.nd (pi_list (pe_callB (call_sortedDA rfl) (by rfl) Z_sorted (by decide +kernel) (pa_cons (pv 3) pa_nil))) (blkOk_by (own := [("name", 4)]) (N := N_Work_init) (sc := defScope s_Work_init) (by decide +kernel)) (fun _ _ _ _ _ => (pg_name (i := 4) sc_Work_init.nd rfl (Or.inl rfl))) (fun _ _ _ _ _ => pts_nil) (fun _ _ _ _ _ => by exact (pv 4)) (fun _ _ _ _ _ => by exact (pe_cal C_copied (hr.mono (by decide)) (by rfl) (pa_cons (pe_dget hu (pv 3) (pv 4) (fun _ _ => rfl)) pa_nil)))) rfl)
      (pss_cons (ps_fld (pv 0) (pe_callTy call_tupleA (by rfl) Z_tuple (by decide +kernel) (pa_cons (pe_callB (call_sortedDA rfl) (by rfl) Z_sorted (by decide +kernel) (pa_cons (pv 3) pa_nil)) pa_nil)) rfl)
      (pss_cons (ps_fld (pv 0) (pe_callTy call_tupleA (by rfl) Z_tuple (by decide +kernel) (pa_cons (pe_lc (own := [("name", 4)]) (g := gName 4)  (by rfl) sc_Work_init.nd (pi_tup (pe_fld (pv 0) rfl)) (blkOk_by (own := [("name", 4)]) (N := N_Work_init) (sc := defScope s_Work_init) (by decide +kernel)) (fun _ _ _ _ _ => (pg_name (i := 4) sc_Work_init.nd rfl (Or.inl rfl))) (fun _ _ _ _ _ => by exact (pts_one (pt_cmpR op_eq (pe_ix (ix_tupK (K := K)) (pe_dget hu (pe_fldK (K := K) (pv 0) (by rfl)) (pv 4) (fun _ _ => rfl)) pe_int (fun _ _ => rfl)) pe_str (nomark _)))) (fun _ _ _ _ _ => by exact (pv 4))) pa_nil)) rfl)
      (pss_one (ps_fld (pv 0) (pe_cal C_is_ringless (hr.mono (by decide)) (by rfl) (pa_cons (pv 0) pa_nil)) rfl)))))))))), ?_⟩
    walk_at "go"
    refine ⟨_, _, rfl, .int _, ?_⟩
    walk_at "go"
    refine x_nT ?_
    walk_at "go"
    refine x_yes (by omega) ?_
    walk_at "go"
    refine x_nyes (by omega) ?_
    walk_at "go"
    refine ⟨d, h, l, rfl, hD, g, fun H1 s1 => ?_⟩
    walk_at "go"
    refine x_name (g.nm _ hst) ?_
    walk_at "go"
    have hD1 := hD.same s1
    obtain ⟨m, hd, hk, hp⟩ := id hD1.ex
    refine x_ninD (l := m) (.inl hd) ?_
    rw [keyIn (by rw [hk]; exact hst)]
    refine ⟨false, rfl, x_F ?_⟩
    walk_at "go"
    have ha1 := s1 _ _ ha
    have hD0 : DictOf SdAt (wo H1 a) d l := tab_woI ha1 hD1 fun z x hz => ⟨_, g.sd z x hz⟩
    refine x_sf K_Work N1 ha1 (by decide) ?_
    walk_at "go"
    refine x_sf K_Work N2 upd_same (len_put (show ([] : List (Str × V)).length < 999 by decide)) ?_
    rw [upd_upd]
    walk_at "go"
    have sA : L2.Same (wo H1 a) (upd H1 a (.ins CW dx (putF "start" (.str st) (putF "hands" (.int h) [])))) := same_wo (L2.Same.refl _)
    have hA : upd H1 a (.ins CW dx (putF "start" (.str st) (putF "hands" (.int h) []))) a = some (.ins CW dx (putF "start" (.str st) (putF "hands" (.int h) []))) := upd_same
    generalize upd H1 a (.ins CW dx (putF "start" (.str st) (putF "hands" (.int h) []))) = H2 at sA hA ⊢
    have hD2 := hD0.same sA
    obtain ⟨m, hd, hk, hp⟩ := id hD2.ex
    have ek : (strK V.ref m).map (·.1) = (m.map (·.1)).map Sum.inr := by rw [List.map_map, List.map_map]; rfl
    have g2 := g.l2
    have hml : m.length = l.length := by
      have := congrArg List.length hk
      rwa [List.length_map, List.length_map] at this
    refine ⟨d, _, m.map (·.1), rfl, .inl hd, ek, by rw [List.length_map]; omega, fun ys q hperm hsort hq => runL (SqL.of upd_same) fun D hD => ?_⟩
    rw [hk] at hperm
    have hqD : q ≠ D := ne_of_none upd_same hD
    have hDn : H2 D = none := by rw [upd_ne hqD.symm] at hD; exact hD
    have ynd : ys.Nodup := (hperm.nodup_iff).mpr g.nd
    have ylen : ys.length = l.length := by rw [hperm.length_eq, List.length_map]
    refine dcL (xs := ys.map V.str) (fun i H' => L2.Same H2 H' ∧ H' q = some (.lst (ys.map V.str)) ∧ ∃ (l' : List (Str × Sd)) (m' : List (Str × Addr)), H' D = some (.dK (strK V.ref m')) ∧ m'.map (·.1) = ys.take i ∧ l'.map (·.1) = ys.take i ∧
      (∀ z b, (z, b) ∈ m' → ∃ x', l'.lookup z = some x' ∧ SdAt (wo H' D) b x') ∧ ∀ z x', l'.lookup z = some x' → ∃ x, l.lookup z = some x ∧ SdSort x x') ?_ ?_ ?_ ?_
    · exact ⟨same_upd (same_new hq) hDn, by rw [upd_ne hqD]; exact upd_same, [], [], upd_same, by simp, by simp, by simp, by simp⟩
    · exact fun t H' _ h => SqL.of h.2.1
    · rintro i y H3 hy ⟨s3, hq3, l', m', hD3, km, kl, hm3, hs3⟩
      rw [List.getElem?_map] at hy
      cases hz : ys[i]? with
      | none => rw [hz] at hy; cases hy
      | some z =>
        rw [hz] at hy
        have ex : V.str z = y := Option.some.inj hy
        subst ex
        have hi : i < ys.length := (List.getElem?_eq_some_iff.mp hz).1
        have hzl : z ∈ l.map (·.1) := hperm.mem_iff.mp (List.mem_of_getElem? hz)
        have hzt : z ∉ ys.take i := fun hm => by
          obtain ⟨j, hj, he⟩ := List.getElem_of_mem hm
          have hj2 : j < i := by simp at hj; omega
          have h5 : ys[j]? = some z := by
            rw [List.getElem_take] at he
            rw [List.getElem?_eq_getElem (by omega), he]
          have := L2.nd_ix ynd h5 hz
          omega
        obtain ⟨x, hx⟩ := lookup_isSome hzl
        obtain ⟨m2, b, hd2, hb, hbx⟩ := hD2.at hx
        have gx := g.sd z x hx
        walk_at "go"
        refine ⟨rfl, ?_⟩
        walk_at "go"
        refine x_getL (l := m2) (.inl (s3 _ _ hd2)) hb ?_
        walk_at "go"
        refine ⟨b, x, h, _, rfl, hbx.same s3, gx, fun H4 p x' s4 hp4 hpx hsx => ?_⟩
        have hD4 := s4 _ _ hD3
        have hm4 : ∀ z b, (z, b) ∈ m' → ∃ y, SdAt H4 b y := fun z b hzb => by
          obtain ⟨y, _, hy⟩ := hm3 _ _ hzb
          exact ⟨y, hy.same (wo_same.trans s4)⟩
        refine ⟨_, Sum.inr z, rfl, hD4, sz_lt (by rw [List.length_map]; have := congrArg List.length km; simp at this; omega), same_upd (s3.trans s4) hDn, by rw [upd_ne hqD]; exact s4 _ _ hq3, l' ++ [(z, x')], m' ++ [(z, p)], ?_, ?_, ?_, ?_, ?_⟩
        · rw [upd_same, strK_put, putL_new]
          rw [km]
          exact hzt
        · rw [List.map_append, km, take_succ_get hz]
          rfl
        · rw [List.map_append, kl, take_succ_get hz]
          rfl
        · intro y c hyc
          rw [wo_upd]
          rw [lookup_snoc (by rw [kl]; exact hzt)]
          rcases List.mem_append.mp hyc with hyc1 | hyc1
          · have hne : y ≠ z := fun e => by
              subst e
              exact hzt (by rw [← km]; exact List.mem_map.mpr ⟨_, hyc1, rfl⟩)
            obtain ⟨v, hv, hv2⟩ := hm3 _ _ hyc1
            rw [if_neg hne]
            exact ⟨v, hv, hv2.same (wo_mono s4)⟩
          · have e := List.mem_singleton.mp hyc1
            injection e with e1 e2
            subst e1 e2
            rw [if_pos rfl]
            exact ⟨x', rfl, sd_woT hD4 hm4 hpx (gx.sort hsx)⟩
        · intro y v hv
          rw [lookup_snoc (by rw [kl]; exact hzt)] at hv
          by_cases e : y = z
          · subst e
            rw [if_pos rfl] at hv
            cases hv
            exact ⟨x, hx, hsx⟩
          · rw [if_neg e] at hv
            exact hs3 y v hv
    · rintro H3 ⟨s3, hq3, l', m', hD3, km, kl, hm3, hs3⟩
      rw [List.length_map, List.take_length] at km kl
      have T : TabSort l l' := ⟨by rw [kl]; exact hperm, by rw [kl]; exact hsort, hs3⟩
      have g' := T.good g
      have hT3 : DictOf SdAt H3 D l' := ⟨m', hD3, by rw [km, kl], fun z b hzb => by
        obtain ⟨v, hv, hv2⟩ := hm3 _ _ hzb
        exact ⟨v, hv, hv2.same wo_same⟩⟩
      have ha3 := s3 _ _ hA
      have hT3w : DictOf SdAt (wo H3 a) D l' := tab_woI ha3 hT3 fun z x hz => ⟨_, g'.sd z x hz⟩
      walk_at "go"
      refine x_sf K_Work N3 ha3 (len_put (len_put (show ([] : List (Str × V)).length < 998 by decide))) ?_
      have sB : L2.Same (wo H3 a) (upd H3 a (.ins CW dx (putF "table" (.ref D) (putF "start" (.str st) (putF "hands" (.int h) []))))) := same_wo (L2.Same.refl _)
      have hB : upd H3 a (.ins CW dx (putF "table" (.ref D) (putF "start" (.str st) (putF "hands" (.int h) [])))) a = some (.ins CW dx (putF "table" (.ref D) (putF "start" (.str st) (putF "hands" (.int h) [])))) := upd_same
      generalize upd H3 a (.ins CW dx (putF "table" (.ref D) (putF "start" (.str st) (putF "hands" (.int h) [])))) = H4 at sB hB ⊢
      have hd4 : H4 d = some (.dK (strK V.ref m)) := by
        have nda : d ≠ a := ne_of (s3 _ _ hd) ha3 (by intro z; cases z)
        exact sB _ _ (by rw [wo_ne nda]; exact s3 _ _ hd)
      walk_at "go"
      refine ⟨d, _, m.map (·.1), rfl, .inl hd4, ek, by rw [List.length_map]; omega, fun ys2 q2 hperm2 hsort2 hq2 => ?_⟩
      rw [hk] at hperm2
      have ey : ys2 = ys := sorted_one hsort2 hsort (hperm2.trans hperm.symm)
      rw [ey]
      walk_at "go"
      refine x_tupL (SqL.of upd_same) fun nA hnA => ?_
      have hq2A : q2 ≠ nA := ne_of_none upd_same hnA
      have hnA0 : H4 nA = none := by rw [upd_ne hq2A.symm] at hnA; exact hnA
      have sC : L2.Same H4 (upd (upd H4 q2 (.lst (ys.map V.str))) nA (.tup (ys.map V.str))) := same_upd (same_new hq2) hnA0
      have hC : (upd (upd H4 q2 (.lst (ys.map V.str))) nA (.tup (ys.map V.str))) nA = some (.tup (ys.map V.str)) := upd_same
      generalize upd (upd H4 q2 (.lst (ys.map V.str))) nA (.tup (ys.map V.str)) = H5 at sC hC ⊢
      walk_at "go"
      refine x_sf K_Work N4 (sC _ _ hB) (len_put (len_put (len_put (show ([] : List (Str × V)).length < 997 by decide)))) ?_
      have ha5 := sC _ _ hB
      have nAa : nA ≠ a := ne_of hC ha5 (by intro z; cases z)
      have sD : L2.Same (wo H3 a) (upd H5 a (.ins CW dx (putF "names" (.ref nA) (putF "table" (.ref D) (putF "start" (.str st) (putF "hands" (.int h) [])))))) := same_upd (sB.trans sC) wo_at
      have hDD : upd H5 a (.ins CW dx (putF "names" (.ref nA) (putF "table" (.ref D) (putF "start" (.str st) (putF "hands" (.int h) []))))) a = some (.ins CW dx (putF "names" (.ref nA) (putF "table" (.ref D) (putF "start" (.str st) (putF "hands" (.int h) []))))) := upd_same
      have hN6 : upd H5 a (.ins CW dx (putF "names" (.ref nA) (putF "table" (.ref D) (putF "start" (.str st) (putF "hands" (.int h) []))))) nA = some (.tup (ys.map V.str)) := by rw [upd_ne nAa]; exact hC
      generalize upd H5 a (.ins CW dx (putF "names" (.ref nA) (putF "table" (.ref D) (putF "start" (.str st) (putF "hands" (.int h) []))))) = H6 at sD hDD hN6 ⊢
      have hT6 := hT3w.same sD
      walk_at "go"
      have lkT : ∀ (fs : List (Str × V)), (putF "names" (.ref nA) (putF "table" (.ref D) fs)).lookup ("table" : Str) = some (.ref D) := fun fs => by
        rw [lookup_putF, if_neg (by decide +kernel), lookup_putF, if_pos rfl]
      have lkN : ∀ (fs : List (Str × V)), (putF "names" (.ref nA) fs).lookup ("names" : Str) = some (.ref nA) := fun fs => by
        rw [lookup_putF, if_pos rfl]
      refine x_fld K_Work N4 hDD (lkN _) ?_
      refine runT (SqT.of hN6) ?_
      intro E1 hE1
      refine lcT (xs := ys.map V.str) (fun i H' => L2.Same H6 H' ∧ H' E1 = some (.lst (((ys.take i).filter (finAt l')).map V.str))) ?_ ?_ ?_ ?_
      · exact ⟨same_new hE1, upd_same⟩
      · exact fun i H' _ h => SqT.of (h.1 _ _ hN6)
      · rintro i y H7 hy ⟨s7, hE7⟩
        rw [List.getElem?_map] at hy
        cases hz : ys[i]? with
        | none => rw [hz] at hy; cases hy
        | some z =>
          rw [hz] at hy
          have ex : V.str z = y := Option.some.inj hy
          subst ex
          have hi : i < ys.length := (List.getElem?_eq_some_iff.mp hz).1
          obtain ⟨x', hx'⟩ := lookup_isSome (l := l') (z := z) (by rw [kl]; exact List.mem_of_getElem? hz)
          obtain ⟨m2, b, hd2, hb, hbx⟩ := (hT6.same s7).at hx'
          have efin : finAt l' z = isFin x' := by
            unfold finAt
            rw [hx']
            rfl
          have efil : (ys.take (i + 1)).filter (finAt l') = (ys.take i).filter (finAt l') ++ (if isFin x' = true then [z] else []) := by
            rw [take_succ_get hz, List.filter_append]
            congr 1
            rw [List.filter_cons, efin]
            rfl
          have llen : ((ys.take i).filter (finAt l')).length ≤ 100 := Nat.le_trans (List.length_filter_le _ _) (by rw [List.length_take]; omega)
          rw [efil]
          walk_at "go"
          refine ⟨rfl, ?_⟩
          walk_at "go"
          refine x_fld K_Work N3 (s7 _ _ hDD) (lkT _) ?_
          walk_at "go"
          refine x_getL (l := m2) (.inl hd2) hb ?_
          walk_at "go"
          cases x' with
          | fin =>
            have hb1 : H7 b = some (.tup [.str "end"]) := hbx
            refine x_ixt 0 (SqT.of hb1) rfl rfl ?_
            walk_at "go"
            refine x_yes rfl ?_
            walk_at "go"
            refine ⟨_, hE7, sz_lt (by rw [List.length_map]; omega), same_upd s7 hE1, ?_⟩
            rw [upd_same]
            simp [isFin]
          | chance l2 =>
            obtain ⟨d2, hb1, _⟩ := hbx
            refine x_ixt 0 (SqT.of hb1) rfl rfl ?_
            walk_at "go"
            refine x_no (by decide +kernel) ?_
            refine ⟨s7, ?_⟩
            rw [hE7]
            simp [isFin]
          | hand k2 l2 =>
            obtain ⟨d2, hb1, _⟩ := hbx
            refine x_ixt 0 (SqT.of hb1) rfl rfl ?_
            walk_at "go"
            refine x_no (by decide +kernel) ?_
            refine ⟨s7, ?_⟩
            rw [hE7]
            simp [isFin]
      · rintro H7 ⟨s7, hE7⟩
        rw [List.length_map, List.take_length] at hE7
        walk_at "go"
        refine x_tupL (SqL.of hE7) fun eA heA => ?_
        have s8 : L2.Same H6 (upd H7 eA (.tup ((ys.filter (finAt l')).map V.str))) := s7.trans (same_new heA)
        have hE8 : (upd H7 eA (.tup ((ys.filter (finAt l')).map V.str))) eA = some (.tup ((ys.filter (finAt l')).map V.str)) := upd_same
        generalize upd H7 eA (.tup ((ys.filter (finAt l')).map V.str)) = H8 at s8 hE8 ⊢
        walk_at "go"
        refine x_sf K_Work N5 (s8 _ _ hDD) (len_put (len_put (len_put (len_put (show ([] : List (Str × V)).length < 996 by decide))))) ?_
        have ha8 := s8 _ _ hDD
        have eAa : eA ≠ a := ne_of hE8 ha8 (by intro z; cases z)
        have sE : L2.Same (wo H6 a) (upd H8 a (.ins CW dx (putF "ends" (.ref eA) (putF "names" (.ref nA) (putF "table" (.ref D) (putF "start" (.str st) (putF "hands" (.int h) []))))))) := same_wo s8
        have hE9 : upd H8 a (.ins CW dx (putF "ends" (.ref eA) (putF "names" (.ref nA) (putF "table" (.ref D) (putF "start" (.str st) (putF "hands" (.int h) [])))))) eA = some (.tup ((ys.filter (finAt l')).map V.str)) := by rw [upd_ne eAa]; exact hE8
        have hD9 : upd H8 a (.ins CW dx (putF "ends" (.ref eA) (putF "names" (.ref nA) (putF "table" (.ref D) (putF "start" (.str st) (putF "hands" (.int h) [])))))) a = some (.ins CW dx (putF "ends" (.ref eA) (putF "names" (.ref nA) (putF "table" (.ref D) (putF "start" (.str st) (putF "hands" (.int h) [])))))) := upd_same
        generalize upd H8 a (.ins CW dx (putF "ends" (.ref eA) (putF "names" (.ref nA) (putF "table" (.ref D) (putF "start" (.str st) (putF "hands" (.int h) [])))))) = H9 at sE hE9 hD9 ⊢
        have hT6w : DictOf SdAt (wo H6 a) D l' := tab_woI hDD hT6 fun z x hz => ⟨_, g'.sd z x hz⟩
        have hN9 : H9 nA = some (.tup (ys.map V.str)) := sE _ _ (by rw [wo_ne nAa]; exact hN6)
        walk_at "go"
        refine ⟨a, dx, D, nA, _, l', ys, h, l'.map (·.1), rfl, hD9, by rw [lookup_putF, if_neg (by decide +kernel)]; exact lkT _, by rw [lookup_putF, if_neg (by decide +kernel)]; exact lkN _, hT6w.same sE, hN9, by omega, fun z hz => ?_, fun H10 s10 => ?_⟩
        · obtain ⟨x, hx⟩ := lookup_isSome (l := l') (z := z) (by rw [kl]; exact hz)
          exact ⟨x, hx, g'.sd z x hx⟩
        walk_at "go"
        refine x_sf K_Work N6 (s10 _ _ hD9) (len_put (len_put (len_put (len_put (len_put (show ([] : List (Str × V)).length < 995 by decide)))))) ?_
        have sF : L2.Same (wo H9 a) (upd H10 a (.ins CW dx (wkF h st D nA eA (ringB l' ys)))) := same_wo s10
        refine k _ l' (fun b o e n => ?_) T ⟨⟨dx, D, nA, eA, ?_, ?_, ?_, ?_⟩⟩
        · have e1 : wo H1 a b = some o := by rw [wo_ne n]; exact s1 _ _ e
          have e2 := s3 _ _ (sA _ _ e1)
          have e3 : H6 b = some o := sD _ _ (by rw [wo_ne n]; exact e2)
          have e4 : H9 b = some o := sE _ _ (by rw [wo_ne n]; exact e3)
          exact sF _ _ (by rw [wo_ne n]; exact e4)
        · rw [kl]
          exact upd_same
        · exact (tab_woI hD9 (hT6w.same sE) fun z x hz => ⟨_, g'.sd z x hz⟩).same sF
        · rw [kl]
          exact sF _ _ (by rw [wo_ne nAa]; exact hN9)
        · rw [kl]
          exact sF _ _ (by rw [wo_ne eAa]; exact hE9)
end
def kindS : Sd → Str
  | .fin => "end"
  | .chance _ => "chance"
  | .hand _ _ => "hand"
theorem sd_tup {H : Hp} {a : Addr} {x : Sd} (h : SdAt H a x) : ∃ xs, H a = some (.tup xs) ∧ xs[0]? = some (.str (kindS x)) := by
  cases x with
  | fin => exact ⟨_, h, rfl⟩
  | chance l =>
    obtain ⟨d, h1, _⟩ := h
    exact ⟨_, h1, rfl⟩
  | hand k l =>
    obtain ⟨d, h1, _⟩ := h
    exact ⟨_, h1, rfl⟩
theorem kind_fin (x : Sd) : decide (kindS x = "end") = isFin x := by
  cases x with
  | fin => rfl
  | chance l => exact decide_eq_false (by show ¬ (("chance" : Str) = "end"); decide +kernel)
  | hand k l => exact decide_eq_false (by show ¬ (("hand" : Str) = "end"); decide +kernel)
/-! ### a drawn world -/
/-- a dict that is being built: what stands in it does not lean on the dict itself -/
structure DictW {α : Type} (R : Hp → Addr → α → Prop) (H : Hp) (d : Addr) (l : List (Str × α)) : Prop where
  ex : ∃ m : List (Str × Addr), H d = some (.dK (strK V.ref m)) ∧ m.map (·.1) = l.map (·.1) ∧ ∀ z a, (z, a) ∈ m → ∃ x, l.lookup z = some x ∧ R (wo H d) a x
def Mono {α : Type} (R : Hp → Addr → α → Prop) : Prop := ∀ H H' a x, L2.Same H H' → R H a x → R H' a x
theorem monoP : Mono PairAt := fun _ _ _ _ s h => s _ _ h
theorem monoS : Mono SdAt := fun _ _ _ _ s h => h.same s
section
variable {α : Type} {R : Hp → Addr → α → Prop} {H H' : Hp} {d p : Addr} {l : List (Str × α)}
theorem DictW.of (M : Mono R) (h : DictW R H d l) : DictOf R H d l := by
  obtain ⟨m, h1, h2, h3⟩ := h.ex
  refine ⟨m, h1, h2, fun z a hza => ?_⟩
  obtain ⟨x, e, r⟩ := h3 z a hza
  exact ⟨x, e, M _ _ _ _ wo_same r⟩
theorem DictW.same (M : Mono R) (h : DictW R H d l) (s : L2.Same H H') : DictW R H' d l := by
  obtain ⟨m, h1, h2, h3⟩ := h.ex
  refine ⟨m, s _ _ h1, h2, fun z a hza => ?_⟩
  obtain ⟨x, e, r⟩ := h3 z a hza
  exact ⟨x, e, M _ _ _ _ (wo_mono s) r⟩
theorem DictW.nil (h : H d = some (.dK [])) : DictW R H d [] := ⟨[], h, rfl, fun z a hza => by cases hza⟩
theorem DictW.put {m : List (Str × Addr)} (h2 : m.map (·.1) = l.map (·.1)) (h3 : ∀ z a, (z, a) ∈ m → ∃ x, l.lookup z = some x ∧ R (wo H d) a x) {z : Str} {x : α} (hp : R (wo H d) p x) :
    DictW R (upd H d (.dK (strK V.ref (putL m z p)))) d (putL l z x) := by
  refine ⟨putL m z p, upd_same, putL_keys2 h2 z x p, fun y a hya => ?_⟩
  rw [wo_upd, lookup_putL]
  rcases putL_mem hya with e | ⟨hya, hn⟩
  · injection e with e1 e2
    subst e1 e2
    rw [if_pos rfl]
    exact ⟨x, rfl, hp⟩
  · rw [if_neg hn]
    exact h3 y a hya
end
theorem none_of_but {H H' : Hp} {p a : Addr} (b : But p H H') (h : H' a = none) (n : a ≠ p) : H a = none := by
  cases e : H a with
  | none => rfl
  | some o => rw [b a o e n] at h; cases h
theorem sd_frz {H : Hp} {D a : Addr} {o : Obj} {v u : HO} {x : Sd} {h : Int} {ns : List Str} (hd : H D = some (.frz o v)) (hx : SdAt H a x) (hg : GoodSd h ns x) : SdAt (upd H D u) a x := by
  refine (sd_wo (D := D) (fun xs e => ?_) (fun l hl e => ?_) (fun l hl hD => ?_) hx hg).same (same_wo (L2.Same.refl _))
  · rw [hd] at e
    cases e
  · rw [hd] at e
    cases e
  · obtain ⟨m2, g1, _⟩ := hD.ex
    rw [hd] at g1
    cases g1
/-! ### a table of stands, held or not -/
/-- a table of stands, held while it is walked or not -/
structure TabRd (H : Hp) (D : Addr) (l : List (Str × Sd)) : Prop where
  ex : ∃ m : List (Str × Addr), Rd H D (.dK (strK V.ref m)) ∧ m.map (·.1) = l.map (·.1) ∧ ∀ z a, (z, a) ∈ m → ∃ x, l.lookup z = some x ∧ SdAt H a x
theorem TabRd.of {H : Hp} {D : Addr} {l : List (Str × Sd)} (h : DictOf SdAt H D l) : TabRd H D l := by
  obtain ⟨m, h1, h2, h3⟩ := h.ex
  exact ⟨m, .inl h1, h2, h3⟩
theorem TabRd.same {H H' : Hp} {D : Addr} {l : List (Str × Sd)} (h : TabRd H D l) (s : L2.Same H H') : TabRd H' D l := by
  obtain ⟨m, h1, h2, h3⟩ := h.ex
  exact ⟨m, same_rd s h1, h2, fun z a hza => by
    obtain ⟨x, hx, r⟩ := h3 z a hza
    exact ⟨x, hx, r.same s⟩⟩
theorem TabRd.at {H : Hp} {D : Addr} {l : List (Str × Sd)} (h : TabRd H D l) {z : Str} {x : Sd} (e : l.lookup z = some x) : ∃ (m : List (Str × Addr)) (a : Addr), Rd H D (.dK (strK V.ref m)) ∧ m.lookup z = some a ∧ SdAt H a x := by
  obtain ⟨m, h1, h2, h3⟩ := h.ex
  have hz : z ∈ m.map (·.1) := by
    rw [h2]
    exact List.mem_map.mpr ⟨_, lookup_mem e, rfl⟩
  obtain ⟨a, ha⟩ := lookup_isSome hz
  obtain ⟨y, hy, r⟩ := h3 _ _ (lookup_mem ha)
  rw [e] at hy
  cases hy
  exact ⟨m, a, h1, ha, r⟩
theorem TabRd.held {H : Hp} {D : Addr} {l : List (Str × Sd)} {m : List (Str × Addr)} {o : Obj} {h : Int} {ns : List Str} (hd : H D = some (.dK (strK V.ref m))) (hk : m.map (·.1) = l.map (·.1)) (hm : ∀ z a, (z, a) ∈ m → ∃ x, l.lookup z = some x ∧ SdAt H a x) (hg : ∀ z x, l.lookup z = some x → GoodSd h ns x) :
    TabRd (upd H D (.frz o (.dK (strK V.ref m)))) D l := ⟨m, .inr ⟨o, upd_same⟩, hk, fun z a hza => by
  obtain ⟨x, hx, r⟩ := hm z a hza
  exact ⟨x, hx, sd_held hd hza r (hg z x hx)⟩⟩
/-! ### family C: names, targets, a menu of steps -/
theorem num1 : ∀ i < 10, TL.numL i = [48 + i] := by decide
theorem letterS {z : Str} {d : Nat} (h : z = ⟨#[d]⟩) : z.cps.toList = [d] := by rw [h]
theorem strsV_snoc (ws : List Str) (z : Str) : strsV ws ++ [.str z] = strsV (ws ++ [z]) := by simp [strsV]
def spNames : Sp := fun vs H Q _ => ∃ (p : Addr) (m : Int), vs = [.ref p, .int m] ∧ PoolAt H p ∧ 0 ≤ m ∧ m ≤ 9 ∧
  ∀ H' q ws, But p H H' → PoolAt H' p → H q = none → H' q = some (.lst (strsV ws)) → ws.length = m.toNat → (∀ z ∈ ws, NameS z) → ws.Nodup → ("zz" : Str) ∉ ws → Q (.ref q) H'
def spTarget (K : PySem.W.Frag) : Sp := fun vs H Q _ => ∃ (p q : Addr) (k : Nat) (rg : Bool) (ws : List Str), vs = [.ref p, .ref q, .int (k : Nat), .bl rg] ∧ PoolAt H p ∧ H q = some (.lst (strsV ws)) ∧ q ≠ p ∧ k + 1 < ws.length ∧ ws.length ≤ 1000 ∧
  ∀ H' z, But p H H' → PoolAt H' p → z ∈ ws → Q (.str z) H'
def spMenu : Sp := fun vs H Q _ => ∃ (p : Addr), vs = [.ref p] ∧ PoolAt H p ∧
  ∀ H' q ws, But p H H' → PoolAt H' p → H q = none → q ≠ p → H' q = some (.lst (strsV ws)) → ws.length = 4 → (∀ z ∈ ws, NameS z) → Q (.ref q) H'
/-- the i-th name -/
def NmC (i : Nat) (z : Str) : Prop := ∃ d s, z.cps.toList = d :: (48 + i) :: s ∧ lowC d ∧ s.length ≤ 4 ∧ ∀ e ∈ s, sgnC e
theorem NmC.name {i : Nat} {z : Str} (h : NmC i z) (hi : i < 10) : NameS z := by
  obtain ⟨d, s, e, hd, hl, hs⟩ := h
  refine ⟨d, _, e, hd, by rw [List.length_cons]; omega, fun x hx => ?_⟩
  rcases List.mem_cons.mp hx with rfl | hx
  · exact .inr ⟨by omega, by omega⟩
  · exact hs x hx
theorem nmc_nodup {ws : List Str} (h : ∀ j z, ws[j]? = some z → NmC j z) : ws.Nodup := by
  refine List.pairwise_iff_getElem.mpr fun i j hi hj hij e => ?_
  obtain ⟨d1, s1, e1, _⟩ := h i _ (List.getElem?_eq_getElem hi)
  obtain ⟨d2, s2, e2, _⟩ := h j _ (List.getElem?_eq_getElem hj)
  rw [e, e2] at e1
  injection e1 with _ e3
  injection e3 with e4 _
  omega
theorem nmc_zz {i : Nat} {z : Str} (h : NmC i z) (hi : i < 10) : z ≠ "zz" := fun e => by
  obtain ⟨d, s, e1, _⟩ := h
  rw [e] at e1
  have e2 : ("zz" : Str).cps.toList = [122, 122] := by decide +kernel
  rw [e2] at e1
  injection e1 with _ e3
  injection e3 with e4 _
  omega
theorem suf_at : ∀ j < 4, ∃ s : Str, [V.str "", V.str "", V.str "q", V.str "zz7x"][j]? = some (.str s) ∧ s.cps.toList.length ≤ 4 ∧ ∀ e ∈ s.cps.toList, sgnC e := by
  intro j hj
  match j, hj with
  | 0, _ => exact ⟨"", rfl, by decide +kernel, by decide +kernel⟩
  | 1, _ => exact ⟨"", rfl, by decide +kernel, by decide +kernel⟩
  | 2, _ => exact ⟨"q", rfl, by decide +kernel, by decide +kernel⟩
  | 3, _ => exact ⟨"zz7x", rfl, by decide +kernel, by decide +kernel⟩
section
variable {P : Program} {w : World} {K : PySem.W.Frag} {mg : Str → Option Value} {base : Heap}
theorem ok_l_names {f : Addr} {fd : FuncData} (F : Fun K "_law_names" "_law_names" s_l_names f fd) (Z_range : mg "range" = none) (Z_str : mg "str" = none) (C_draw : Cal P w K mg base 1 "_law_draw" ["_law_drawer", "_law_many"] spDraw) : FnOk P w K mg base CX0 2 f fd ["_law_drawer", "_law_many"] spNames := by
  refine F.ok sc_l_names (fun vs H Q E h => ?_) (fun cdv A outer s H vs Q E hr h => ?_)
  · obtain ⟨_, _, rfl, _⟩ := h
    rfl
  · obtain ⟨p, m, rfl, hp, m0, m9, k⟩ := h
    refine ⟨_, (pss_cons (ps_set (i := 2) sc_l_names.nd rfl (Or.inl rfl) (pe_lst pa_nil))
      (pss_cons (ps_for PassesOwn.never rfl (pi_range1 rfl Z_range (pa_cons (pv 1) pa_nil)) (pg_name (i := 3) sc_l_names.nd rfl (Or.inl rfl))
      (pss_cons (ps_set (i := 4) sc_l_names.nd rfl (Or.inl rfl) (pe_ix ix_str pe_str (pe_cal C_draw (hr.mono (by decide)) (by rfl) (pa_cons (pv 0) (pa_cons pe_int pa_nil))) (fun _ _ => rfl)))
      (pss_one (ps_expr (pe_bm PySem.F.plainAttrs_list PySem.F.slot_list_append PySem.F.type_list_append mt_append (pv 2) (pa_cons (pe_op op_addSA (pe_op op_addSA (pv 4) (pe_callTy call_strIA (by rfl) Z_str (by decide +kernel) (pa_cons (pv 3) pa_nil))) (pe_ix ix_list (pe_lst (pa_cons pe_str (pa_cons pe_str (pa_cons pe_str (pa_cons pe_str pa_nil))))) (pe_cal C_draw (hr.mono (by decide)) (by rfl) (pa_cons (pv 0) (pa_cons pe_int pa_nil))) (fun _ _ => rfl))) pa_nil))))))
      (pss_one (ps_ret (pv 2))))), ?_⟩
    walk_at "go"
    refine ⟨sz_le (by simp), fun q hq => ?_⟩
    have nqp : q ≠ p := hp.ne hq
    walk_at "go"
    refine lpR (fun i σ H' => ∃ v3 v4 ws, σ = [some (.ref p), some (.int m), some (.ref q), v3, v4] ∧ But p H H' ∧ PoolAt H' p ∧ H' q = some (.lst (strsV ws)) ∧ ws.length = i ∧ ∀ j z, ws[j]? = some z → NmC j z) ⟨by omega, by omega⟩ ?_ ?_ ?_
    · exact ⟨_, _, [], rfl, But.of_same (same_new hq), hp.new hq, upd_same, rfl, fun j z h => by cases h⟩
    · rintro i σ H1 hi ⟨v3, v4, ws, rfl, b1, p1, hq1, hl, hn⟩
      walk_at "go"
      refine ⟨p, 26, rfl, p1, by decide, by decide, fun H2 j b2 p2 j0 j1 => ?_⟩
      have hq2 := b2 q _ hq1 nqp
      refine x_ixs j.toNat (by decide +kernel) (by omega) (letters_at _ (by omega)) ?_
      walk_at "go"
      refine x_strI (Nat.lt_of_le_of_lt (Nat.log2_le_self _) (by omega)) ?_
      have e1 : (Str.ofString (toString ((i : Nat) : Int))).cps.toList = [48 + i] := (TL.tl_num i).trans (num1 i (by omega))
      refine x_addS (j := Str.ofString (toString ((i : Nat) : Int))) (sz_le ?_) ?_
      · rw [str_len, str_len, e1]
        show 1 + 1 ≤ 10000
        omega
      walk_at "go"
      refine ⟨sz_le (by simp), fun tl htl => ?_⟩
      walk_at "go"
      refine ⟨p, 4, rfl, p2.new htl, by decide, by decide, fun H3 u b3 p3 u0 u1 => ?_⟩
      have htl3 := b3 tl _ upd_same (p2.ne htl)
      obtain ⟨sf, hsf, sl, ss⟩ := suf_at u.toNat (by omega)
      refine x_ixl u.toNat (SqL.of htl3) (by omega) hsf ?_
      have b23 := b2.trans ((But.of_same (same_new htl)).trans b3)
      refine x_addS (sz_le ?_) ?_
      · rw [str_len, str_len, tl_app, e1]
        rw [List.length_append]
        show 1 + 1 + _ ≤ 10000
        omega
      walk_at "go"
      refine x_app (b23 q _ hq1 nqp) (sz_lt (by rw [List.length_map]; omega)) ?_
      walk_at "go"
      refine ⟨_, _, ws ++ [(⟨#[97 + j.toNat]⟩ : Str) ++ Str.ofString (toString ((i : Nat) : Int)) ++ sf], rfl, fun b o e n => ?_, p3.upd nqp.symm, by rw [upd_same, strsV_snoc], by rw [List.length_append, hl]; rfl, fun jj z hz => ?_⟩
      · rw [upd_ne (ne_of_none e hq)]
        exact b23 b o (b1 b o e n) n
      · by_cases hji : jj < i
        · rw [List.getElem?_append_left (by omega)] at hz
          exact hn jj z hz
        · rw [List.getElem?_append_right (by omega)] at hz
          have e : jj = i := by
            have := (List.getElem?_eq_some_iff.mp hz).1
            simp at this
            omega
          subst e
          rw [hl, Nat.sub_self] at hz
          cases hz
          refine ⟨97 + j.toNat, sf.cps.toList, ?_, ⟨by omega, by omega⟩, sl, ss⟩
          rw [tl_app, tl_app, e1]
          rfl
    · rintro σ H1 ⟨v3, v4, ws, rfl, b1, p1, hq1, hl, hn⟩
      walk_at "go"
      refine k H1 q ws b1 p1 hq hq1 hl (fun z hz => ?_) (nmc_nodup hn) fun hz => ?_
      · obtain ⟨j, hj, e⟩ := List.getElem_of_mem hz
        exact (hn j z (by rw [List.getElem?_eq_getElem hj, e])).name (by omega)
      · obtain ⟨j, hj, e⟩ := List.getElem_of_mem hz
        exact nmc_zz (hn j _ (by rw [List.getElem?_eq_getElem hj, e])) (by omega) rfl
theorem ok_l_target {f : Addr} {fd : FuncData} (F : Fun K "_law_target" "_law_target" s_l_target f fd) (Z_len : mg "len" = none) (C_draw : Cal P w K mg base 1 "_law_draw" ["_law_drawer", "_law_many"] spDraw) : FnOk P w K mg base CX0 2 f fd ["_law_drawer", "_law_names_here", "_law_k", "_law_rings"] (spTarget K) := by
  refine F.ok sc_l_target (fun vs H Q E h => ?_) (fun cdv A outer s H vs Q E hr h => ?_)
  · obtain ⟨_, _, _, _, _, rfl, _⟩ := h
    rfl
  · obtain ⟨p, q, kk, rg, ws, rfl, hp, hq, nqp, h1, h2, k⟩ := h
    refine ⟨_, (pss_cons (ps_if (pt_val (pv 3))
      (pss_one (ps_ret (pe_ix ix_list (pv 1) (pe_cal C_draw (hr.mono (by decide)) (by rfl) (pa_cons (pv 0) (pa_cons (pe_callB call_lenA (by rfl) Z_len (by decide +kernel) (pa_cons (pv 1) pa_nil)) pa_nil))) (fun _ _ => rfl))))
      pss_nil)
      (pss_one (ps_ret (pe_ix ix_list (pv 1) (pe_op op_add (pe_op op_add (pv 2) pe_int) (pe_cal C_draw (hr.mono (by decide)) (by rfl) (pa_cons (pv 0) (pa_cons (pe_op op_sub (pe_op op_sub (pe_callB call_lenA (by rfl) Z_len (by decide +kernel) (pa_cons (pv 1) pa_nil)) pe_int) (pv 2)) pa_nil)))) (fun _ _ => rfl))))), ?_⟩
    have at_ : ∀ j < ws.length, ∃ z, (strsV ws)[j]? = some (.str z) ∧ z ∈ ws := fun j hj => ⟨ws[j], by rw [List.getElem?_map, List.getElem?_eq_getElem hj]; rfl, List.getElem_mem hj⟩
    cases rg with
    | true =>
      walk_at "go"
      refine ⟨p, ((strsV ws).length : Nat), rfl, hp, by rw [List.length_map]; omega, by rw [List.length_map]; omega, fun H1 j b1 p1 j0 j1 => ?_⟩
      rw [List.length_map] at j1
      obtain ⟨z, hz, hzm⟩ := at_ j.toNat (by omega)
      refine x_ixl j.toNat (SqL.of (b1 q _ hq nqp)) (by omega) hz ?_
      exact k H1 z b1 p1 hzm
    | false =>
      walk_at "go"
      refine ⟨p, ((strsV ws).length : Int) - 1 - kk, rfl, hp, by rw [List.length_map]; omega, by rw [List.length_map]; omega, fun H1 j b1 p1 j0 j1 => ?_⟩
      rw [List.length_map] at j1
      walk_at "go"
      obtain ⟨z, hz, hzm⟩ := at_ (kk + 1 + j.toNat) (by omega)
      refine x_ixl (kk + 1 + j.toNat) (SqL.of (b1 q _ hq nqp)) (by omega) hz ?_
      exact k H1 z b1 p1 hzm
theorem ok_l_menu {f : Addr} {fd : FuncData} (F : Fun K "_law_menu" "_law_menu" s_l_menu f fd) (C_draw : Cal P w K mg base 1 "_law_draw" ["_law_drawer", "_law_many"] spDraw) : FnOk P w K mg base CX0 2 f fd ["_law_drawer"] spMenu := by
  refine F.ok sc_l_menu (fun vs H Q E h => ?_) (fun cdv A outer s H vs Q E hr h => ?_)
  · obtain ⟨_, rfl, _⟩ := h
    rfl
  · obtain ⟨p, rfl, hp, k⟩ := h
    refine ⟨_, (pss_cons (ps_set (i := 1) sc_l_menu.nd rfl (Or.inl rfl) (pe_ix ix_str pe_str (pe_cal C_draw (hr.mono (by decide)) (by rfl) (pa_cons (pv 0) (pa_cons pe_int pa_nil))) (fun _ _ => rfl)))
      (pss_cons (ps_set (i := 2) sc_l_menu.nd rfl (Or.inl rfl) (pe_lst (pa_cons (pe_lst (pa_cons pe_str (pa_cons pe_str (pa_cons pe_str (pa_cons pe_str pa_nil))))) (pa_cons (pe_lst (pa_cons pe_str (pa_cons pe_str (pa_cons pe_str (pa_cons pe_str pa_nil))))) (pa_cons (pe_lst (pa_cons (pe_op op_addSA (pv 1) pe_str) (pa_cons (pe_op op_addSA (pv 1) pe_str) (pa_cons (pv 1) (pa_cons (pe_op op_addSA pe_str (pv 1)) pa_nil))))) pa_nil)))))
      (pss_one (ps_ret (pe_ix ix_list (pv 2) (pe_cal C_draw (hr.mono (by decide)) (by rfl) (pa_cons (pv 0) (pa_cons pe_int pa_nil))) (fun _ _ => rfl)))))), ?_⟩
    walk_at "go"
    refine ⟨p, 26, rfl, hp, by decide, by decide, fun H1 j b1 p1 j0 j1 => ?_⟩
    refine x_ixs j.toNat (by decide +kernel) (by omega) (letters_at _ (by omega)) ?_
    walk_at "go"
    have hz : lowC (97 + j.toNat) := ⟨by omega, by omega⟩
    generalize hd : 97 + j.toNat = d at hz
    refine ⟨by decide, fun l1 h1 => ?_⟩
    walk_at "go"
    refine ⟨by decide, fun l2 h2 => ?_⟩
    walk_at "go"
    have lz : ((⟨#[d]⟩ : Str)).length = 1 := rfl
    refine x_addS (sz_le (by rw [lz]; decide)) ?_
    walk_at "go"
    refine x_addS (sz_le (by rw [lz]; decide)) ?_
    walk_at "go"
    refine x_addS (sz_le (by rw [lz]; decide)) ?_
    walk_at "go"
    refine ⟨sz_le (by simp), fun l3 h3 => ?_⟩
    walk_at "go"
    refine ⟨sz_le (by simp), fun lm h4 => ?_⟩
    have q1 : (upd H1 l1 (.lst [.str "go", .str "a1", .str "stay", .str "b"])) l1 = some (.lst (strsV ["go", "a1", "stay", "b"])) := upd_same
    have p2 := p1.new (o := .lst [.str "go", .str "a1", .str "stay", .str "b"]) h1
    have b2 : But p H (upd H1 l1 (.lst [.str "go", .str "a1", .str "stay", .str "b"])) := b1.new h1
    have n1 : l1 ≠ p := p1.ne h1
    have f1 : H l1 = none := none_of_but b1 h1 n1
    generalize upd H1 l1 (.lst [.str "go", .str "a1", .str "stay", .str "b"]) = H2 at *
    have q12 := (same_new (o := .lst [.str "x", .str "yy", .str "z", .str "w0"]) h2) _ _ q1
    have q2 : (upd H2 l2 (.lst [.str "x", .str "yy", .str "z", .str "w0"])) l2 = some (.lst (strsV ["x", "yy", "z", "w0"])) := upd_same
    have p3 := p2.new (o := .lst [.str "x", .str "yy", .str "z", .str "w0"]) h2
    have b3 : But p H (upd H2 l2 (.lst [.str "x", .str "yy", .str "z", .str "w0"])) := b2.new h2
    have n2 : l2 ≠ p := p2.ne h2
    have f2 : H l2 = none := none_of_but b2 h2 n2
    generalize upd H2 l2 (.lst [.str "x", .str "yy", .str "z", .str "w0"]) = H3 at *
    have q13 := (same_new (o := .lst (strsV [(⟨#[d]⟩ : Str) ++ "2", ⟨#[d]⟩ ++ "10", ⟨#[d]⟩, "m" ++ ⟨#[d]⟩])) h3) _ _ q12
    have q23 := (same_new (o := .lst (strsV [(⟨#[d]⟩ : Str) ++ "2", ⟨#[d]⟩ ++ "10", ⟨#[d]⟩, "m" ++ ⟨#[d]⟩])) h3) _ _ q2
    have q3 : (upd H3 l3 (.lst (strsV [(⟨#[d]⟩ : Str) ++ "2", ⟨#[d]⟩ ++ "10", ⟨#[d]⟩, "m" ++ ⟨#[d]⟩]))) l3 = some (.lst (strsV [(⟨#[d]⟩ : Str) ++ "2", ⟨#[d]⟩ ++ "10", ⟨#[d]⟩, "m" ++ ⟨#[d]⟩])) := upd_same
    have p4 := p3.new (o := .lst (strsV [(⟨#[d]⟩ : Str) ++ "2", ⟨#[d]⟩ ++ "10", ⟨#[d]⟩, "m" ++ ⟨#[d]⟩])) h3
    have b4 : But p H (upd H3 l3 (.lst (strsV [(⟨#[d]⟩ : Str) ++ "2", ⟨#[d]⟩ ++ "10", ⟨#[d]⟩, "m" ++ ⟨#[d]⟩]))) := b3.new h3
    have n3 : l3 ≠ p := p3.ne h3
    have f3 : H l3 = none := none_of_but b3 h3 n3
    walk_at "go"
    refine ⟨p, 3, rfl, p4.new h4, by decide, by decide, fun H5 u b5 p5 u0 u1 => ?_⟩
    have hm5 := b5 lm _ upd_same (p4.ne h4)
    have s4 : L2.Same (upd H3 l3 (.lst (strsV [(⟨#[d]⟩ : Str) ++ "2", ⟨#[d]⟩ ++ "10", ⟨#[d]⟩, "m" ++ ⟨#[d]⟩]))) (upd (upd H3 l3 (.lst (strsV [(⟨#[d]⟩ : Str) ++ "2", ⟨#[d]⟩ ++ "10", ⟨#[d]⟩, "m" ++ ⟨#[d]⟩]))) lm (.lst [.ref l1, .ref l2, .ref l3])) := same_new h4
    have bb : But p H H5 := (b4.new h4).trans b5
    have g1 := b5 l1 _ (s4 _ _ q13) n1
    have g2 := b5 l2 _ (s4 _ _ q23) n2
    have g3 := b5 l3 _ (s4 _ _ q3) n3
    have lzl : ((⟨#[d]⟩ : Str)).cps.toList = [d] := rfl
    have nd : NameS (⟨#[d]⟩ : Str) := ⟨d, [], rfl, hz, by simp, fun e he => by cases he⟩
    have n2c : NameS ((⟨#[d]⟩ : Str) ++ "2") := ⟨d, [50], by rw [tl_app, lzl]; rfl, hz, by simp, by decide⟩
    have n10 : NameS ((⟨#[d]⟩ : Str) ++ "10") := ⟨d, [49, 48], by rw [tl_app, lzl]; rfl, hz, by simp, by decide⟩
    have nm : NameS (("m" : Str) ++ ⟨#[d]⟩) := ⟨109, [d], by rw [tl_app, lzl]; rfl, by decide, by simp, fun e he => by
      rw [List.mem_singleton.mp he]
      exact .inl hz⟩
    have : u = 0 ∨ u = 1 ∨ u = 2 := by omega
    rcases this with rfl | rfl | rfl
    · refine x_ixl 0 (SqL.of hm5) rfl rfl ?_
      refine k H5 l1 _ bb p5 f1 n1 g1 rfl fun z hzm => ?_
      simp at hzm
      rcases hzm with rfl | rfl | rfl | rfl <;> exact nameL_iff.mp (by decide +kernel)
    · refine x_ixl 1 (SqL.of hm5) rfl rfl ?_
      refine k H5 l2 _ bb p5 f2 n2 g2 rfl fun z hzm => ?_
      simp at hzm
      rcases hzm with rfl | rfl | rfl | rfl <;> exact nameL_iff.mp (by decide +kernel)
    · refine x_ixl 2 (SqL.of hm5) rfl rfl ?_
      refine k H5 l3 _ bb p5 f3 n3 g3 rfl fun z hzm => ?_
      simp at hzm
      rcases hzm with rfl | rfl | rfl | rfl
      · exact n2c
      · exact n10
      · exact nd
      · exact nm
end
/-! ### family C: a drawn stand -/
def spStand : Sp := fun vs H Q _ => ∃ (p q w : Addr) (kk : Nat) (h : Int) (rg : Bool) (ns ws : List Str), vs = [.ref p, .ref q, .int (kk : Nat), .int h, .ref w, .bl rg] ∧ PoolAt H p ∧ H q = some (.lst (strsV ns)) ∧ q ≠ p ∧ H w = some (.lst (strsV ws)) ∧ w ≠ p ∧ kk < ns.length ∧ ns.length ≤ 1000 ∧ ws.length = 4 ∧ (∀ z ∈ ws, NameS z) ∧
  1 ≤ h ∧ h ≤ 4 ∧ ∀ H' a x, But p H H' → PoolAt H' p → H a = none → a ≠ p → SdAt (wo H' p) a x → GoodSd h ns x → (kk + 1 = ns.length → x = .fin) → Q (.ref a) H'
section
variable {P : Program} {w : World} {K : PySem.W.Frag} {mg : Str → Option Value} {base : Heap}
theorem ok_l_stand {f : Addr} {fd : FuncData} (F : Fun K "_law_stand" "_law_stand" s_l_stand f fd) (Z_range : mg "range" = none) (Z_len : mg "len" = none) (C_draw : Cal P w K mg base 1 "_law_draw" ["_law_drawer", "_law_many"] spDraw)
    (C_l_target : Cal P w K mg base 2 "_law_target" ["_law_drawer", "_law_names_here", "_law_k", "_law_rings"] (spTarget K)) : FnOk P w K mg base CX0 3 f fd ["_law_drawer", "_law_names_here", "_law_k", "_law_hands", "_law_menu_here", "_law_rings"] spStand := by
  refine F.ok sc_l_stand (fun vs H Q E h => ?_) (fun cdv A outer s H vs Q E hr h => ?_)
  · obtain ⟨_, _, _, _, _, _, _, _, rfl, _⟩ := h
    rfl
  · obtain ⟨p, q, w, kk, h, rg, ns, ws, rfl, hp, hq, nqp, hw, nwp, n1, n2, w4, hnm, h1, h4, k⟩ := h
    have hu := hu_of hr
    refine ⟨_, (pss_cons (ps_set (i := 6) sc_l_stand.nd rfl (Or.inl rfl) (pe_cal C_draw (hr.mono (by decide)) (by rfl) (pa_cons (pv 0) (pa_cons pe_int pa_nil))))
      (pss_cons (ps_set (i := 7) sc_l_stand.nd rfl (Or.inl rfl) (pe_ix ix_list (pe_lst (pa_cons pe_int (pa_cons pe_int (pa_cons pe_int (pa_cons pe_int (pa_cons pe_int (pa_cons pe_int (pa_cons pe_int (pa_cons pe_int pa_nil))))))))) (pe_cal C_draw (hr.mono (by decide)) (by rfl) (pa_cons (pv 0) (pa_cons pe_int pa_nil))) (fun _ _ => rfl)))
      (pss_cons (ps_set (i := 8) sc_l_stand.nd rfl (Or.inl rfl) (pe_cal C_draw (hr.mono (by decide)) (by rfl) (pa_cons (pv 0) (pa_cons pe_int pa_nil))))
      (pss_cons (ps_if (PW.pt (pw_or (pt_cmpR op_eq (pv 2) (pe_op op_sub (pe_callB call_lenA (by rfl) Z_len (by decide +kernel) (pa_cons (pv 1) pa_nil)) pe_int) (nomark _)) (pw_or1 (PW.pt (pw_and (pt_cmpR op_eq (pv 6) pe_int (nomark _)) (pw_and1 (pt_cmpR op_gt (pv 2) pe_int (nomark _))))))))
      (pss_one (ps_ret (pe_tup (pa_cons pe_str pa_nil))))
      pss_nil)
      (pss_cons (ps_set (i := 9) sc_l_stand.nd rfl (Or.inl rfl) pe_dnewK)
      (pss_cons (ps_if (pt_cmpR op_lt (pv 6) pe_int (nomark _))
      (pss_cons (ps_set (i := 10) sc_l_stand.nd rfl (Or.inl rfl) (pe_cal C_draw (hr.mono (by decide)) (by rfl) (pa_cons (pv 0) (pa_cons (pv 3) pa_nil))))
      (pss_cons (ps_for PassesOwn.never rfl (pi_range1 rfl Z_range (pa_cons (pv 7) pa_nil)) (pg_name (i := 11) sc_l_stand.nd rfl (Or.inl rfl))
      (pss_one (ps_dput hu (pv 9) (pe_ix ix_list (pv 4) (pe_op op_mod (pe_op op_add (pv 11) (pv 8)) pe_int) (fun _ _ => rfl)) (pe_cal C_l_target (hr.mono (by decide)) (by rfl) (pa_cons (pv 0) (pa_cons (pv 1) (pa_cons (pv 2) (pa_cons (pv 5) pa_nil))))) rfl)))
      (pss_one (ps_ret (pe_tup (pa_cons pe_str (pa_cons (pv 10) (pa_cons (pv 9) pa_nil))))))))
      pss_nil)
      (pss_cons (ps_for PassesOwn.never rfl (pi_range1 rfl Z_range (pa_cons (pv 7) pa_nil)) (pg_name (i := 11) sc_l_stand.nd rfl (Or.inl rfl))
      (pss_cons (ps_set (i := 12) sc_l_stand.nd rfl (Or.inl rfl) (pe_op op_add pe_int (pe_cal C_draw (hr.mono (by decide)) (by rfl) (pa_cons (pv 0) (pa_cons pe_int pa_nil)))))
      (pss_one (ps_dput hu (pv 9) (pe_ix ix_list (pv 4) (pe_op op_mod (pe_op op_add (pv 11) (pv 8)) pe_int) (fun _ _ => rfl)) (pe_tup (pa_cons (pe_cal C_l_target (hr.mono (by decide)) (by rfl) (pa_cons (pv 0) (pa_cons (pv 1) (pa_cons (pv 2) (pa_cons (pv 5) pa_nil))))) (pa_cons (pv 12) pa_nil))) rfl))))
      (pss_one (ps_ret (pe_tup (pa_cons pe_str (pa_cons (pv 9) pa_nil)))))))))))), ?_⟩
    walk_at "go"
    refine ⟨p, 8, rfl, hp, by decide, by decide, fun H1 so b1 p1 s0 s1 => ?_⟩
    walk_at "go"
    refine ⟨sz_le (by simp), fun ln hln => ?_⟩
    have p1n := p1.new (o := .lst [.int 2, .int 1, .int 2, .int 3, .int 3, .int 2, .int 1, .int 4]) hln
    walk_at "go"
    refine ⟨p, 8, rfl, p1n, by decide, by decide, fun H2 j b2 p2 j0 j1 => ?_⟩
    have hln2 := b2 ln _ upd_same (p1.ne hln)
    obtain ⟨cnt, hcnt, hcm⟩ := pickI [2, 1, 2, 3, 3, 2, 1, 4] j0 j1
    have hc4 : 1 ≤ cnt ∧ cnt ≤ 4 := by simp at hcm; omega
    have b02 : But p H H2 := b1.trans ((But.of_same (same_new hln)).trans b2)
    walk_at "go"
    refine x_ixl j.toNat (SqL.of hln2) (by omega) hcnt ?_
    walk_at "go"
    refine ⟨p, 2, rfl, p2, by decide, by decide, fun H3 sh b3 p3 f0 f1 => ?_⟩
    have b03 := b02.trans b3
    have hq3 := b03 q _ hq nqp
    refine x_seq ?_
    have endB : ∀ (H' : Hp), H' = H3 → ([V.str "end"].length ≤ sizeLine ∧ ∀ a, H' a = none → Q (.ref a) (upd H' a (.tup [.str "end"]))) := fun H' e => by
      subst e
      refine ⟨by decide, fun a ha => ?_⟩
      have nap : a ≠ p := p3.ne ha
      exact k _ a .fin (b03.new ha) (p3.new ha) (none_of_but b03 ha nap) nap (show wo (upd H' a _) p a = _ from by rw [wo_ne nap]; exact upd_same) trivial fun _ => rfl
    refine if_joinH (α := Unit) (fun _ H' => H' = H3 ∧ kk + 1 < ns.length) (fun _ => [some (.ref p), some (.ref q), some (.int (kk : Nat)), some (.int h), some (.ref w), some (.bl rg), some (.int so), some (.int cnt), some (.int sh), none, none, none, none]) (fun n' hn' => ?_) ?_
    · walk_at "go"
      refine x_dec (fun hk => ?_) (fun hk => ?_)
      · walk_at "go"
        exact endB _ rfl
      · rw [List.length_map] at hk
        walk_at "go"
        refine x_dec (fun hs => ?_) (fun hs => ?_)
        · walk_at "go"
          refine x_dec (fun hg => ?_) (fun hg => ?_)
          · walk_at "go"
            exact endB _ rfl
          · walk_at "go"
            exact hn' () _ ⟨rfl, by omega⟩
        · walk_at "go"
          exact hn' () _ ⟨rfl, by omega⟩
    · rintro ⟨⟩ H' ⟨rfl, hkk⟩
      walk_at "go"
      intro D hD
      have nDp : D ≠ p := p3.ne hD
      have hD0 : H D = none := none_of_but b03 hD nDp
      have p4 := p3.new (o := .dK []) hD
      have b04 : But p H (upd H' D (.dK [])) := b03.new hD
      have hD4 : (upd H' D (.dK [])) D = some (.dK []) := upd_same
      generalize upd H' D (.dK []) = H4 at p4 b04 hD4 ⊢
      have word : ∀ i : Nat, ∃ z, (strsV ws)[(((i : Int) + sh) % 4).toNat]? = some (.str z) ∧ NameS z := fun i => by
        obtain ⟨z, hz, hz2⟩ := pickS ws (j := ((i : Int) + sh) % 4) (by omega) (by rw [w4]; omega)
        exact ⟨z, hz, hnm z (List.mem_of_getElem? hz2)⟩
      walk_at "go"
      refine x_dec (fun hk => ?_) (fun hk => ?_)
      · walk_at "go"
        refine ⟨p, h, rfl, p4, by omega, by omega, fun H5 hand b5 p5 g0 g1 => ?_⟩
        have b05 := b04.trans b5
        have hD5 := b5 D _ hD4 nDp
        walk_at "go"
        refine lpR (fun i σ H' => ∃ v11 l, σ = [some (.ref p), some (.ref q), some (.int (kk : Nat)), some (.int h), some (.ref w), some (.bl rg), some (.int so), some (.int cnt), some (.int sh), some (.ref D), some (.int hand), v11, none] ∧ But p H H' ∧ PoolAt H' p ∧ H' D = some (.dK (strK V.str l)) ∧
          (l.map (·.1)).Nodup ∧ l.length ≤ i ∧ (1 ≤ i → 1 ≤ l.length) ∧ ∀ q ∈ l, NameS q.1 ∧ q.2 ∈ ns) ⟨by omega, by omega⟩ ?_ ?_ ?_
        · exact ⟨_, [], rfl, b05, p5, hD5, List.nodup_nil, Nat.zero_le _, fun e => absurd e (by omega), fun q hq => by cases hq⟩
        · rintro i σ H6 hi ⟨v11, l, rfl, b6, p6, hDW, lnd, ll, l1, lg⟩
          have hq6 := b6 q _ hq nqp
          have hw6 := b6 w _ hw nwp
          walk_at "go"
          refine ⟨p, q, kk, rg, ns, rfl, p6, hq6, nqp, hkk, n2, fun H7 to b7 p7 hto => ?_⟩
          have hw7 := b7 w _ hw6 nwp
          obtain ⟨z, hz, hzn⟩ := word i
          walk_at "go"
          refine x_ixl (((i : Int) + sh) % 4).toNat (SqL.of hw7) (by omega) hz ?_
          refine x_putL (l := l) (x := to) (b7 D _ hDW nDp) (by omega) rfl ?_
          refine ⟨_, putL l z to, rfl, fun b o e n => ?_, p7.upd nDp.symm, upd_same, putL_nd _ lnd, Nat.le_trans (putL_len _ _ _) (Nat.succ_le_succ ll), fun _ => putL_pos _ _ _, fun y hy => ?_⟩
          · rw [upd_ne (ne_of_none e hD0)]
            exact b7 b o (b6 b o e n) n
          · rcases putL_mem hy with rfl | ⟨hy, _⟩
            · exact ⟨hzn, hto⟩
            · exact lg y hy
        · rintro σ H6 ⟨v11, l, rfl, b6, p6, hDW, lnd, ll, l1, lg⟩
          walk_at "go"
          refine ⟨sz_le (by simp), fun a ha => ?_⟩
          have nap : a ≠ p := p6.ne ha
          have nDa : D ≠ a := ne_of_none hDW ha
          exact k _ a (.hand hand l) (b6.new ha) (p6.new ha) (none_of_but b6 ha nap) nap ⟨D, by rw [wo_ne nap]; exact upd_same, by rw [wo_ne nDp, upd_ne nDa]; exact hDW⟩ ⟨g0, g1, lnd, l1 (by omega), by omega, lg⟩ (fun e => by omega)
      · walk_at "go"
        refine lpR (fun i σ H' => ∃ v11 v12 l, σ = [some (.ref p), some (.ref q), some (.int (kk : Nat)), some (.int h), some (.ref w), some (.bl rg), some (.int so), some (.int cnt), some (.int sh), some (.ref D), none, v11, v12] ∧ But p H H' ∧ PoolAt H' p ∧ DictW PairAt (wo H' p) D l ∧
          (l.map (·.1)).Nodup ∧ l.length ≤ i ∧ (1 ≤ i → 1 ≤ l.length) ∧ ∀ q ∈ l, NameS q.1 ∧ q.2.1 ∈ ns ∧ 1 ≤ q.2.2 ∧ q.2.2 ≤ 9) ⟨by omega, by omega⟩ ?_ ?_ ?_
        · exact ⟨_, _, [], rfl, b04, p4, .nil (by rw [wo_ne nDp]; exact hD4), List.nodup_nil, Nat.zero_le _, fun e => absurd e (by omega), fun q hq => by cases hq⟩
        · rintro i σ H6 hi ⟨v11, v12, l, rfl, b6, p6, hDW, lnd, ll, l1, lg⟩
          walk_at "go"
          refine ⟨p, 3, rfl, p6, by decide, by decide, fun H7 wt b7 p7 u0 u1 => ?_⟩
          have b67 := b6.trans b7
          walk_at "go"
          refine ⟨p, q, kk, rg, ns, rfl, p7, b67 q _ hq nqp, nqp, hkk, n2, fun H8 to b8 p8 hto => ?_⟩
          walk_at "go"
          refine ⟨sz_le (by simp), fun pa hpa => ?_⟩
          have b68 : But p H6 (upd H8 pa (.tup [.str to, .int (1 + wt)])) := (b7.trans b8).new hpa
          have p9 := p8.new (o := .tup [.str to, .int (1 + wt)]) hpa
          have npap : pa ≠ p := p8.ne hpa
          have hpa9 : (upd H8 pa (.tup [.str to, .int (1 + wt)])) pa = some (.tup [.str to, .int (1 + wt)]) := upd_same
          have b9 := b6.trans b68
          generalize upd H8 pa (.tup [.str to, .int (1 + wt)]) = H9 at b68 p9 hpa9 b9 ⊢
          obtain ⟨m, m1, m2, m3⟩ := (hDW.same monoP (but_wo b68)).ex
          have hD9 := (wo_some m1).1
          have hw9' := b9 w _ hw nwp
          obtain ⟨z, hz, hzn⟩ := word i
          walk_at "go"
          refine x_ixl (((i : Int) + sh) % 4).toNat (SqL.of hw9') (by omega) hz ?_
          have hml : m.length = l.length := by
            have := congrArg List.length m2
            rwa [List.length_map, List.length_map] at this
          refine x_putL (l := m) (x := pa) hD9 (by omega) rfl ?_
          have npaD : pa ≠ D := ne_of hpa9 hD9 (by intro z; cases z)
          refine ⟨_, _, putL l z (to, 1 + wt), rfl, fun b o e n => ?_, p9.upd nDp.symm, ?_, putL_nd _ lnd, Nat.le_trans (putL_len _ _ _) (Nat.succ_le_succ ll), fun _ => putL_pos _ _ _, fun y hy => ?_⟩
          · rw [upd_ne (ne_of_none e hD0)]
            exact b9 b o e n
          · rw [wo_upd_ne nDp]
            exact DictW.put m2 m3 (show PairAt _ _ _ from by
              show wo (wo H9 p) D pa = _
              rw [wo_ne npaD, wo_ne npap]
              exact hpa9)
          · rcases putL_mem hy with rfl | ⟨hy, _⟩
            · exact ⟨hzn, hto, by show 1 ≤ 1 + wt; omega, by show 1 + wt ≤ 9; omega⟩
            · exact lg y hy
        · rintro σ H6 ⟨v11, v12, l, rfl, b6, p6, hDW, lnd, ll, l1, lg⟩
          walk_at "go"
          refine ⟨sz_le (by simp), fun a ha => ?_⟩
          have nap : a ≠ p := p6.ne ha
          refine k _ a (.chance l) (b6.new ha) (p6.new ha) (none_of_but b6 ha nap) nap ⟨D, by rw [wo_ne nap]; exact upd_same, ((hDW.same monoP ?_).of monoP)⟩ ⟨lnd, l1 (by omega), by omega, lg⟩ (fun e => by omega)
          rw [wo_upd_ne nap]
          exact same_new (wo_none ha)
end
/-! ### family C: stands, a work to build -/
def spStands : Sp := fun vs H Q _ => ∃ (p q : Addr) (h : Int) (rg : Bool) (ns : List Str), vs = [.ref p, .ref q, .int h, .bl rg] ∧ PoolAt H p ∧ H q = some (.lst (strsV ns)) ∧ q ≠ p ∧ 1 ≤ ns.length ∧ ns.length ≤ 100 ∧ (∀ z ∈ ns, NameS z) ∧ ns.Nodup ∧ 1 ≤ h ∧ h ≤ 4 ∧
  ∀ H' D l, But p H H' → PoolAt H' p → H D = none → D ≠ p → DictOf SdAt (wo H' p) D l → l.map (·.1) = ns → (∀ z x, l.lookup z = some x → GoodSd h ns x) → (∃ z, l.lookup z = some .fin) → Q (.ref D) H'
def spBuild (K : PySem.W.Frag) : Sp := fun vs H Q _ => ∃ (a : Addr) (sc : List Int), vs = [.ref a] ∧ SqL K H a (intsV sc) ∧ sc.length ≤ 63 ∧
  ∀ H' r q D h ns l, L2.Same H H' → H' r = some (.lst [.int h, .ref q, .ref D]) → H' q = some (.lst (strsV ns)) → DictOf SdAt H' D l → GoodT h l → l.map (·.1) = ns → 1 ≤ h → h ≤ 4 → l.length ≤ 8 → (∃ z, l.lookup z = some .fin) → ("zz" : Str) ∉ ns → Q (.ref r) H'
section
variable {P : Program} {w : World} {K : PySem.W.Frag} {mg : Str → Option Value} {base : Heap}
theorem ok_l_stands {f : Addr} {fd : FuncData} (F : Fun K "_law_stands" "_law_stands" s_l_stands f fd) (Z_range : mg "range" = none) (Z_len : mg "len" = none) (C_l_menu : Cal P w K mg base 2 "_law_menu" ["_law_drawer"] spMenu)
    (C_l_stand : Cal P w K mg base 3 "_law_stand" ["_law_drawer", "_law_names_here", "_law_k", "_law_hands", "_law_menu_here", "_law_rings"] spStand) : FnOk P w K mg base CX0 4 f fd ["_law_drawer", "_law_names_here", "_law_hands", "_law_rings"] spStands := by
  refine F.ok sc_l_stands (fun vs H Q E h => ?_) (fun cdv A outer s H vs Q E hr h => ?_)
  · obtain ⟨_, _, _, _, _, rfl, _⟩ := h
    rfl
  · obtain ⟨p, q, h, rg, ns, rfl, hp, hq, nqp, n1, n2, hnm, hnd, h1, h4, k⟩ := h
    have hu := hu_of hr
    refine ⟨_, (pss_cons (ps_set (i := 4) sc_l_stands.nd rfl (Or.inl rfl) (pe_cal C_l_menu (hr.mono (by decide)) (by rfl) (pa_cons (pv 0) pa_nil)))
      (pss_cons (ps_set (i := 5) sc_l_stands.nd rfl (Or.inl rfl) pe_dnewK)
      (pss_cons (ps_for PassesOwn.never rfl (pi_range1 rfl Z_range (pa_cons (pe_callB call_lenA (by rfl) Z_len (by decide +kernel) (pa_cons (pv 1) pa_nil)) pa_nil)) (pg_name (i := 6) sc_l_stands.nd rfl (Or.inl rfl))
      (pss_one (ps_dput hu (pv 5) (pe_ix ix_list (pv 1) (pv 6) (fun _ _ => rfl)) (pe_cal C_l_stand (hr.mono (by decide)) (by rfl) (pa_cons (pv 0) (pa_cons (pv 1) (pa_cons (pv 6) (pa_cons (pv 2) (pa_cons (pv 4) (pa_cons (pv 3) pa_nil))))))) rfl)))
      (pss_one (ps_ret (pv 5)))))), ?_⟩
    walk_at "go"
    refine ⟨p, rfl, hp, fun H1 w ws b1 p1 hw0 nwp hw wl wn => ?_⟩
    walk_at "go"
    intro D hD
    have nDp : D ≠ p := p1.ne hD
    have hD0 : H D = none := none_of_but b1 hD nDp
    have hq1 := b1 q _ hq nqp
    have b2 : But p H (upd H1 D (.dK [])) := b1.new hD
    have p2 := p1.new (o := .dK []) hD
    have hq2 : (upd H1 D (.dK [])) q = some (.lst (strsV ns)) := b2 q _ hq nqp
    have hw2 : (upd H1 D (.dK [])) w = some (.lst (strsV ws)) := by rw [upd_ne (ne_of_none hw hD)]; exact hw
    have hD2 : (upd H1 D (.dK [])) D = some (.dK []) := upd_same
    generalize upd H1 D (.dK []) = H2 at b2 p2 hq2 hw2 hD2 ⊢
    have nqD : q ≠ D := ne_of hq2 hD2 (by intro z; cases z)
    have nwD : w ≠ D := ne_of hw2 hD2 (by intro z; cases z)
    walk_at "go"
    refine lpR (fun i σ H' => ∃ v6 l, σ = [some (.ref p), some (.ref q), some (.int h), some (.bl rg), some (.ref w), some (.ref D), v6] ∧ But p (wo H2 D) H' ∧ PoolAt H' p ∧ DictW SdAt (wo H' p) D l ∧
      l.map (·.1) = ns.take i ∧ (∀ z x, l.lookup z = some x → GoodSd h ns x) ∧ (i = ns.length → ∃ z, l.lookup z = some .fin)) ⟨by rw [List.length_map]; omega, by rw [List.length_map]; omega⟩ ?_ ?_ ?_
    · exact ⟨_, [], rfl, fun b o e _ => wo_same b o e, p2, .nil (by rw [wo_ne nDp]; exact hD2), by simp, fun z x e => (by cases e), fun e => by omega⟩
    · rintro i σ H3 hi ⟨v6, l, rfl, b3, p3, hDW, kl, gl, fl⟩
      rw [List.length_map, Int.toNat_natCast] at hi
      have hq3 : H3 q = some (.lst (strsV ns)) := b3 q _ (by rw [wo_ne nqD]; exact hq2) nqp
      have hw3 : H3 w = some (.lst (strsV ws)) := b3 w _ (by rw [wo_ne nwD]; exact hw2) nwp
      have hz : ns[i]? = some ns[i] := List.getElem?_eq_getElem hi
      generalize ns[i] = z at hz
      have hzv : (strsV ns)[i]? = some (.str z) := by rw [List.getElem?_map, hz]; rfl
      have hzt : z ∉ l.map (·.1) := fun hm => by
        rw [kl] at hm
        obtain ⟨j, hj, he⟩ := List.getElem_of_mem hm
        have hj2 : j < i := by simp at hj; omega
        have h5 : ns[j]? = some z := by
          rw [List.getElem_take] at he
          rw [List.getElem?_eq_getElem (by omega), he]
        have := L2.nd_ix hnd h5 hz
        omega
      have ll : l.length ≤ 1000 := by
        have := congrArg List.length kl
        rw [List.length_map, List.length_take] at this
        omega
      walk_at "go"
      refine ⟨p, q, w, i, h, rg, ns, ws, rfl, p3, hq3, nqp, hw3, nwp, hi, by omega, wl, wn, h1, h4, fun H4 a x b4 p4 ha nap hx hg hfin => ?_⟩
      walk_at "go"
      refine x_ixl i (SqL.of (b4 q _ hq3 nqp)) rfl hzv ?_
      obtain ⟨m, m1, m2, m3⟩ := (hDW.same monoS (but_wo b4)).ex
      have hml : m.length = l.length := by
        have := congrArg List.length m2
        rwa [List.length_map, List.length_map] at this
      refine x_putL (l := m) (x := a) (wo_some m1).1 (by omega) rfl ?_
      refine ⟨_, putL l z x, rfl, fun b o e n => ?_, p4.upd nDp.symm, ?_, ?_, fun y v hv => ?_, fun e => ⟨z, by rw [lookup_putL, if_pos rfl, hfin e]⟩⟩
      · have nbD : b ≠ D := fun e2 => by rw [e2, wo_at] at e; cases e
        rw [upd_ne nbD]
        exact b4 b o (b3 b o e n) n
      · rw [wo_upd_ne nDp]
        refine DictW.put m2 m3 (sd_woT m1 (fun y c hyc => ?_) hx hg)
        obtain ⟨v, _, hv⟩ := m3 y c hyc
        exact ⟨v, hv.same wo_same⟩
      · rw [putL_new x hzt, List.map_append, kl, take_succ_get hz]
        rfl
      · rw [lookup_putL] at hv
        by_cases e : y = z
        · rw [if_pos e] at hv
          cases hv
          exact hg
        · rw [if_neg e] at hv
          exact gl y v hv
    · rintro σ H3 ⟨v6, l, rfl, b3, p3, hDW, kl, gl, fl⟩
      rw [List.length_map, Int.toNat_natCast, List.take_length] at kl
      walk_at "go"
      exact k H3 D l (fun b o e n => b3 b o (by rw [wo_ne (ne_of_none e hD0)]; exact b2 b o e n) n) p3 hD0 nDp (hDW.of monoS) kl gl (fl (by simp))
theorem ok_l_build {f : Addr} {fd : FuncData} (F : Fun K "_law_build" "_law_build" s_l_build f fd) (C_l_open : Cal P w K mg base 1 "_law_open" ["_law_script", "_law_k"] (spOpen K)) (C_draw : Cal P w K mg base 1 "_law_draw" ["_law_drawer", "_law_many"] spDraw)
    (C_l_names : Cal P w K mg base 2 "_law_names" ["_law_drawer", "_law_many"] spNames) (C_l_stands : Cal P w K mg base 4 "_law_stands" ["_law_drawer", "_law_names_here", "_law_hands", "_law_rings"] spStands) : FnOk P w K mg base CX0 5 f fd ["_law_script"] (spBuild K) := by
  refine F.ok sc_l_build (fun vs H Q E h => ?_) (fun cdv A outer s H vs Q E hr h => ?_)
  · obtain ⟨_, _, rfl, _⟩ := h
    rfl
  · obtain ⟨a, sc, rfl, hS, hlen, k⟩ := h
    refine ⟨_, (pss_cons (ps_set (i := 1) sc_l_build.nd rfl (Or.inl rfl) (pe_cal C_l_open (hr.mono (by decide)) (by rfl) (pa_cons (pv 0) (pa_cons pe_int pa_nil))))
      (pss_cons (ps_set (i := 2) sc_l_build.nd rfl (Or.inl rfl) (pe_ix ix_list (pe_lst (pa_cons pe_int (pa_cons pe_int (pa_cons pe_int (pa_cons pe_int (pa_cons pe_int (pa_cons pe_int (pa_cons pe_int (pa_cons pe_int pa_nil))))))))) (pe_cal C_draw (hr.mono (by decide)) (by rfl) (pa_cons (pv 1) (pa_cons pe_int pa_nil))) (fun _ _ => rfl)))
      (pss_cons (ps_set (i := 3) sc_l_build.nd rfl (Or.inl rfl) (pe_ix ix_list (pe_lst (pa_cons pe_int (pa_cons pe_int (pa_cons pe_int (pa_cons pe_int (pa_cons pe_int (pa_cons pe_int (pa_cons pe_int (pa_cons pe_int (pa_cons pe_int (pa_cons pe_int (pa_cons pe_int (pa_cons pe_int (pa_cons pe_int (pa_cons pe_int (pa_cons pe_int (pa_cons pe_int pa_nil))))))))))))))))) (pe_cal C_draw (hr.mono (by decide)) (by rfl) (pa_cons (pv 1) (pa_cons pe_int pa_nil))) (fun _ _ => rfl)))
      (pss_cons (ps_set (i := 4) sc_l_build.nd rfl (Or.inl rfl) (pe_cmpR op_eq (pe_cal C_draw (hr.mono (by decide)) (by rfl) (pa_cons (pv 1) (pa_cons pe_int pa_nil))) pe_int (nomark _)))
      (pss_cons (ps_set (i := 5) sc_l_build.nd rfl (Or.inl rfl) (pe_cal C_l_names (hr.mono (by decide)) (by rfl) (pa_cons (pv 1) (pa_cons (pv 3) pa_nil))))
      (pss_one (ps_ret (pe_lst (pa_cons (pv 2) (pa_cons (pv 5) (pa_cons (pe_cal C_l_stands (hr.mono (by decide)) (by rfl) (pa_cons (pv 1) (pa_cons (pv 5) (pa_cons (pv 2) (pa_cons (pv 4) pa_nil))))) pa_nil))))))))))), ?_⟩
    walk_at "go"
    refine ⟨a, sc, 1, rfl, hS, hlen, by decide, by decide, fun H1 p s1 hp0 p1 => ?_⟩
    walk_at "go"
    refine ⟨sz_le (by simp), fun l1 hl1 => ?_⟩
    have p2 := p1.new (o := .lst [.int 1, .int 2, .int 3, .int 2, .int 3, .int 4, .int 2, .int 1]) hl1
    walk_at "go"
    refine ⟨p, 8, rfl, p2, by decide, by decide, fun H3 j b3 p3 j0 j1 => ?_⟩
    obtain ⟨h, hh, hhm⟩ := pickI [1, 2, 3, 2, 3, 4, 2, 1] j0 j1
    have hh4 : 1 ≤ h ∧ h ≤ 4 := by simp at hhm; omega
    refine x_ixl j.toNat (SqL.of (b3 l1 _ upd_same (p1.ne hl1))) (by omega) hh ?_
    have b13 : But p H1 H3 := (But.of_same (same_new hl1)).trans b3
    walk_at "go"
    refine ⟨sz_le (by simp), fun l2 hl2 => ?_⟩
    have p4 := p3.new (o := .lst [.int 4, .int 5, .int 6, .int 7, .int 8, .int 5, .int 6, .int 3, .int 4, .int 2, .int 1, .int 7, .int 8, .int 6, .int 5, .int 4]) hl2
    walk_at "go"
    refine ⟨p, 16, rfl, p4, by decide, by decide, fun H5 u b5 p5 u0 u1 => ?_⟩
    obtain ⟨many, hmany, hmm⟩ := pickI [4, 5, 6, 7, 8, 5, 6, 3, 4, 2, 1, 7, 8, 6, 5, 4] u0 u1
    have hm8 : 1 ≤ many ∧ many ≤ 8 := by simp at hmm; omega
    refine x_ixl u.toNat (SqL.of (b5 l2 _ upd_same (p3.ne hl2))) (by omega) hmany ?_
    have b15 : But p H1 H5 := b13.trans ((But.of_same (same_new hl2)).trans b5)
    walk_at "go"
    refine ⟨p, 2, rfl, p5, by decide, by decide, fun H6 y b6 p6 y0 y1 => ?_⟩
    walk_at "go"
    refine ⟨p, many, rfl, p6, by omega, by omega, fun H7 q ns b7 p7 hq0 hq nl nn nd nzz => ?_⟩
    have nqp : q ≠ p := p6.ne hq0
    walk_at "go"
    refine ⟨p, q, h, decide (y = 0), ns, rfl, p7, hq, nqp, by omega, by omega, nn, nd, hh4.1, hh4.2, fun H8 D l b8 p8 hD nDp hT kl gl fl => ?_⟩
    have ll : l.length = ns.length := by
      have := congrArg List.length kl
      rwa [List.length_map] at this
    walk_at "go"
    refine ⟨sz_le (by simp), fun r hr0 => ?_⟩
    have sr : L2.Same H8 (upd H8 r (.lst [.int h, .ref q, .ref D])) := same_new hr0
    have b18 : But p H1 H8 := ((b15.trans b6).trans b7).trans b8
    refine k _ r q D h ns l (fun b o e => sr _ _ (b18 b o (s1 b o e) (ne_of_none e hp0))) upd_same (sr _ _ (b8 q _ hq nqp)) ((hT.same wo_same).same sr) ⟨by rw [kl]; exact nd, by omega, by omega, fun z hz => nn z (by rw [← kl]; exact hz), fun z x hx => by rw [kl]; exact gl z x hx⟩ kl hh4.1 hh4.2 (by omega) fl nzz
end
/-! ### what a work tells of its stands -/
theorem wkF_none {h : Int} {st : Str} {t n e : Addr} {r : Bool} {m : Str} (h1 : m ≠ "ringless") (h2 : m ≠ "ends") (h3 : m ≠ "names") (h4 : m ≠ "table") (h5 : m ≠ "start") (h6 : m ≠ "hands") : (wkF h st t n e r).lookup m = none := by
  unfold wkF
  rw [lookup_putF, if_neg h1, lookup_putF, if_neg h2, lookup_putF, if_neg h3, lookup_putF, if_neg h4, lookup_putF, if_neg h5, lookup_putF, if_neg h6]
  rfl
theorem wkF_table {h : Int} {st : Str} {t n e : Addr} {r : Bool} : (wkF h st t n e r).lookup ("table" : Str) = some (.ref t) := by
  unfold wkF
  rw [lookup_putF, if_neg (by decide +kernel), lookup_putF, if_neg (by decide +kernel), lookup_putF, if_neg (by decide +kernel), lookup_putF, if_pos rfl]
theorem wkF_start {h : Int} {st : Str} {t n e : Addr} {r : Bool} : (wkF h st t n e r).lookup ("start" : Str) = some (.str st) := by
  unfold wkF
  rw [lookup_putF, if_neg (by decide +kernel), lookup_putF, if_neg (by decide +kernel), lookup_putF, if_neg (by decide +kernel), lookup_putF, if_neg (by decide +kernel), lookup_putF, if_pos rfl]
theorem wkF_hands {h : Int} {st : Str} {t n e : Addr} {r : Bool} : (wkF h st t n e r).lookup ("hands" : Str) = some (.int h) := by
  unfold wkF
  rw [lookup_putF, if_neg (by decide +kernel), lookup_putF, if_neg (by decide +kernel), lookup_putF, if_neg (by decide +kernel), lookup_putF, if_neg (by decide +kernel), lookup_putF, if_neg (by decide +kernel), lookup_putF, if_pos rfl]
def moverV : Sd → V
  | .hand k _ => .int k
  | _ => .non
def stepsL : Sd → List Str
  | .fin => []
  | .chance l => l.map (·.1)
  | .hand _ l => l.map (·.1)
def toS : Sd → Str → Option Str
  | .fin, _ => none
  | .chance l, z => (l.lookup z).map (·.1)
  | .hand _ l, z => l.lookup z
def SrtSd (x : Sd) : Prop := sortedS (stepsL x) = true
theorem toS_mem {x : Sd} {z t : Str} (h : toS x z = some t) : z ∈ stepsL x := by
  cases x with
  | fin => cases h
  | chance l =>
    show z ∈ l.map (·.1)
    have h1 : (l.lookup z).map (·.1) = some t := h
    cases e : l.lookup z with
    | none => rw [e] at h1; cases h1
    | some q => exact List.mem_map.mpr ⟨_, lookup_mem e, rfl⟩
  | hand k l => exact List.mem_map.mpr ⟨_, lookup_mem (show l.lookup z = some t from h), rfl⟩
theorem toS_some {x : Sd} {z : Str} (h : z ∈ stepsL x) : ∃ t, toS x z = some t := by
  cases x with
  | fin => cases h
  | chance l =>
    obtain ⟨q, hq⟩ := lookup_isSome (l := l) (z := z) h
    exact ⟨q.1, by show (l.lookup z).map (·.1) = _; rw [hq]; rfl⟩
  | hand k l => exact lookup_isSome (l := l) h
/-- a work that is read; its table may be held -/
structure WorkRd (C : Addr) (H : Hp) (p : Addr) (h : Int) (st : Str) (l : List (Str × Sd)) : Prop where
  ex : ∃ dx t n e, H p = some (.ins C dx (wkF h st t n e (ringB l (l.map (·.1))))) ∧ TabRd H t l ∧ H n = some (.tup (strsV (l.map (·.1)))) ∧ H e = some (.tup (strsV ((l.map (·.1)).filter (finAt l))))
theorem WorkAt.rd {C : Addr} {H : Hp} {p : Addr} {h : Int} {st : Str} {l : List (Str × Sd)} (w : WorkAt C H p h st l) : WorkRd C H p h st l := by
  obtain ⟨dx, t, n, e, h1, h2, h3, h4⟩ := w.ex
  exact ⟨dx, t, n, e, h1, .of h2, h3, h4⟩
instance {C : Addr} {H : Hp} {p : Addr} {h : Int} {st : Str} {l : List (Str × Sd)} : Coe (WorkAt C H p h st l) (WorkRd C H p h st l) := ⟨WorkAt.rd⟩
theorem WorkRd.same {C : Addr} {H H' : Hp} {p : Addr} {h : Int} {st : Str} {l : List (Str × Sd)} (w : WorkRd C H p h st l) (s : L2.Same H H') : WorkRd C H' p h st l := by
  obtain ⟨dx, t, n, e, h1, h2, h3, h4⟩ := w.ex
  exact ⟨dx, t, n, e, s _ _ h1, h2.same s, s _ _ h3, s _ _ h4⟩
def spRow (C : Addr) : Sp := fun vs H Q _ => ∃ (a : Addr) (h : Int) (st z : Str) (l : List (Str × Sd)) (x : Sd), vs = [.ref a, .str z] ∧ WorkRd C H a h st l ∧ l.lookup z = some x ∧ ∀ b, SdAt H b x → Q (.ref b) H
def spKind (C : Addr) : Sp := fun vs H Q _ => ∃ (a : Addr) (h : Int) (st z : Str) (l : List (Str × Sd)) (x : Sd), vs = [.ref a, .str z] ∧ WorkRd C H a h st l ∧ l.lookup z = some x ∧ Q (.str (kindS x)) H
def spMover (C : Addr) : Sp := fun vs H Q _ => ∃ (a : Addr) (h : Int) (st z : Str) (l : List (Str × Sd)) (x : Sd), vs = [.ref a, .str z] ∧ WorkRd C H a h st l ∧ l.lookup z = some x ∧ Q (moverV x) H
def spSteps (C : Addr) : Sp := fun vs H Q _ => ∃ (a : Addr) (h : Int) (st z : Str) (l : List (Str × Sd)) (x : Sd), vs = [.ref a, .str z] ∧ WorkRd C H a h st l ∧ l.lookup z = some x ∧ GoodSd h (l.map (·.1)) x ∧ SrtSd x ∧
  ∀ H' p, L2.Same H H' → H p = none → H' p = some (.lst (strsV (stepsL x))) → Q (.ref p) H'
def spTo (C : Addr) : Sp := fun vs H Q _ => ∃ (a : Addr) (h : Int) (st z s t : Str) (l : List (Str × Sd)) (x : Sd), vs = [.ref a, .str z, .str s] ∧ WorkRd C H a h st l ∧ l.lookup z = some x ∧ toS x s = some t ∧ Q (.str t) H
/-! ### the law's mover -/
theorem x_asgT {te : TE} {K : PySem.W.Frag} {k : Nat} {gs : TGs} {σ : L2.St} {H : Hp} {n : L2.St → Hp → Prop} {r : VK} {b c : L2.St → Hp → Prop} (h : te σ H fun v H1 => gTup K k gs v σ H1 n) : tAsg te (gTup K k gs) ⟨n, r, b, c⟩ σ H := h
def spMoverL : Sp := fun vs H Q _ => ∃ (D : Addr) (z : Str) (l : List (Str × Sd)) (x : Sd), vs = [.ref D, .str z] ∧ TabRd H D l ∧ l.lookup z = some x ∧ Q (moverV x) H
def mvIn (lot : List Int) : Sd → Bool
  | .hand k _ => decide (k ∈ lot)
  | _ => false
theorem inV_non (ws : List Int) : inV .non (intsV ws) = false := by
  induction ws with
  | nil => rfl
  | cons a r ih => exact ih
theorem x_inMv {K : PySem.W.Frag} {H : Hp} {Q : VK} {p : Addr} {lot : List Int} {x : Sd} (h : SqT K H p (intsV lot)) (q : Q (.bl (mvIn lot x)) H) : rIn K false (moverV x) (.ref p) H Q := by
  cases x with
  | fin => exact ⟨p, _, rfl, .inr h, rfl, flat_ints lot, by show Q (.bl (inV .non (intsV lot))) H; rw [inV_non]; exact q⟩
  | chance _ => exact ⟨p, _, rfl, .inr h, rfl, flat_ints lot, by show Q (.bl (inV .non (intsV lot))) H; rw [inV_non]; exact q⟩
  | hand k _ => exact x_inTi h q
section
variable {P : Program} {w : World} {K : PySem.W.Frag} {mg : Str → Option Value} {base : Heap} {CW : Addr}
theorem ok_l_mover {f : Addr} {fd : FuncData} (F : Fun K "_law_mover" "_law_mover" s_l_mover f fd) : FnOk P w K mg base CX0 1 f fd ["_law_stands_here", "_law_stand_here"] spMoverL := by
  refine F.ok sc_l_mover (fun vs H Q E h => ?_) (fun cdv A outer s H vs Q E hr h => ?_)
  · obtain ⟨_, _, _, _, rfl, _⟩ := h
    rfl
  · obtain ⟨D, z, l, x, rfl, hT, hz, q⟩ := h
    have hu := hu_of hr
    obtain ⟨m, b, hm, hb, hx⟩ := hT.at hz
    refine ⟨_, (pss_cons (ps_if (pt_cmpR op_eq (pe_ix ix_tup (pe_dget hu (pv 0) (pv 1) (fun _ _ => rfl)) pe_int (fun _ _ => rfl)) pe_str (nomark _))
      (pss_one (ps_ret (pe_ix ix_tup (pe_dget hu (pv 0) (pv 1) (fun _ _ => rfl)) pe_int (fun _ _ => rfl))))
      pss_nil)
      (pss_one (ps_ret pe_non))), ?_⟩
    walk_at "go"
    refine x_getL hm hb ?_
    walk_at "go"
    cases x with
    | fin =>
      have hb1 : H b = some (.tup [.str "end"]) := hx
      refine x_ixt 0 (SqT.of hb1) rfl rfl ?_
      walk_at "go"
      refine x_no (by decide +kernel) ?_
      walk_at "go"
      exact q
    | chance l2 =>
      obtain ⟨d2, hb1, _⟩ := hx
      refine x_ixt 0 (SqT.of hb1) rfl rfl ?_
      walk_at "go"
      refine x_no (by decide +kernel) ?_
      walk_at "go"
      exact q
    | hand k2 l2 =>
      obtain ⟨d2, hb1, _⟩ := hx
      refine x_ixt 0 (SqT.of hb1) rfl rfl ?_
      walk_at "go"
      refine x_yes rfl ?_
      walk_at "go"
      refine x_getL hm hb ?_
      walk_at "go"
      refine x_ixt 1 (SqT.of hb1) rfl rfl ?_
      exact q
end
/-! ### family C: steps, where they lead, worths -/
def spStepsC : Sp := fun vs H Q _ => ∃ (D : Addr) (z : Str) (l : List (Str × Sd)) (x : Sd) (h : Int) (ns : List Str), vs = [.ref D, .str z] ∧ TabRd H D l ∧ l.lookup z = some x ∧ GoodSd h ns x ∧
  ∀ H' p ss, L2.Same H H' → H p = none → H' p = some (.lst (strsV ss)) → ss.Perm (stepsL x) → sortedS ss = true → Q (.ref p) H'
def spToC : Sp := fun vs H Q _ => ∃ (D : Addr) (z s t : Str) (l : List (Str × Sd)) (x : Sd), vs = [.ref D, .str z, .str s] ∧ TabRd H D l ∧ l.lookup z = some x ∧ toS x s = some t ∧ Q (.str t) H
def spWorthsC : Sp := fun vs H Q _ => ∃ (p D : Addr) (l : List (Str × Sd)) (h : Int), vs = [.ref p, .ref D] ∧ PoolAt H p ∧ DictOf SdAt (wo H p) D l ∧ D ≠ p ∧ GoodT h l ∧
  ∀ H' G wl, But p H H' → PoolAt H' p → H G = none → G ≠ p → H' G = some (.dK (strK V.int wl)) → (wl.map (·.1)).Nodup → (∀ z, z ∈ wl.map (·.1) ↔ l.lookup z = some .fin) → (∀ q ∈ wl, -96 ≤ q.2 ∧ q.2 ≤ 96) → Q (.ref G) H'
section
variable {P : Program} {w : World} {K : PySem.W.Frag} {mg : Str → Option Value} {base : Heap}
theorem ok_l_steps {f : Addr} {fd : FuncData} (F : Fun K "_law_steps" "_law_steps" s_l_steps f fd) (Z_sorted : mg "sorted" = none) (Z_len : mg "len" = none) : FnOk P w K mg base CX0 1 f fd ["_law_stands_here", "_law_stand_here"] spStepsC := by
  refine F.ok sc_l_steps (fun vs H Q E h => ?_) (fun cdv A outer s H vs Q E hr h => ?_)
  · obtain ⟨_, _, _, _, _, _, rfl, _⟩ := h
    rfl
  · obtain ⟨D, z, l, x, h, ns, rfl, hT, hz, hg, q⟩ := h
    have hu := hu_of hr
    obtain ⟨m, b, hm, hb, hx⟩ := hT.at hz
    refine ⟨_, (pss_cons (ps_set (i := 2) sc_l_steps.nd rfl (Or.inl rfl) (pe_dget hu (pv 0) (pv 1) (fun _ _ => rfl)))
      (pss_cons (ps_if (pt_cmpR op_eq (pe_ix ix_tup (pv 2) pe_int (fun _ _ => rfl)) pe_str (nomark _))
      (pss_one (ps_ret (pe_lst pa_nil)))
      pss_nil)
      (pss_one (ps_ret (pe_callB (call_sortedDA rfl) (by rfl) Z_sorted (by decide +kernel) (pa_cons (pe_ix ix_tup (pv 2) (pe_op op_sub (pe_callB call_lenA (by rfl) Z_len (by decide +kernel) (pa_cons (pv 2) pa_nil)) pe_int) (fun _ _ => rfl)) pa_nil)))))), ?_⟩
    walk_at "go"
    refine x_getL hm hb ?_
    walk_at "go"
    cases x with
    | fin =>
      have hb1 : H b = some (.tup [.str "end"]) := hx
      refine x_ixt 0 (SqT.of hb1) rfl rfl ?_
      walk_at "go"
      refine x_yes rfl ?_
      walk_at "go"
      refine ⟨by decide, fun p hp => ?_⟩
      exact q _ p [] (same_new hp) hp upd_same (List.Perm.refl _) rfl
    | chance l2 =>
      obtain ⟨d2, hb1, hD⟩ := hx
      obtain ⟨g1, g2, g3, g4⟩ := hg
      obtain ⟨m2, hd, hk, hp2⟩ := hD.ex
      have ek : (strK V.ref m2).map (·.1) = (m2.map (·.1)).map Sum.inr := by rw [List.map_map, List.map_map]; rfl
      rw [hk] at ek
      refine x_ixt 0 (SqT.of hb1) rfl rfl ?_
      walk_at "go"
      refine x_no (by decide +kernel) ?_
      walk_at "go"
      refine x_lenT (SqT.of hb1) ?_
      walk_at "go"
      refine x_ixt 1 (SqT.of hb1) rfl rfl ?_
      walk_at "go"
      refine ⟨d2, _, l2.map (·.1), rfl, .inl hd, ek, by rw [List.length_map]; omega, fun ys c hperm hsort hc => ?_⟩
      exact q _ c ys (same_new hc) hc upd_same hperm hsort
    | hand k2 l2 =>
      obtain ⟨d2, hb1, hd⟩ := hx
      obtain ⟨_, _, g1, g2, g3, g4⟩ := hg
      have ek : (strK V.str l2).map (·.1) = (l2.map (·.1)).map Sum.inr := by rw [List.map_map, List.map_map]; rfl
      refine x_ixt 0 (SqT.of hb1) rfl rfl ?_
      walk_at "go"
      refine x_no (by decide +kernel) ?_
      walk_at "go"
      refine x_lenT (SqT.of hb1) ?_
      walk_at "go"
      refine x_ixt 2 (SqT.of hb1) rfl rfl ?_
      walk_at "go"
      refine ⟨d2, _, l2.map (·.1), rfl, .inl hd, ek, by rw [List.length_map]; omega, fun ys c hperm hsort hc => ?_⟩
      exact q _ c ys (same_new hc) hc upd_same hperm hsort
theorem ok_l_to {f : Addr} {fd : FuncData} (F : Fun K "_law_to" "_law_to" s_l_to f fd) : FnOk P w K mg base CX0 1 f fd ["_law_stands_here", "_law_stand_here", "_law_step"] spToC := by
  refine F.ok sc_l_to (fun vs H Q E h => ?_) (fun cdv A outer s H vs Q E hr h => ?_)
  · obtain ⟨_, _, _, _, _, _, rfl, _⟩ := h
    rfl
  · obtain ⟨D, z, sp, t, l, x, rfl, hT, hz, ht, q⟩ := h
    have hu := hu_of hr
    obtain ⟨m, b, hm, hb, hx⟩ := hT.at hz
    refine ⟨_, (pss_cons (ps_set (i := 3) sc_l_to.nd rfl (Or.inl rfl) (pe_dget hu (pv 0) (pv 1) (fun _ _ => rfl)))
      (pss_cons (ps_if (pt_cmpR op_eq (pe_ix ix_tup (pv 3) pe_int (fun _ _ => rfl)) pe_str (nomark _))
      (pss_one (ps_ret (pe_dget hu (pe_ix ix_tup (pv 3) pe_int (fun _ _ => rfl)) (pv 2) (fun _ _ => rfl))))
      pss_nil)
      (pss_one (ps_ret (pe_ix ix_tup (pe_dget hu (pe_ix ix_tup (pv 3) pe_int (fun _ _ => rfl)) (pv 2) (fun _ _ => rfl)) pe_int (fun _ _ => rfl)))))), ?_⟩
    walk_at "go"
    refine x_getL hm hb ?_
    walk_at "go"
    cases x with
    | fin => cases ht
    | chance l2 =>
      obtain ⟨d2, hb1, hD⟩ := hx
      have h1 : (l2.lookup sp).map (·.1) = some t := ht
      cases h2 : l2.lookup sp with
      | none => rw [h2] at h1; cases h1
      | some v =>
        rw [h2] at h1
        have e : v.1 = t := Option.some.inj h1
        obtain ⟨m3, e3, hd3, he3, hpr⟩ := hD.at h2
        have hpr1 : H e3 = some (.tup [.str v.1, .int v.2]) := hpr
        refine x_ixt 0 (SqT.of hb1) rfl rfl ?_
        walk_at "go"
        refine x_no (by decide +kernel) ?_
        walk_at "go"
        refine x_ixt 1 (SqT.of hb1) rfl rfl ?_
        walk_at "go"
        refine x_getL (l := m3) (.inl hd3) he3 ?_
        walk_at "go"
        refine x_ixt 0 (SqT.of hpr1) rfl rfl ?_
        rw [e]
        exact q
    | hand k2 l2 =>
      obtain ⟨d2, hb1, hd⟩ := hx
      refine x_ixt 0 (SqT.of hb1) rfl rfl ?_
      walk_at "go"
      refine x_yes rfl ?_
      walk_at "go"
      refine x_ixt 2 (SqT.of hb1) rfl rfl ?_
      walk_at "go"
      exact x_getL (l := l2) (.inl hd) (show l2.lookup sp = some t from ht) q
theorem ok_l_worths {f : Addr} {fd : FuncData} (F : Fun K "_law_worths" "_law_worths" s_l_worths f fd) (Z_sorted : mg "sorted" = none) (C_draw : Cal P w K mg base 1 "_law_draw" ["_law_drawer", "_law_many"] spDraw) : FnOk P w K mg base CX0 2 f fd ["_law_drawer", "_law_stands_here"] spWorthsC := by
  refine F.ok sc_l_worths (fun vs H Q E h => ?_) (fun cdv A outer s H vs Q E hr h => ?_)
  · obtain ⟨_, _, _, _, rfl, _⟩ := h
    rfl
  · obtain ⟨p, D, l, h, rfl, hp, hT, nDp, g, k⟩ := h
    have hu := hu_of hr
    obtain ⟨m0, hD0, hk0, _⟩ := id hT.ex
    refine ⟨_, (pss_cons (ps_set (i := 2) sc_l_worths.nd rfl (Or.inl rfl) (pe_ix ix_list (pe_lst (pa_cons pe_int (pa_cons pe_int (pa_cons pe_int (pa_cons pe_int pa_nil))))) (pe_cal C_draw (hr.mono (by decide)) (by rfl) (pa_cons (pv 0) (pa_cons pe_int pa_nil))) (fun _ _ => rfl)))
      (pss_cons (ps_set (i := 3) sc_l_worths.nd rfl (Or.inl rfl) pe_dnewK)
      (pss_cons (ps_for PassesOwn.never rfl (pi_list (pe_callB (call_sortedDA rfl) (by rfl) Z_sorted (by decide +kernel) (pa_cons (pv 1) pa_nil))) (pg_name (i := 4) sc_l_worths.nd rfl (Or.inl rfl))
      (pss_one (ps_if (pt_cmpR op_eq (pe_ix ix_tup (pe_dget hu (pv 1) (pv 4) (fun _ _ => rfl)) pe_int (fun _ _ => rfl)) pe_str (nomark _))
      (pss_one (ps_dput hu (pv 3) (pv 4) (pe_op op_sub (pe_cal C_draw (hr.mono (by decide)) (by rfl) (pa_cons (pv 0) (pa_cons (pe_op op_add (pe_op op_mulA pe_int (pv 2)) pe_int) pa_nil))) (pv 2)) rfl))
      pss_nil)))
      (pss_one (ps_ret (pv 3)))))), ?_⟩
    walk_at "go"
    refine ⟨sz_le (by simp), fun ln hln => ?_⟩
    have p1 := hp.new (o := .lst [.int 9, .int 3, .int 1, .int 96]) hln
    walk_at "go"
    refine ⟨p, 4, rfl, p1, by decide, by decide, fun H2 j b2 p2 j0 j1 => ?_⟩
    obtain ⟨sz, hsz, hsm⟩ := pickI [9, 3, 1, 96] j0 j1
    have hs96 : 1 ≤ sz ∧ sz ≤ 96 := by simp at hsm; omega
    refine x_ixl j.toNat (SqL.of (b2 ln _ upd_same (hp.ne hln))) (by omega) hsz ?_
    have b02 : But p H H2 := (But.of_same (same_new hln)).trans b2
    walk_at "go"
    intro G hG
    have nGp : G ≠ p := p2.ne hG
    have hG0 : H G = none := none_of_but b02 hG nGp
    have nDG : D ≠ G := ne_of_none (wo_some hD0).1 hG0
    have b3 : But p H (upd H2 G (.dK [])) := b02.new hG
    have p3 := p2.new (o := .dK []) hG
    have hG3 : (upd H2 G (.dK [])) G = some (.dK []) := upd_same
    generalize upd H2 G (.dK []) = H3 at b3 p3 hG3 ⊢
    have tab : ∀ H', But p H H' → DictOf SdAt H' D l := fun H' b => (hT.same (but_wo b)).same wo_same
    obtain ⟨m, hD, hk, _⟩ := (tab H3 b3).ex
    have ek : (strK V.ref m).map (·.1) = (l.map (·.1)).map Sum.inr := by rw [← hk, List.map_map, List.map_map]; rfl
    have g2 := g.l2
    walk_at "go"
    refine ⟨D, _, l.map (·.1), rfl, .inl hD, ek, by rw [List.length_map]; omega, fun ys c hperm hsort hc => ?_⟩
    have ynd : ys.Nodup := (hperm.nodup_iff).mpr g.nd
    have ncp : c ≠ p := p3.ne hc
    have nGc : G ≠ c := ne_of_none hG3 hc
    have hc0 : H c = none := none_of_but b3 hc ncp
    have yl : ys.length ≤ 100 := by rw [hperm.length_eq, List.length_map]; exact g2
    refine lpL (xs := strsV ys) (fun i σ H' => ∃ v4 wl, σ = [some (.ref p), some (.ref D), some (.int sz), some (.ref G), v4] ∧ But p H H' ∧ PoolAt H' p ∧ H' c = some (.lst (strsV ys)) ∧ H' G = some (.dK (strK V.int wl)) ∧ (wl.map (·.1)).Nodup ∧ wl.length ≤ i ∧
      (∀ z, z ∈ wl.map (·.1) ↔ z ∈ ys.take i ∧ l.lookup z = some .fin) ∧ ∀ q ∈ wl, -96 ≤ q.2 ∧ q.2 ≤ 96) (SqL.of upd_same) ?_ ?_ ?_ ?_
    · exact ⟨_, [], rfl, b3.new hc, p3.new hc, upd_same, by rw [upd_ne nGc]; exact hG3, List.nodup_nil, Nat.zero_le _, fun z => by simp, fun q hq => by cases hq⟩
    · exact fun i σ H' _ ⟨_, _, _, _, _, h, _⟩ => SqL.of h
    · rintro i v σ H4 hv ⟨v4, wl, rfl, b4, p4, hc4, hG4, wnd, wll, wk, wb⟩
      rw [List.getElem?_map] at hv
      cases hz : ys[i]? with
      | none => rw [hz] at hv; cases hv
      | some z =>
        rw [hz] at hv
        have ex : V.str z = v := Option.some.inj hv
        subst ex
        have hi : i < ys.length := (List.getElem?_eq_some_iff.mp hz).1
        have hzl : z ∈ l.map (·.1) := hperm.mem_iff.mp (List.mem_of_getElem? hz)
        obtain ⟨x, hx⟩ := lookup_isSome hzl
        obtain ⟨m4, b, hm4, hb4, hxa⟩ := (tab H4 b4).at hx
        obtain ⟨xs, hx1, hx2⟩ := sd_tup hxa
        have tk : ∀ y, y ∈ ys.take (i + 1) ↔ y ∈ ys.take i ∨ y = z := fun y => by
          rw [take_succ_get hz, List.mem_append, List.mem_singleton]
        walk_at "go"
        refine x_getL (.inl hm4) hb4 ?_
        walk_at "go"
        refine x_ixt 0 (SqT.of hx1) rfl hx2 ?_
        walk_at "go"
        rw [kind_fin]
        refine x_ite (fun hfin => ?_) (fun hfin => ?_)
        · have ex : x = .fin := by
            cases x with
            | fin => rfl
            | chance _ => cases hfin
            | hand _ _ => cases hfin
          subst ex
          walk_at "go"
          refine ⟨p, 2 * sz + 1, rfl, p4, by omega, by omega, fun H5 u b5 p5 u0 u1 => ?_⟩
          walk_at "go"
          refine x_putL (l := wl) (x := u - sz) (b5 G _ hG4 nGp) (by omega) rfl ?_
          walk_at "go"
          refine ⟨_, putL wl z (u - sz), rfl, fun b o e n => ?_, p5.upd nGp.symm, by rw [upd_ne nGc.symm]; exact b5 c _ hc4 ncp, upd_same, putL_nd _ wnd, Nat.le_trans (putL_len _ _ _) (Nat.succ_le_succ wll), fun y => ?_, fun q hq => ?_⟩
          · rw [upd_ne (ne_of_none e hG0)]
            exact b5 b o (b4 b o e n) n
          · rw [tk y]
            have e1 : y ∈ (putL wl z (u - sz)).map (·.1) ↔ y = z ∨ y ∈ wl.map (·.1) := by
              constructor
              · intro h
                obtain ⟨q, hq, e⟩ := List.mem_map.mp h
                rcases putL_mem hq with rfl | ⟨hq, _⟩
                · exact .inl e.symm
                · exact .inr (List.mem_map.mpr ⟨q, hq, e⟩)
              · intro h
                have hs : ((putL wl z (u - sz)).lookup y).isSome = true := by
                  rw [lookup_putL]
                  rcases h with e | h
                  · rw [if_pos e]
                    rfl
                  · by_cases e : y = z
                    · rw [if_pos e]
                      rfl
                    · rw [if_neg e]
                      obtain ⟨v, hv⟩ := lookup_isSome h
                      rw [hv]
                      rfl
                cases e2 : (putL wl z (u - sz)).lookup y with
                | none => rw [e2] at hs; cases hs
                | some v => exact List.mem_map.mpr ⟨_, lookup_mem e2, rfl⟩
            rw [e1, wk y]
            constructor
            · rintro (rfl | ⟨h1, h2⟩)
              · exact ⟨.inr rfl, hx⟩
              · exact ⟨.inl h1, h2⟩
            · rintro ⟨h1 | h1, h2⟩
              · exact .inr ⟨h1, h2⟩
              · exact .inl h1
          · rcases putL_mem hq with rfl | ⟨hq, _⟩
            · exact ⟨by show -96 ≤ u - sz; omega, by show u - sz ≤ 96; omega⟩
            · exact wb q hq
        · walk_at "go"
          refine ⟨_, wl, rfl, b4, p4, hc4, hG4, wnd, by omega, fun y => ?_, wb⟩
          rw [tk y, wk y]
          constructor
          · rintro ⟨h1, h2⟩
            exact ⟨.inl h1, h2⟩
          · rintro ⟨h1 | h1, h2⟩
            · exact ⟨h1, h2⟩
            · rw [h1, hx] at h2
              cases h2
              cases hfin
    · rintro σ H4 ⟨v4, wl, rfl, b4, p4, hc4, hG4, wnd, wll, wk, wb⟩
      rw [List.length_map, List.take_length] at wk
      walk_at "go"
      refine k H4 G wl b4 p4 hG0 nGp hG4 wnd (fun z => ?_) wb
      rw [wk z]
      exact ⟨fun h => h.2, fun h => ⟨hperm.mem_iff.mpr (List.mem_map.mpr ⟨_, lookup_mem h, rfl⟩), h⟩⟩
end
/-! ### a lot -/
structure LotOk (h : Int) (lot : List Int) : Prop where
  asc : lot.Pairwise (· < ·)
  bd : ∀ k ∈ lot, 0 ≤ k ∧ k < h
/-! ### family C: endless, a lot, a level -/
def spEndlessC : Sp := fun vs H Q _ => ∃ (p G : Addr) (wl : List (Str × Int)), vs = [.ref p, .ref G] ∧ PoolAt H p ∧ H G = some (.dK (strK V.int wl)) ∧ G ≠ p ∧ (wl.map (·.1)).Nodup ∧ 1 ≤ wl.length ∧ wl.length ≤ 100 ∧ (∀ q ∈ wl, -96 ≤ q.2 ∧ q.2 ≤ 96) ∧
  ∀ H' e, But p H H' → PoolAt H' p → -98 ≤ e → e ≤ 98 → Side e wl → Q (.int e) H'
def spLotC : Sp := fun vs H Q _ => ∃ (p : Addr) (h : Int), vs = [.ref p, .int h] ∧ PoolAt H p ∧ 1 ≤ h ∧ h ≤ 4 ∧
  ∀ H' a lot, But p H H' → PoolAt H' p → H a = none → a ≠ p → H' a = some (.tup (intsV lot)) → LotOk h lot → Q (.ref a) H'
/-- the worths as a list, in the order of the names ys -/
theorem vals_perm {wl : List (Str × Int)} {ys : List Str} (nd : (wl.map (·.1)).Nodup) (hp : ys.Perm (wl.map (·.1))) (v : Int) : v ∈ ys.map (fun z => (wl.lookup z).getD 0) ↔ ∃ q ∈ wl, q.2 = v := by
  constructor
  · intro h
    obtain ⟨z, hz, e⟩ := List.mem_map.mp h
    obtain ⟨x, hx⟩ := lookup_isSome (hp.mem_iff.mp hz)
    rw [hx] at e
    exact ⟨_, lookup_mem hx, e⟩
  · rintro ⟨q, hq, e⟩
    refine List.mem_map.mpr ⟨q.1, hp.mem_iff.mpr (List.mem_map.mpr ⟨q, hq, rfl⟩), ?_⟩
    rw [lookup_of nd (z := q.1) (x := q.2) hq]
    exact e
/-- [d[z] for z in sorted(d)], d a dict of ints -/
theorem lc_sortedI {K : PySem.W.Frag} {σ : L2.St} {H : Hp} {Qd : Addr → Hp → Prop} {d : Addr} {wl : List (Str × Int)} {j n : Nat} (hd : H d = some (.dK (strK V.int wl))) (hnd : (wl.map (·.1)).Nodup) (hl : wl.length ≤ 100) (hj : j ≠ n) (hn : n < σ.length)
    (h2 : σ[j]? = some (some (.ref d))) (k : ∀ (H' : Hp) (D : Addr) (ys : List Str), L2.Same H H' → H D = none → ys.Perm (wl.map (·.1)) → H' D = some (.lst (intsV (ys.map fun z => (wl.lookup z).getD 0))) → Qd D H') :
    rSortDA [.ref d] H fun x H1 => RunL K (fun J H1 => ∀ D, H1 D = none → LcP J (gName n) tYes (tDGet (tVar j) (tVar n)) [n] σ D (Qd D) H1) x H1 := by
  have ek : (strK V.int wl).map (·.1) = (wl.map (·.1)).map Sum.inr := by rw [List.map_map, List.map_map]; rfl
  refine ⟨d, _, wl.map (·.1), rfl, .inl hd, ek, by rw [List.length_map]; omega, fun ys c hperm hsort hc => runL (SqL.of upd_same) fun D hD => ?_⟩
  have ncD : c ≠ D := ne_of_none upd_same hD
  have hD0 : H D = none := by rw [upd_ne ncD.symm] at hD; exact hD
  have yl : ys.length ≤ 100 := by rw [hperm.length_eq, List.length_map]; exact hl
  refine lcL (xs := strsV ys) (fun t H' => L2.Same H H' ∧ H' c = some (.lst (strsV ys)) ∧ H' D = some (.lst (intsV ((ys.take t).map fun z => (wl.lookup z).getD 0)))) ⟨same_upd (same_new hc) hD0, by rw [upd_ne ncD]; exact upd_same, upd_same⟩ (fun t H' _ h => SqL.of h.2.1) ?_ ?_
  · rintro t x H' hx ⟨s4, hc4, hD4⟩
    rw [List.getElem?_map] at hx
    cases hz : ys[t]? with
    | none => rw [hz] at hx; cases hx
    | some z =>
      rw [hz] at hx
      have ex : V.str z = x := Option.some.inj hx
      subst ex
      have hzm : z ∈ wl.map (·.1) := hperm.mem_iff.mp (List.mem_of_getElem? hz)
      obtain ⟨v, hv⟩ := lookup_isSome hzm
      refine x_g1 ⟨?_, x_yes1 (x_T (x_dget (x_var (v := .ref d) ?_ (x_var (v := .str z) ?_ (x_getL (l := wl) (.inl (s4 _ _ hd)) hv ⟨_, hD4, sz_lt (by rw [List.length_map, List.length_map, List.length_take]; omega), same_upd s4 hD0, by rw [upd_ne ncD]; exact hc4, ?_⟩)))))⟩
      · show ((σ.set n none).set n (some (.str z))).set n none = σ.set n none
        rw [List.set_set, List.set_set]
      · show ((σ.set n none).set n _)[j]? = _
        rw [List.getElem?_set_ne hj.symm, List.getElem?_set_ne hj.symm]
        exact h2
      · show ((σ.set n none).set n _)[n]? = _
        rw [List.getElem?_set_self (by rw [List.length_set]; exact hn)]
      · rw [upd_same, take_succ_get hz]
        simp [hv]
  · rintro H' ⟨s4, hc4, hD4⟩
    rw [List.length_map, List.take_length] at hD4
    exact k H' D ys s4 hD0 hperm hD4
section
variable {P : Program} {w : World} {K : PySem.W.Frag} {mg : Str → Option Value} {base : Heap}
theorem ok_l_endless {f : Addr} {fd : FuncData} (F : Fun K "_law_endless" "_law_endless" s_endless f fd) (Z_sorted : mg "sorted" = none) (Z_max : mg "max" = none) (Z_min : mg "min" = none)
    (C_draw : Cal P w K mg base 1 "_law_draw" ["_law_drawer", "_law_many"] spDraw) : FnOk P w K mg base CX0 2 f fd ["_law_drawer", "_law_worths_here"] spEndlessC := by
  refine F.ok sc_endless (fun vs H Q E h => ?_) (fun cdv A outer s H vs Q E hr h => ?_)
  · obtain ⟨_, _, _, rfl, _⟩ := h
    rfl
  · obtain ⟨p, G, wl, rfl, hp, hG, nGp, nd, l1, l2, hb, k⟩ := h
    have hu := hu_of hr
    refine ⟨_, (pss_cons (ps_setLc (i := 2) (own := [("_law_stand_here", 4)]) (g := gName 4) (tt := tYes) (by rfl) sc_endless.nd rfl rfl (sw_true rfl rfl rfl (by decide +kernel)) (pi_list (pe_callB (call_sortedDA rfl) (by rfl) Z_sorted (by decide +kernel) (pa_cons (pv 1) pa_nil))) (blkOk_by (own := [("_law_stand_here", 4)]) (N := N_endless) (sc := defScope s_endless) (by decide +kernel)) (fun _ _ _ _ _ => (pg_name (i := 4) sc_endless.nd rfl (Or.inl rfl))) (fun _ _ _ _ _ => pts_nil) (fun _ _ _ _ _ => by exact (pe_dget hu (pv 1) (pv 4) (fun _ _ => rfl))))
      (pss_cons (ps_set (i := 3) sc_endless.nd rfl (Or.inl rfl) (pe_cal C_draw (hr.mono (by decide)) (by rfl) (pa_cons (pv 0) (pa_cons pe_int pa_nil))))
      (pss_cons (ps_if (pt_cmpR op_eq (pe_cal C_draw (hr.mono (by decide)) (by rfl) (pa_cons (pv 0) (pa_cons pe_int pa_nil))) pe_int (nomark _))
      (pss_one (ps_ret (pe_op op_sub (pe_callB (cr_min rfl) (by rfl) Z_min (by decide +kernel) (pa_cons (pv 2) pa_nil)) (pv 3))))
      pss_nil)
      (pss_one (ps_ret (pe_op op_add (pe_callB (cr_max rfl) (by rfl) Z_max (by decide +kernel) (pa_cons (pv 2) pa_nil)) (pv 3))))))), ?_⟩
    walk_at "go"
    refine lc_sortedI (j := 1) (n := 4) hG nd l2 (by decide) ?hn rfl fun H2 D ys s2 hD hperm hD2 => ?_
    case hn => exact (by decide : 4 < 5)
    have nDp : D ≠ p := hp.ne hD
    have p2 := hp.same s2
    walk_at "go"
    refine ⟨p, 3, rfl, p2, by decide, by decide, fun H3 gp b3 p3 g0 g1 => ?_⟩
    walk_at "go"
    refine ⟨p, 2, rfl, p3, by decide, by decide, fun H4 y b4 p4 y0 y1 => ?_⟩
    have bb : But p H H4 := ((But.of_same s2).trans b3).trans b4
    have hD4 := b4 D _ (b3 D _ hD2 nDp) nDp
    have hmem := vals_perm nd hperm
    have hpos : 0 < (ys.map fun z => (wl.lookup z).getD 0).length := by
      rw [List.length_map, hperm.length_eq, List.length_map]
      omega
    generalize (ys.map fun z => (wl.lookup z).getD 0) = vals at hD4 hmem hpos
    walk_at "go"
    refine x_dec (fun hs => ?_) (fun hs => ?_)
    · walk_at "go"
      refine ⟨D, vals, rfl, SqL.of hD4, hpos, fun mm hm hle => ?_⟩
      obtain ⟨q, hq, hqm⟩ := (hmem mm).mp hm
      have hbq := hb q hq
      walk_at "go"
      refine k H4 _ bb p4 (by omega) (by omega) (.inl fun y hy => ?_)
      have := hle y.2 ((hmem y.2).mpr ⟨y, hy, rfl⟩)
      omega
    · walk_at "go"
      refine ⟨D, vals, rfl, SqL.of hD4, hpos, fun mm hm hle => ?_⟩
      obtain ⟨q, hq, hqm⟩ := (hmem mm).mp hm
      have hbq := hb q hq
      walk_at "go"
      refine k H4 _ bb p4 (by omega) (by omega) (.inr fun y hy => ?_)
      have := hle y.2 ((hmem y.2).mpr ⟨y, hy, rfl⟩)
      omega
/-- a level: a fraction -/
structure LvOk (b : Int × Int) : Prop where
  d1 : 1 ≤ b.2
  d2 : b.2 ≤ 10 ^ 27
  t1 : -(10 ^ 30) ≤ b.1
  t2 : b.1 ≤ 10 ^ 30
  gc : Nat.gcd b.1.natAbs b.2.natAbs = 1
def spLevelC : Sp := fun vs H Q _ => ∃ (p G : Addr) (e : Int) (wl : List (Str × Int)), vs = [.ref p, .ref G, .int e] ∧ PoolAt H p ∧ H G = some (.dK (strK V.int wl)) ∧ G ≠ p ∧ (wl.map (·.1)).Nodup ∧ wl.length ≤ 100 ∧ (∀ q ∈ wl, -96 ≤ q.2 ∧ q.2 ≤ 96) ∧ -98 ≤ e ∧ e ≤ 98 ∧
  ∀ H' a b, But p H H' → PoolAt H' p → H a = none → a ≠ p → H' a = some (.tup [.int b.1, .int b.2]) → LvOk b → Q (.ref a) H'
theorem gcd_near {x n : Nat} (h : x % n = 1 ∨ (n ≠ 1 ∧ (x + 1) % n = 0)) (hn : 1 ≤ n) : Nat.gcd x n = 1 := by
  have hd : Nat.gcd x n ∣ 1 := by
    have g1 : Nat.gcd x n ∣ x := Nat.gcd_dvd_left _ _
    have g2 : Nat.gcd x n ∣ n := Nat.gcd_dvd_right _ _
    rcases h with h | ⟨_, h⟩
    · have e : x = n * (x / n) + 1 := by
        have := Nat.div_add_mod x n
        omega
      have h3 : Nat.gcd x n ∣ n * (x / n) := Nat.dvd_trans g2 (Nat.dvd_mul_right _ _)
      have g3 : Nat.gcd x n ∣ n * (x / n) + 1 := by
        rw [← e]
        exact g1
      exact (Nat.dvd_add_right h3).mp g3
    · have h3 : n ∣ x + 1 := Nat.dvd_of_mod_eq_zero h
      exact (Nat.dvd_add_right g1).mp (Nat.dvd_trans g2 h3)
  exact Nat.dvd_one.mp hd
theorem ok_l_level {f : Addr} {fd : FuncData} (F : Fun K "_law_level" "_law_level" s_l_level f fd) (Z_sorted : mg "sorted" = none) (Z_len : mg "len" = none) (C_draw : Cal P w K mg base 1 "_law_draw" ["_law_drawer", "_law_many"] spDraw) : FnOk P w K mg base CX0 2 f fd ["_law_drawer", "_law_worths_here", "_law_endless_here"] spLevelC := by
  refine F.ok sc_l_level (fun vs H Q E h => ?_) (fun cdv A outer s H vs Q E hr h => ?_)
  · obtain ⟨_, _, _, _, rfl, _⟩ := h
    rfl
  · obtain ⟨p, G, e, wl, rfl, hp, hG, nGp, nd, l2, hb, e0, e1, k⟩ := h
    have hu := hu_of hr
    refine ⟨_, (pss_cons (ps_set (i := 3) sc_l_level.nd rfl (Or.inl rfl) (pe_op op_cat (pe_lst (pa_cons (pv 2) pa_nil)) (pe_lc (own := [("_law_stand_here", 6)]) (g := gName 6) (tt := tYes) (by rfl) sc_l_level.nd (pi_list (pe_callB (call_sortedDA rfl) (by rfl) Z_sorted (by decide +kernel) (pa_cons (pv 1) pa_nil))) (blkOk_by (own := [("_law_stand_here", 6)]) (N := N_l_level) (sc := defScope s_l_level) (by decide +kernel)) (fun _ _ _ _ _ => (pg_name (i := 6) sc_l_level.nd rfl (Or.inl rfl))) (fun _ _ _ _ _ => pts_nil) (fun _ _ _ _ _ => by exact (pe_dget hu (pv 1) (pv 6) (fun _ _ => rfl))))))
      (pss_cons (ps_set (i := 4) sc_l_level.nd rfl (Or.inl rfl) (pe_ix ix_list (pv 3) (pe_cal C_draw (hr.mono (by decide)) (by rfl) (pa_cons (pv 0) (pa_cons (pe_callB call_lenA (by rfl) Z_len (by decide +kernel) (pa_cons (pv 3) pa_nil)) pa_nil))) (fun _ _ => rfl)))
      (pss_cons (ps_set (i := 5) sc_l_level.nd rfl (Or.inl rfl) (pe_cal C_draw (hr.mono (by decide)) (by rfl) (pa_cons (pv 0) (pa_cons pe_int pa_nil))))
      (pss_cons (ps_if (pt_cmpR op_eq (pv 5) pe_int (nomark _))
      (pss_one (ps_ret (pe_tup (pa_cons (pe_op op_add (pe_op op_mulA pe_int (pv 4)) pe_int) (pa_cons pe_int pa_nil)))))
      pss_nil)
      (pss_cons (ps_if (pt_cmpR op_eq (pv 5) pe_int (nomark _))
      (pss_one (ps_ret (pe_tup (pa_cons (pe_op op_sub (pe_op op_mulA pe_int (pv 4)) pe_int) (pa_cons pe_int pa_nil)))))
      pss_nil)
      (pss_cons (ps_if (pt_cmpR op_gt (pv 5) pe_int (nomark _))
      (pss_one (ps_ret (pe_tup (pa_cons (pe_op op_sub (pe_op op_add (pe_op op_mulA (pv 4) (pe_op op_powW pe_int pe_int)) (pe_op op_mulA pe_int (pv 5))) pe_int) (pa_cons (pe_op op_powW pe_int pe_int) pa_nil)))))
      pss_nil)
      (pss_one (ps_ret (pe_tup (pa_cons (pv 4) (pa_cons pe_int pa_nil))))))))))), ?_⟩
    walk_at "go"
    refine ⟨sz_le (by simp), fun l1 hl1 => ?_⟩
    have s1 : L2.Same H (upd H l1 (.lst [.int e])) := same_new hl1
    walk_at "go"
    refine lc_sortedI (j := 1) (n := 6) (s1 _ _ hG) nd l2 (by decide) ?hn rfl fun H2 D ys s2 hD hperm hD2 => ?_
    case hn => exact (by decide : 6 < 7)
    have s12 := s1.trans s2
    have hmem := vals_perm nd hperm
    have vl : (ys.map fun z => (wl.lookup z).getD 0).length ≤ 100 := by rw [List.length_map, hperm.length_eq, List.length_map]; exact l2
    generalize (ys.map fun z => (wl.lookup z).getD 0) = vals at hD2 hmem vl
    refine ⟨l1, D, [.int e], intsV vals, rfl, rfl, s2 _ _ upd_same, hD2, sz_le (by rw [List.length_map]; simp; omega), fun lc hlc => ?_⟩
    have s3 : L2.Same H (upd H2 lc (.lst ([.int e] ++ intsV vals))) := s12.trans (same_new hlc)
    have hlc3 : (upd H2 lc (.lst ([.int e] ++ intsV vals))) lc = some (.lst (intsV (e :: vals))) := upd_same
    generalize upd H2 lc (.lst ([.int e] ++ intsV vals)) = H3 at s3 hlc3 ⊢
    have p3 := hp.same s3
    have nlp : lc ≠ p := fun e => by
      obtain ⟨c, f, s, n, h⟩ := p3
      rw [← e, hlc3] at h
      injection h with h
      injection h with h
      injection h with _ h
      cases vals with
      | nil => cases h
      | cons x r =>
        injection h with h _
        cases h
    walk_at "go"
    refine ⟨p, ((intsV (e :: vals)).length : Nat), rfl, p3, by rw [List.length_map, List.length_cons]; omega, by rw [List.length_map, List.length_cons]; omega, fun H4 j b4 p4 j0 j1 => ?_⟩
    rw [List.length_map] at j1
    obtain ⟨v, hv, hvm⟩ := pickI (e :: vals) j0 j1
    have hv98 : -98 ≤ v ∧ v ≤ 98 := by
      rcases List.mem_cons.mp hvm with rfl | h
      · exact ⟨e0, e1⟩
      · obtain ⟨q, hq, hqe⟩ := (hmem v).mp h
        have := hb q hq
        omega
    refine x_ixl j.toNat (SqL.of (b4 lc _ hlc3 nlp)) (by omega) hv ?_
    walk_at "go"
    refine ⟨p, 7, rfl, p4, by decide, by decide, fun H5 wy b5 p5 w0 w1 => ?_⟩
    have bb : But p H H5 := ((But.of_same s3).trans b4).trans b5
    have fin : ∀ (b : Int × Int), LvOk b → ([V.int b.1, V.int b.2].length ≤ sizeLine ∧ ∀ a, H5 a = none → Q (.ref a) (upd H5 a (.tup [.int b.1, .int b.2]))) := fun b ok => ⟨sz_le (by simp), fun a ha => by
      have nap : a ≠ p := p5.ne ha
      exact k _ a b (bb.new ha) (p5.new ha) (none_of_but bb ha nap) nap upd_same ok⟩
    clear hv hvm hmem vl hlc hlc3 hD2 hperm hD b4 b5 s3 s12 s2 s1
    walk_at "go"
    refine x_dec (fun h3 => ?_) (fun h3 => ?_)
    · walk_at "go"
      refine fin (2 * v + 1, 2) ⟨by show (1 : Int) ≤ 2; decide, by show (2 : Int) ≤ 10 ^ 27; decide, by show -(10 ^ 30) ≤ 2 * v + 1; omega, by show 2 * v + 1 ≤ 10 ^ 30; omega, ?_⟩
      exact gcd_near (.inl (by show (2 * v + 1).natAbs % 2 = 1; omega)) (by show 1 ≤ 2; decide)
    · walk_at "go"
      refine x_dec (fun h4 => ?_) (fun h4 => ?_)
      · walk_at "go"
        refine fin (3 * v - 1, 3) ⟨by show (1 : Int) ≤ 3; decide, by show (3 : Int) ≤ 10 ^ 27; decide, by show -(10 ^ 30) ≤ 3 * v - 1; omega, by show 3 * v - 1 ≤ 10 ^ 30; omega, ?_⟩
        refine gcd_near ?_ (by show 1 ≤ 3; decide)
        show (3 * v - 1).natAbs % 3 = 1 ∨ ((3 : Nat) ≠ 1 ∧ ((3 * v - 1).natAbs + 1) % 3 = 0)
        by_cases hv0 : 1 ≤ v
        · exact .inr ⟨by decide, by omega⟩
        · exact .inl (by omega)
      · walk_at "go"
        refine x_dec (fun h5 => ?_) (fun h5 => ?_)
        · walk_at "go"
          have hw : wy = 5 ∨ wy = 6 := by omega
          have e27 : (10 : Int) ^ Int.toNat 27 = 1000000000000000000000000000 := by decide
          rw [e27]
          refine fin (v * 1000000000000000000000000000 + 2 * wy - 11, 1000000000000000000000000000) ⟨by show (1 : Int) ≤ 1000000000000000000000000000; decide, by show (1000000000000000000000000000 : Int) ≤ 10 ^ 27; decide, by show -(10 ^ 30) ≤ v * 1000000000000000000000000000 + 2 * wy - 11; omega, by show v * 1000000000000000000000000000 + 2 * wy - 11 ≤ 10 ^ 30; omega, ?_⟩
          refine gcd_near ?_ (by show 1 ≤ 1000000000000000000000000000; decide)
          show (v * 1000000000000000000000000000 + 2 * wy - 11).natAbs % 1000000000000000000000000000 = 1 ∨ ((1000000000000000000000000000 : Nat) ≠ 1 ∧ ((v * 1000000000000000000000000000 + 2 * wy - 11).natAbs + 1) % 1000000000000000000000000000 = 0)
          rcases hw with rfl | rfl
          · by_cases hv0 : 1 ≤ v
            · exact .inr ⟨by decide, by omega⟩
            · exact .inl (by omega)
          · by_cases hv0 : 0 ≤ v
            · exact .inl (by omega)
            · exact .inr ⟨by decide, by omega⟩
        · walk_at "go"
          exact fin (v, 1) ⟨by show (1 : Int) ≤ 1; decide, by show (1 : Int) ≤ 10 ^ 27; decide, by show -(10 ^ 30) ≤ v; omega, by show v ≤ 10 ^ 30; omega, Nat.gcd_one_right _⟩
end
/-! ### steps and where they lead -/
theorem all_mem_eq {a b : List Str} (f : Str → Bool) (h : ∀ t, t ∈ a ↔ t ∈ b) : a.all f = b.all f := by
  cases e : b.all f with
  | true => exact List.all_eq_true.mpr fun t ht => List.all_eq_true.mp e t ((h t).mp ht)
  | false =>
    obtain ⟨t, ht, hf⟩ := List.all_eq_false.mp e
    exact List.all_eq_false.mpr ⟨t, (h t).mpr ht, hf⟩
theorem steps_leads {h : Int} {ns : List Str} {x : Sd} (g : GoodSd h ns x) {ps : List (Str × Str)} (hp : (ps.map (·.1)).Perm (stepsL x)) (ht : ∀ q ∈ ps, toS x q.1 = some q.2) (t : Str) : t ∈ ps.map (·.2) ↔ t ∈ leadsL x := by
  have back : ∀ s, s ∈ stepsL x → toS x s = some t → t ∈ ps.map (·.2) := fun s hs he => by
    obtain ⟨q, hq, e⟩ := List.mem_map.mp (hp.mem_iff.mpr hs)
    have := ht q hq
    rw [e, he] at this
    exact List.mem_map.mpr ⟨q, hq, (Option.some.inj this).symm⟩
  cases x with
  | fin =>
    constructor
    · intro h
      obtain ⟨q, hq, _⟩ := List.mem_map.mp h
      have h1 : q.1 ∈ stepsL Sd.fin := hp.mem_iff.mp (List.mem_map.mpr ⟨q, hq, rfl⟩)
      cases h1
    · intro h
      cases h
  | hand k l =>
    constructor
    · intro h
      obtain ⟨q, hq, e⟩ := List.mem_map.mp h
      have h1 : l.lookup q.1 = some q.2 := ht q hq
      exact List.mem_map.mpr ⟨_, lookup_mem h1, e⟩
    · intro h
      obtain ⟨q, hq, e⟩ := List.mem_map.mp (show t ∈ l.map (·.2) from h)
      refine back q.1 (List.mem_map.mpr ⟨q, hq, rfl⟩) ?_
      show l.lookup q.1 = some t
      rw [← e]
      exact lookup_of g.2.2.1 (z := q.1) (x := q.2) hq
  | chance l =>
    constructor
    · intro h
      obtain ⟨q, hq, e⟩ := List.mem_map.mp h
      have h1 : (l.lookup q.1).map (·.1) = some q.2 := ht q hq
      cases h2 : l.lookup q.1 with
      | none => rw [h2] at h1; cases h1
      | some v =>
        rw [h2] at h1
        exact List.mem_map.mpr ⟨_, lookup_mem h2, (Option.some.inj h1).trans e⟩
    · intro h
      obtain ⟨q, hq, e⟩ := List.mem_map.mp (show t ∈ l.map (·.2.1) from h)
      refine back q.1 (List.mem_map.mpr ⟨q, hq, rfl⟩) ?_
      show (l.lookup q.1).map (·.1) = some t
      rw [lookup_of g.1 (z := q.1) (x := q.2) hq, ← e]
      rfl
theorem steps_len {h : Int} {ns : List Str} {x : Sd} (g : GoodSd h ns x) {ps : List (Str × Str)} (hp : (ps.map (·.1)).Perm (stepsL x)) : ps.length ≤ 4 := by
  have e := hp.length_eq
  rw [List.length_map] at e
  have e2 := leads_len g
  have e3 : (stepsL x).length = (leadsL x).length := by
    cases x with
    | fin => rfl
    | chance l => show (l.map _).length = (l.map _).length; rw [List.length_map, List.length_map]
    | hand k l => show (l.map _).length = (l.map _).length; rw [List.length_map, List.length_map]
  omega
theorem lead_at {l : List (Str × Sd)} {z : Str} {x : Sd} (h : l.lookup z = some x) : leadOf l z = leadsL x := by
  unfold leadOf
  rw [h]
  rfl
theorem same_both {H H' : Hp} {D : Addr} {v : HO} (s : L2.Same H H') : L2.Same (upd H D v) (upd H' D v) := fun b o e => by
  by_cases hb : b = D
  · subst hb
    rw [upd_same] at e ⊢
    exact e
  · rw [upd_ne hb] at e ⊢
    exact s b o e
theorem good_closed {h : Int} {l : List (Str × Sd)} (g : GoodT h l) : ∀ z ∈ l.map (·.1), ∀ t ∈ leadOf l z, t ∈ l.map (·.1) := fun z hz t ht => by
  obtain ⟨x, hx⟩ := lookup_isSome hz
  rw [lead_at hx] at ht
  have gx := g.sd z x hx
  cases x with
  | fin => cases ht
  | chance l2 =>
    obtain ⟨q, hq, e⟩ := List.mem_map.mp (show t ∈ l2.map (·.2.1) from ht)
    rw [← e]
    exact (gx.2.2.2 q hq).2.1
  | hand k l2 =>
    obtain ⟨q, hq, e⟩ := List.mem_map.mp (show t ∈ l2.map (·.2) from ht)
    rw [← e]
    exact (gx.2.2.2.2.2 q hq).2
/-! ### displays of dicts -/
theorem x_disp {trs : List (TE × TE)} {σ : L2.St} {H : Hp} {Q : VK} (h : ∀ p, H p = none → tPairs trs σ (upd H p (.dK [])) fun ps H2 => H2 p = some (.dK []) ∧ ∃ kvs : List (Key × V), ps = kvs.map (fun kv => (kV kv.1, kv.2)) ∧ kvs.length ≤ 15 ∧ Q (.ref p) (upd H2 p (.dK (mergeK [] kvs)))) : tDisp trs σ H Q := h
theorem x_prs {tk tv : TE} {r : List (TE × TE)} {σ : L2.St} {H : Hp} {R : List (V × V) → Hp → Prop} (h : tk σ H fun x H1 => tv σ H1 fun y H2 => tPairs r σ H2 fun ps H3 => R ((x, y) :: ps) H3) : tPairs ((tk, tv) :: r) σ H R := h
theorem x_prs0 {σ : L2.St} {H : Hp} {R : List (V × V) → Hp → Prop} (h : R [] H) : tPairs [] σ H R := h
theorem merge1 {z : Str} {v : V} : mergeK [] [((Sum.inr z : Key), v)] = [(Sum.inr z, v)] := rfl
theorem merge2 {z y : Str} {v u : V} (n : z ≠ y) : mergeK [] [((Sum.inr z : Key), v), (Sum.inr y, u)] = [(Sum.inr z, v), (Sum.inr y, u)] := by
  show putK [((Sum.inr z : Key), v)] (Sum.inr y) u = _
  unfold putK
  rw [if_neg (by simp [n])]
  rfl
theorem nm_on : NameS "on" := nameL_iff.mp (by decide +kernel)
theorem nm_off : NameS "off" := nameL_iff.mp (by decide +kernel)
theorem nm_h : NameS "h" := nameL_iff.mp (by decide +kernel)
theorem nm_t : NameS "t" := nameL_iff.mp (by decide +kernel)
/-! ### k71: a table without ends, what is bad -/
def bt (st : List (Str × Bool)) (t : Str) : Bool := (st.lookup t).getD false
def bd0 (wl : List (Str × Int)) (lv : Int × Int) (q : Str × Sd) : Str × Bool := (q.1, isFin q.2 && decide (((wl.lookup q.1).getD 0) * lv.2 < lv.1))
def bdStep (l : List (Str × Sd)) (lot : List Int) (st : List (Str × Bool)) (z : Str) : List (Str × Bool) :=
  if leadOf l z ≠ [] ∧ bt st z = false then putL st z (if mvIn lot ((l.lookup z).getD .fin) = true then (leadOf l z).all (bt st) else (leadOf l z).any (bt st)) else st
def bdPass (l : List (Str × Sd)) (lot : List Int) (st : List (Str × Bool)) : List (Str × Bool) := (l.map (·.1)).foldl (bdStep l lot) st
def bdRun (l : List (Str × Sd)) (lot : List Int) (wl : List (Str × Int)) (lv : Int × Int) : Nat → List (Str × Bool)
  | 0 => l.map (bd0 wl lv)
  | n + 1 => bdPass l lot (bdRun l lot wl lv n)
theorem any_mem_eq {a b : List Str} (f : Str → Bool) (h : ∀ t, t ∈ a ↔ t ∈ b) : a.any f = b.any f := by
  cases e : b.any f with
  | true =>
    obtain ⟨t, ht, hf⟩ := List.any_eq_true.mp e
    exact List.any_eq_true.mpr ⟨t, (h t).mpr ht, hf⟩
  | false => exact List.any_eq_false.mpr fun t ht => List.any_eq_false.mp e t ((h t).mp ht)
def spBadL (K : PySem.W.Frag) : Sp := fun vs H Q _ => ∃ (D G lo lv : Addr) (h : Int) (l : List (Str × Sd)) (wl : List (Str × Int)) (lot : List Int) (b : Int × Int), vs = [.ref D, .ref G, .ref lo, .ref lv] ∧ DictOf SdAt H D l ∧ GoodT h l ∧ H G = some (.dK (strK V.int wl)) ∧ SqT K H lo (intsV lot) ∧
  H lv = some (.tup [.int b.1, .int b.2]) ∧ (∀ z, l.lookup z = some .fin → ∃ v, wl.lookup z = some v ∧ -96 ≤ v ∧ v ≤ 96) ∧
  ∀ H' B, L2.Same H H' → H B = none → H' B = some (.dK (strK V.bl (bdRun l lot wl b l.length))) → Q (.ref B) H'
/-- a dict's keys stay where only values are changed -/
theorem bd_keys {l : List (Str × Sd)} {lot : List Int} : ∀ (ks : List Str) (st : List (Str × Bool)), st.map (·.1) = l.map (·.1) → (ks.foldl (bdStep l lot) st).map (·.1) = l.map (·.1) := by
  intro ks
  induction ks with
  | nil => exact fun st h => h
  | cons y r ih =>
    intro st h
    rw [List.foldl_cons]
    refine ih _ ?_
    unfold bdStep
    by_cases c : leadOf l y ≠ [] ∧ bt st y = false
    · rw [if_pos c]
      by_cases hy : y ∈ st.map (·.1)
      · rw [putL_keys _ hy, h]
      · exfalso
        have hn : l.lookup y = none := lookup_none (by rw [← h]; exact hy)
        have e : leadOf l y = [] := by
          unfold leadOf
          rw [hn]
          rfl
        exact c.1 e
    · rw [if_neg c]
      exact h
section
variable {P : Program} {w : World} {K : PySem.W.Frag} {mg : Str → Option Value} {base : Heap}
end
/-! ### k71: what is bad, the plain law -/
/-- the others, or a draw, lead to an end below the level, whatever the lot does -/
inductive Bad (l : List (Str × Sd)) (lot : List Int) (wl : List (Str × Int)) (lv : Int × Int) : Str → Prop
  | fin {z : Str} : l.lookup z = some .fin → ((wl.lookup z).getD 0) * lv.2 < lv.1 → Bad l lot wl lv z
  | all {z : Str} {x : Sd} : l.lookup z = some x → leadsL x ≠ [] → mvIn lot x = true → (∀ t ∈ leadsL x, Bad l lot wl lv t) → Bad l lot wl lv z
  | any {z t : Str} {x : Sd} : l.lookup z = some x → mvIn lot x = false → t ∈ leadsL x → Bad l lot wl lv t → Bad l lot wl lv z
section
variable {l : List (Str × Sd)} {lot : List Int} {wl : List (Str × Int)} {lv : Int × Int}
theorem bt_put {st : List (Str × Bool)} {z y : Str} {c : Bool} : bt (putL st z c) y = if y = z then c else bt st y := by
  unfold bt
  rw [lookup_putL]
  by_cases e : y = z
  · rw [if_pos e, if_pos e]
    rfl
  · rw [if_neg e, if_neg e]
/-- what a step may say -/
structure BdInv (l : List (Str × Sd)) (lot : List Int) (wl : List (Str × Int)) (lv : Int × Int) (st : List (Str × Bool)) : Prop where
  keys : st.map (·.1) = l.map (·.1)
  sound : ∀ z, bt st z = true → Bad l lot wl lv z
  fins : ∀ z, l.lookup z = some .fin → ((wl.lookup z).getD 0) * lv.2 < lv.1 → bt st z = true
def bdCount (st : List (Str × Bool)) : Nat := (st.filter fun q => q.2).length
/-- nothing more is to be said -/
def BdDone (l : List (Str × Sd)) (lot : List Int) (st : List (Str × Bool)) : Prop := ∀ z x, l.lookup z = some x → leadsL x ≠ [] → bt st z = false → (if mvIn lot x = true then (leadsL x).all (bt st) else (leadsL x).any (bt st)) = false
theorem bd_full {st : List (Str × Bool)} (I : BdInv l lot wl lv st) (D : BdDone l lot st) {z : Str} (b : Bad l lot wl lv z) : bt st z = true := by
  induction b with
  | fin h1 h2 => exact I.fins _ h1 h2
  | @all z x h1 h2 h3 _ ih =>
    cases c : bt st z with
    | true => rfl
    | false =>
      have := D z x h1 h2 c
      rw [if_pos h3, List.all_eq_true.mpr ih] at this
      cases this
  | @any z t x h1 h2 h3 _ ih =>
    cases c : bt st z with
    | true => rfl
    | false =>
      have hne : leadsL x ≠ [] := fun e => by rw [e] at h3; cases h3
      have := D z x h1 hne c
      rw [if_neg (by rw [h2]; decide), List.any_eq_true.mpr ⟨t, h3, ih⟩] at this
      cases this
theorem bd_step {st : List (Str × Bool)} (I : BdInv l lot wl lv st) (z : Str) : BdInv l lot wl lv (bdStep l lot st z) := by
  refine ⟨bd_keys [z] st I.keys, fun y hy => ?_, fun y h1 h2 => ?_⟩
  · unfold bdStep at hy
    by_cases c : leadOf l z ≠ [] ∧ bt st z = false
    · rw [if_pos c, bt_put] at hy
      by_cases e : y = z
      · subst e
        rw [if_pos rfl] at hy
        cases hx : l.lookup y with
        | none =>
          exfalso
          refine c.1 ?_
          unfold leadOf
          rw [hx]
          rfl
        | some x =>
          have hl : leadOf l y = leadsL x := lead_at hx
          rw [hx] at hy
          have hy2 : (if mvIn lot x = true then (leadOf l y).all (bt st) else (leadOf l y).any (bt st)) = true := hy
          rw [hl] at hy2 c
          cases hm : mvIn lot x with
          | true =>
            rw [if_pos hm] at hy2
            exact .all hx c.1 hm fun t ht => I.sound t (List.all_eq_true.mp hy2 t ht)
          | false =>
            rw [if_neg (by rw [hm]; decide)] at hy2
            obtain ⟨t, ht, hb⟩ := List.any_eq_true.mp hy2
            exact .any hx hm ht (I.sound t hb)
      · rw [if_neg e] at hy
        exact I.sound y hy
    · rw [if_neg c] at hy
      exact I.sound y hy
  · have h0 := I.fins y h1 h2
    unfold bdStep
    by_cases c : leadOf l z ≠ [] ∧ bt st z = false
    · rw [if_pos c, bt_put]
      have ne : y ≠ z := fun e => by rw [e, c.2] at h0; cases h0
      rw [if_neg ne]
      exact h0
    · rw [if_neg c]
      exact h0
theorem bd_mono {st : List (Str × Bool)} {z y : Str} (h : bt st y = true) : bt (bdStep l lot st z) y = true := by
  unfold bdStep
  by_cases c : leadOf l z ≠ [] ∧ bt st z = false
  · rw [if_pos c, bt_put]
    have ne : y ≠ z := fun e => by rw [e, c.2] at h; cases h
    rw [if_neg ne]
    exact h
  · rw [if_neg c]
    exact h
/-- the keys of l that st says are bad -/
def bdSet (l : List (Str × Sd)) (st : List (Str × Bool)) : List Str := (l.map (·.1)).filter (bt st)
theorem filt_mono {a : List Str} {p q : Str → Bool} (h : ∀ z, p z = true → q z = true) : (a.filter p).length ≤ (a.filter q).length := by
  induction a with
  | nil => exact Nat.le_refl _
  | cons y r ih =>
    rw [List.filter_cons, List.filter_cons]
    cases hp : p y with
    | true =>
      rw [if_pos rfl, if_pos (h y hp), List.length_cons, List.length_cons]
      omega
    | false =>
      cases hq : q y with
      | true =>
        rw [if_neg (by decide), if_pos rfl, List.length_cons]
        omega
      | false =>
        rw [if_neg (by decide), if_neg (by decide)]
        exact ih
theorem filt_lt {a : List Str} {p q : Str → Bool} (h : ∀ z, p z = true → q z = true) {y : Str} (hy : y ∈ a) (h1 : p y = false) (h2 : q y = true) : (a.filter p).length < (a.filter q).length := by
  induction a with
  | nil => cases hy
  | cons x r ih =>
    rw [List.filter_cons, List.filter_cons]
    rcases List.mem_cons.mp hy with rfl | hy
    · rw [if_neg (by rw [h1]; decide), if_pos h2, List.length_cons]
      have := filt_mono (a := r) h
      omega
    · have := ih hy
      cases hp : p x with
      | true =>
        rw [if_pos rfl, if_pos (h x hp), List.length_cons, List.length_cons]
        omega
      | false =>
        cases hq : q x with
        | true =>
          rw [if_neg (by decide), if_pos rfl, List.length_cons]
          omega
        | false =>
          rw [if_neg (by decide), if_neg (by decide)]
          exact this
/-- a pass says no less; where it says nothing more, nothing more is to be said of its keys -/
theorem bd_pass : ∀ (ks : List Str) (st : List (Str × Bool)), BdInv l lot wl lv st → BdInv l lot wl lv (ks.foldl (bdStep l lot) st) ∧ (∀ y, bt st y = true → bt (ks.foldl (bdStep l lot) st) y = true) ∧
    ((∀ y, bt (ks.foldl (bdStep l lot) st) y = true → bt st y = true) → ∀ z ∈ ks, ∀ x, l.lookup z = some x → leadsL x ≠ [] → bt st z = false → (if mvIn lot x = true then (leadsL x).all (bt st) else (leadsL x).any (bt st)) = false) := by
  intro ks
  induction ks with
  | nil => exact fun st I => ⟨I, fun _ h => h, fun _ _ h => (by cases h)⟩
  | cons a r ih =>
    intro st I
    rw [List.foldl_cons]
    obtain ⟨a1, a2, a3⟩ := ih _ (bd_step I a)
    refine ⟨a1, fun y hy => a2 y (bd_mono hy), fun hno z hz x hx hne hb => ?_⟩
    have same : ∀ y, bt (bdStep l lot st a) y = bt st y := fun y => by
      cases c : bt st y with
      | true => exact bd_mono c
      | false =>
        cases c2 : bt (bdStep l lot st a) y with
        | false => rfl
        | true =>
          have := hno y (a2 y c2)
          rw [c] at this
          cases this
    have sameF : bt (bdStep l lot st a) = bt st := funext same
    rcases List.mem_cons.mp hz with rfl | hz
    · have hl : leadOf l z = leadsL x := lead_at hx
      have e := same z
      unfold bdStep at e
      rw [hl, if_pos ⟨hne, hb⟩, bt_put, if_pos rfl, hx, hb] at e
      exact e
    · have := a3 (fun y hy => by rw [same y]; exact hno y hy) z hz x hx hne (by rw [same z]; exact hb)
      rw [sameF] at this
      exact this
theorem bd_run (g : ∃ h, GoodT h l) (n : Nat) : BdInv l lot wl lv (bdRun l lot wl lv n) ∧ (n ≤ (bdSet l (bdRun l lot wl lv n)).length ∨ BdDone l lot (bdRun l lot wl lv n)) := by
  obtain ⟨h, g⟩ := g
  have at0 : ∀ z x, l.lookup z = some x → bt (l.map (bd0 wl lv)) z = (bd0 wl lv (z, x)).2 := fun z x hx => by
    have nd : ((l.map (bd0 wl lv)).map (·.1)).Nodup := by
      rw [List.map_map]
      exact g.nd
    have hm : (z, (bd0 wl lv (z, x)).2) ∈ l.map (bd0 wl lv) := List.mem_map.mpr ⟨(z, x), lookup_mem hx, rfl⟩
    unfold bt
    rw [lookup_of nd hm]
    rfl
  induction n with
  | zero =>
    refine ⟨⟨by show (l.map (bd0 wl lv)).map (·.1) = _; rw [List.map_map]; rfl, fun z hz => ?_, fun z h1 h2 => ?_⟩, .inl (Nat.zero_le _)⟩
    · have hz2 : bt (l.map (bd0 wl lv)) z = true := hz
      cases hx : l.lookup z with
      | none =>
        have : (l.map (bd0 wl lv)).lookup z = none := lookup_none (by
          rw [List.map_map]
          intro hm
          obtain ⟨y, hy⟩ := lookup_isSome (show z ∈ l.map (·.1) from hm)
          rw [hx] at hy
          cases hy)
        unfold bt at hz2
        rw [this] at hz2
        cases hz2
      | some x =>
        rw [at0 z x hx] at hz2
        have h1 : (isFin x && decide (((wl.lookup z).getD 0) * lv.2 < lv.1)) = true := hz2
        rw [Bool.and_eq_true] at h1
        cases x with
        | fin => exact .fin hx (of_decide_eq_true h1.2)
        | chance _ => cases h1.1
        | hand _ _ => cases h1.1
    · show bt (l.map (bd0 wl lv)) z = true
      rw [at0 z _ h1]
      show (true && decide _) = true
      rw [decide_eq_true h2]
      rfl
  | succ n ih =>
    obtain ⟨I, hn⟩ := ih
    obtain ⟨a1, a2, a3⟩ := bd_pass (l.map (·.1)) _ I
    have es : bdRun l lot wl lv (n + 1) = (l.map (·.1)).foldl (bdStep l lot) (bdRun l lot wl lv n) := rfl
    rw [es]
    refine ⟨a1, ?_⟩
    by_cases c : ∀ y, bt ((l.map (·.1)).foldl (bdStep l lot) (bdRun l lot wl lv n)) y = true → bt (bdRun l lot wl lv n) y = true
    · have eqF : bt ((l.map (·.1)).foldl (bdStep l lot) (bdRun l lot wl lv n)) = bt (bdRun l lot wl lv n) := funext fun y => by
        cases d : bt (bdRun l lot wl lv n) y with
        | true => exact a2 y d
        | false =>
          cases d2 : bt ((l.map (·.1)).foldl (bdStep l lot) (bdRun l lot wl lv n)) y with
          | false => rfl
          | true =>
            have := c y d2
            rw [d] at this
            cases this
      refine .inr fun z x hx hne hb => ?_
      rw [eqF] at hb ⊢
      exact a3 c z (List.mem_map.mpr ⟨_, lookup_mem hx, rfl⟩) x hx hne hb
    · rcases hn with hn | hn
      · refine .inl ?_
        obtain ⟨y, hy⟩ := Classical.not_forall.mp c
        obtain ⟨h1, h2⟩ := Classical.not_imp.mp hy
        have h2 : bt (bdRun l lot wl lv n) y = false := by
          cases d : bt (bdRun l lot wl lv n) y with
          | false => rfl
          | true => exact absurd d h2
        have hk : y ∈ l.map (·.1) := by
          rw [← a1.keys]
          cases e : ((l.map (·.1)).foldl (bdStep l lot) (bdRun l lot wl lv n)).lookup y with
          | none =>
            unfold bt at h1
            rw [e] at h1
            cases h1
          | some v => exact List.mem_map.mpr ⟨_, lookup_mem e, rfl⟩
        have := filt_lt (a := l.map (·.1)) (p := bt (bdRun l lot wl lv n)) (q := bt ((l.map (·.1)).foldl (bdStep l lot) (bdRun l lot wl lv n))) a2 hk h2 h1
        exact Nat.lt_of_le_of_lt hn this
      · exfalso
        refine c fun y hy => bd_full I hn (a1.sound y hy)
/-- after as many passes as there are stands, exactly what is bad is said -/
theorem bd_iff {h : Int} (g : GoodT h l) {z : Str} (hz : z ∈ l.map (·.1)) : bt (bdRun l lot wl lv l.length) z = true ↔ Bad l lot wl lv z := by
  obtain ⟨I, hn⟩ := bd_run (lot := lot) (wl := wl) (lv := lv) ⟨h, g⟩ l.length
  refine ⟨I.sound z, fun b => ?_⟩
  rcases hn with hn | hn
  · cases c : bt (bdRun l lot wl lv l.length) z with
    | true => rfl
    | false =>
      exfalso
      have := filt_lt (a := l.map (·.1)) (p := bt (bdRun l lot wl lv l.length)) (q := fun _ => true) (fun _ _ => rfl) hz c rfl
      have e : ((l.map (·.1)).filter fun _ => true) = l.map (·.1) := List.filter_eq_self.mpr fun _ _ => rfl
      rw [e, List.length_map] at this
      unfold bdSet at hn
      omega
  · exact bd_full I hn b
end
/-! ### fractions -/
/-- while a test that looks at the slots alone -/
theorem lpWg {c : TT} {tb : TS} {σ : L2.St} {H : Hp} {n : L2.St → Hp → Prop} {r : VK} {b k : L2.St → Hp → Prop} (W : Nat → L2.St → Hp → Prop) {m : Nat} (h0 : W m σ H) (hs : ∀ m σ H, W m σ H → ∃ z, (∀ R : Bool → Hp → Prop, R z H → c σ H R) ∧
    if z = true then tb ⟨fun σ' H' => ∃ m', m' < m ∧ W m' σ' H', r, n, fun σ' H' => ∃ m', m' < m ∧ W m' σ' H'⟩ σ H else n σ H) : tWhile c tb ⟨n, r, b, k⟩ σ H := by
  refine ⟨W, ⟨m, h0⟩, fun m σ H h => ?_⟩
  obtain ⟨z, hz, q⟩ := hs m σ H h
  refine hz _ ?_
  cases z with
  | true => exact ⟨fun σ' H' => ∃ m', m' < m ∧ W m' σ' H', fun _ _ h => h, q⟩
  | false => exact q
def FrAt (H : Hp) (a : Addr) (x : Int × Int) : Prop := H a = some (.tup [.int x.1, .int x.2])
def frN (t b : Int) : Int × Int := (t / (Nat.gcd t.natAbs b.natAbs : Nat), b / (Nat.gcd t.natAbs b.natAbs : Nat))
def Sml (i : Int) : Prop := -(2 ^ 62) < i ∧ i < 2 ^ 62
def spGcd : Sp := fun vs H Q _ => ∃ (a b : Nat), vs = [.int a, .int b] ∧ (b : Int) < 2 ^ 190 ∧ Q (.int (Nat.gcd a b : Nat)) H
def spFrac : Sp := fun vs H Q _ => ∃ (t b : Int), vs = [.int t, .int b] ∧ Sml t ∧ 1 ≤ b ∧ Sml b ∧ ∀ H' p, L2.Same H H' → H p = none → FrAt H' p (frN t b) → Q (.ref p) H'
def spIsFrac : Sp := fun vs H Q _ => ∃ (a : Addr) (x : Int × Int), vs = [.ref a] ∧ FrAt H a x ∧ 1 ≤ x.2 ∧ x.2 < 2 ^ 190 ∧ Nat.gcd x.1.natAbs x.2.natAbs = 1 ∧ Q (.bl true) H
def spWhole : Sp := fun vs H Q _ => ∃ (i : Int), vs = [.int i] ∧ ∀ H' p, L2.Same H H' → H p = none → FrAt H' p (i, 1) → Q (.ref p) H'
def spLess : Sp := fun vs H Q _ => ∃ (a b : Addr) (x y : Int × Int), vs = [.ref a, .ref b] ∧ FrAt H a x ∧ FrAt H b y ∧ Sml x.1 ∧ Sml y.1 ∧ Q (.bl (decide (x.1 * y.2 < y.1 * x.2))) H
theorem gcd_pos {t b : Int} (h : 1 ≤ b) : 1 ≤ (Nat.gcd t.natAbs b.natAbs : Int) := by
  have : 0 < Nat.gcd t.natAbs b.natAbs := Nat.gcd_pos_of_pos_right _ (by omega)
  omega
theorem gcd_le {t b : Int} (h : 1 ≤ b) : (Nat.gcd t.natAbs b.natAbs : Int) ≤ b := by
  have : Nat.gcd t.natAbs b.natAbs ≤ b.natAbs := Nat.gcd_le_right _ (by omega)
  omega
section
variable {P : Program} {w : World} {K : PySem.W.Frag} {mg : Str → Option Value} {base : Heap}
theorem ok_common_divisor {f : Addr} {fd : FuncData} (F : Fun K "common_divisor" "common_divisor" s_common_divisor f fd) : FnOk P w K mg base CX0 1 f fd ["one", "other"] spGcd := by
  refine F.ok sc_common_divisor (fun vs H Q E h => ?_) (fun cdv A outer s H vs Q E hr h => ?_)
  · obtain ⟨_, _, rfl, _⟩ := h
    rfl
  · obtain ⟨a, b, rfl, hb, q⟩ := h
    refine ⟨_, (pss_cons (ps_while PassesOwn.never (pt_cmpR op_gt (pv 1) pe_int (nomark _))
      (pss_one (ps_par (i := 0) (j := 1) (by rfl) sc_common_divisor.nd rfl rfl (by decide) rfl rfl (pa_cons (pv 1) (pa_cons (pe_op op_mod (pv 0) (pv 1)) pa_nil)) (by rfl))))
      (pss_one (ps_ret (pv 0)))), ?_⟩
    walk_at "go"
    refine lpWg (fun m σ H' => ∃ x y : Nat, σ = [some (.int x), some (.int y)] ∧ H' = H ∧ y ≤ b ∧ y ≤ m ∧ Nat.gcd x y = Nat.gcd a b) (m := b) ⟨a, b, rfl, rfl, Nat.le_refl _, Nat.le_refl _, rfl⟩ ?_
    rintro m σ H' ⟨x, y, rfl, rfl, hy, hym, hg⟩
    refine ⟨decide (0 < y), fun R hR => ?_, ?_⟩
    · walk_at "go"
      have e : decide ((0 : Int) < (y : Int)) = decide (0 < y) := decide_eq_decide.mpr (by omega)
      rw [e]
      exact hR
    · refine x_dec (fun h0 => ?_) (fun h0 => ?_)
      · walk_at "go"
        refine ⟨x % y, Nat.lt_of_lt_of_le (Nat.mod_lt _ h0) hym, y, x % y, rfl, rfl, Nat.le_trans (Nat.le_of_lt (Nat.mod_lt _ h0)) hy, Nat.le_refl _, ?_⟩
        rw [← hg, Nat.gcd_comm x y, Nat.gcd_rec y x, Nat.gcd_comm]
      · walk_at "go"
        have e : y = 0 := by omega
        subst e
        rw [Nat.gcd_zero_right] at hg
        rw [hg]
        exact q
theorem ok_is_fraction {f : Addr} {fd : FuncData} (F : Fun K "is_fraction" "is_fraction" s_is_fraction f fd) (Z_abs : mg "abs" = none) (C_common_divisor : Cal P w K mg base 1 "common_divisor" ["one", "other"] spGcd)
    (C_is_pair : Cal P w K mg base 1 "is_pair" ["thing"] (spIsPair K)) (C_is_integer : Cal P w K mg base 1 "is_integer" ["thing"] (spIsInt K)) : FnOk P w K mg base CX0 2 f fd ["thing"] spIsFrac := by
  refine F.ok sc_is_fraction (fun vs H Q E h => ?_) (fun cdv A outer s H vs Q E hr h => ?_)
  · obtain ⟨_, _, rfl, _⟩ := h
    rfl
  · obtain ⟨a, x, rfl, ha, h1, h2, hg, q⟩ := h
    have ha1 : H a = some (.tup [.int x.1, .int x.2]) := ha
    refine ⟨_, (pss_cons (ps_if (PW.pt (pw_or (pt_not (pt_val (pe_cal C_is_pair (hr.mono (by decide)) (by rfl) (pa_cons (pv 0) pa_nil)))) (pw_or (pt_not (pt_val (pe_cal C_is_integer (hr.mono (by decide)) (by rfl) (pa_cons (pe_ix ix_tup (pv 0) pe_int (fun _ _ => rfl)) pa_nil)))) (pw_or1 (pt_not (pt_val (pe_cal C_is_integer (hr.mono (by decide)) (by rfl) (pa_cons (pe_ix ix_tup (pv 0) pe_int (fun _ _ => rfl)) pa_nil))))))))
      (pss_one (ps_ret pe_bl))
      pss_nil)
      (pss_one (ps_ret (pe_and (pe_cmpR op_ge (pe_ix ix_tup (pv 0) pe_int (fun _ _ => rfl)) pe_int (nomark _)) (pe_one (pe_cmpR op_eq (pe_cal C_common_divisor (hr.mono (by decide)) (by rfl) (pa_cons (pe_callB call_absA (by rfl) Z_abs (by decide +kernel) (pa_cons (pe_ix ix_tup (pv 0) pe_int (fun _ _ => rfl)) pa_nil)) (pa_cons (pe_ix ix_tup (pv 0) pe_int (fun _ _ => rfl)) pa_nil))) pe_int (nomark _))))))), ?_⟩
    walk_at "go"
    refine ⟨a, _, rfl, SqT.of ha1, ?_⟩
    walk_at "go"
    refine x_nyes rfl ?_
    walk_at "go"
    refine x_ixt 0 (SqT.of ha1) rfl rfl ?_
    walk_at "go"
    refine ⟨_, _, rfl, .int _, ?_⟩
    walk_at "go"
    refine x_nT ?_
    walk_at "go"
    refine x_ixt 1 (SqT.of ha1) rfl rfl ?_
    walk_at "go"
    refine ⟨_, _, rfl, .int _, ?_⟩
    walk_at "go"
    refine x_nT ?_
    walk_at "go"
    refine x_ixt 1 (SqT.of ha1) rfl rfl ?_
    walk_at "go"
    refine x_yes (by omega) ?_
    walk_at "go"
    refine x_ixt 0 (SqT.of ha1) rfl rfl ?_
    walk_at "go"
    refine x_ixt 1 (SqT.of ha1) rfl rfl ?_
    walk_at "go"
    have ea : (if x.1 < 0 then -x.1 else x.1) = (x.1.natAbs : Int) := by split <;> omega
    have eb : x.2 = (x.2.natAbs : Int) := by omega
    refine ⟨x.1.natAbs, x.2.natAbs, by rw [ea, ← eb], by omega, ?_⟩
    walk_at "go"
    rw [hg]
    exact q
end
/-! ### a lot, a level -/
def spIsLot (K : PySem.W.Frag) (C : Addr) : Sp := fun vs H Q _ => ∃ (a lo : Addr) (h : Int) (st : Str) (l : List (Str × Sd)) (lot : List Int), vs = [.ref a, .ref lo] ∧ WorkAt C H a h st l ∧ SqT K H lo (intsV lot) ∧ LotOk h lot ∧ Q (.bl true) H
def spCheckedLot (K : PySem.W.Frag) (C : Addr) : Sp := fun vs H Q _ => ∃ (a lo : Addr) (h : Int) (st : Str) (l : List (Str × Sd)) (lot : List Int), vs = [.ref a, .ref lo] ∧ WorkAt C H a h st l ∧ SqT K H lo (intsV lot) ∧ LotOk h lot ∧ Q .non H
def spIsBelow : Sp := fun vs H Q _ => ∃ (v : Int) (lv : Addr) (b : Int × Int), vs = [.int v, .ref lv] ∧ -99 ≤ v ∧ v ≤ 99 ∧ H lv = some (.tup [.int b.1, .int b.2]) ∧ Q (.bl (decide (v * b.2 < b.1))) H
section
variable {P : Program} {w : World} {K : PySem.W.Frag} {mg : Str → Option Value} {base : Heap} {CW : Addr}
theorem ok_is_below {f : Addr} {fd : FuncData} (F : Fun K "is_below" "is_below" s_is_below f fd) : FnOk P w K mg base CX0 1 f fd ["worth", "level"] spIsBelow := by
  refine F.ok sc_is_below (fun vs H Q E h => ?_) (fun cdv A outer s H vs Q E hr h => ?_)
  · obtain ⟨_, _, _, rfl, _⟩ := h
    rfl
  · obtain ⟨v, lv, b, rfl, v1, v2, hl, q⟩ := h
    refine ⟨_, (pss_one (ps_ret (pe_cmpR op_lt (pe_op op_mulA (pv 0) (pe_ix ix_tup (pv 1) pe_int (fun _ _ => rfl))) (pe_ix ix_tup (pv 1) pe_int (fun _ _ => rfl)) (nomark _)))), ?_⟩
    walk_at "go"
    refine x_ixt 1 (SqT.of hl) rfl rfl ?_
    walk_at "go"
    refine x_ixt 0 (SqT.of hl) rfl rfl ?_
    walk_at "go"
    exact q
end
section
variable {P : Program} {w : World} {K : PySem.W.Frag} {mg : Str → Option Value} {base : Heap} {CW : Addr}
theorem ok_Work_row {f : Addr} {fd : FuncData} (F : Fun K "row" "Work.row" s_Work_row f fd) (K_Work : Cls K CW) (N1 : NoAttr K CW "table") (Z_str : mg "str" = none) (Z_isinstance : mg "isinstance" = none) : FnOk P w K mg base CX0 1 f fd ["self", "stand"] (spRow CW) := by
  refine F.ok sc_Work_row (fun vs H Q E h => ?_) (fun cdv A outer s H vs Q E hr h => ?_)
  · obtain ⟨_, _, _, _, _, _, rfl, _⟩ := h
    rfl
  · obtain ⟨a, h, st, z, l, x, rfl, wa, hz, q⟩ := h
    obtain ⟨dx, t, n, e, h1, hT, _, _⟩ := wa.ex
    obtain ⟨m, b, hm, hb, hx⟩ := hT.at hz
    have hu := hu_of hr
    refine ⟨_, (pss_cons (ps_if (PW.pt (pw_or (pt_not (pt_val (pe_callB call_isi (by rfl) Z_isinstance (by decide +kernel) (pa_cons (pv 1) (pa_cons (pe_bltn (v := .ty "str") (by rfl) Z_str (by decide +kernel) rfl) pa_nil))))) (pw_or1 (pt_cmp (pc_dnotin hu (pv 1) (pe_fld (pv 0) rfl))))))
      (pss_one ps_never)
      pss_nil)
      (pss_one (ps_ret (pe_dget hu (pe_fld (pv 0) rfl) (pv 1) (fun _ _ => rfl))))), ?_⟩
    walk_at "go"
    refine x_isiStr (.str _) ?_
    walk_at "go"
    refine x_nT ?_
    walk_at "go"
    refine x_fld K_Work N1 h1 wkF_table ?_
    walk_at "go"
    refine x_ninD (l := m) hm ?_
    rw [hb]
    refine ⟨false, rfl, x_F ?_⟩
    walk_at "go"
    refine x_fld K_Work N1 h1 wkF_table ?_
    walk_at "go"
    refine x_getL hm hb ?_
    exact q b hx
theorem ok_Work_kind {f : Addr} {fd : FuncData} (F : Fun K "kind" "Work.kind" s_Work_kind f fd) (K_Work : Cls K CW) (T_Work_row : Met P w K mg base CW 1 "row" ["self", "stand"] (spRow CW)) : FnOk P w K mg base CX0 2 f fd ["self", "stand"] (spKind CW) := by
  refine F.ok sc_Work_kind (fun vs H Q E h => ?_) (fun cdv A outer s H vs Q E hr h => ?_)
  · obtain ⟨_, _, _, _, _, _, rfl, _⟩ := h
    rfl
  · obtain ⟨a, h, st, z, l, x, rfl, wa, hz, q⟩ := h
    obtain ⟨dx, t, n, e, h1, _⟩ := id wa.ex
    refine ⟨_, (pss_one (ps_ret (pe_ix ix_tup (pe_mt T_Work_row K_Work (hr.mono (by decide)) (pv 0) (pa_cons (pv 1) pa_nil)) pe_int (fun _ _ => rfl)))), ?_⟩
    walk_at "go"
    refine x_mti h1 (wkF_none (by decide +kernel) (by decide +kernel) (by decide +kernel) (by decide +kernel) (by decide +kernel) (by decide +kernel)) ?_
    walk_at "go"
    refine ⟨a, h, st, z, l, x, rfl, wa, hz, fun b hb => ?_⟩
    obtain ⟨xs, hx1, hx2⟩ := sd_tup hb
    walk_at "go"
    refine x_ixt 0 (SqT.of hx1) rfl hx2 ?_
    exact q
theorem ok_Work_mover {f : Addr} {fd : FuncData} (F : Fun K "mover" "Work.mover" s_Work_mover f fd) (K_Work : Cls K CW) (T_Work_row : Met P w K mg base CW 1 "row" ["self", "stand"] (spRow CW)) : FnOk P w K mg base CX0 2 f fd ["self", "stand"] (spMover CW) := by
  refine F.ok sc_Work_mover (fun vs H Q E h => ?_) (fun cdv A outer s H vs Q E hr h => ?_)
  · obtain ⟨_, _, _, _, _, _, rfl, _⟩ := h
    rfl
  · obtain ⟨a, h, st, z, l, x, rfl, wa, hz, q⟩ := h
    obtain ⟨dx, t, n, e, h1, _⟩ := id wa.ex
    refine ⟨_, (pss_cons (ps_set (i := 2) sc_Work_mover.nd rfl (Or.inl rfl) (pe_mt T_Work_row K_Work (hr.mono (by decide)) (pv 0) (pa_cons (pv 1) pa_nil)))
      (pss_cons (ps_if (pt_cmpR op_eq (pe_ix ix_tup (pv 2) pe_int (fun _ _ => rfl)) pe_str (nomark _))
      (pss_one (ps_ret (pe_ix ix_tup (pv 2) pe_int (fun _ _ => rfl))))
      pss_nil)
      (pss_one (ps_ret pe_non)))), ?_⟩
    walk_at "go"
    refine x_mti h1 (wkF_none (by decide +kernel) (by decide +kernel) (by decide +kernel) (by decide +kernel) (by decide +kernel) (by decide +kernel)) ?_
    walk_at "go"
    refine ⟨a, h, st, z, l, x, rfl, wa, hz, fun b hb => ?_⟩
    walk_at "go"
    cases x with
    | fin =>
      have hb1 : H b = some (.tup [.str "end"]) := hb
      refine x_ixt 0 (SqT.of hb1) rfl rfl ?_
      walk_at "go"
      refine x_no (by decide +kernel) ?_
      walk_at "go"
      exact q
    | chance l2 =>
      obtain ⟨d2, hb1, _⟩ := hb
      refine x_ixt 0 (SqT.of hb1) rfl rfl ?_
      walk_at "go"
      refine x_no (by decide +kernel) ?_
      walk_at "go"
      exact q
    | hand k2 l2 =>
      obtain ⟨d2, hb1, _⟩ := hb
      refine x_ixt 0 (SqT.of hb1) rfl rfl ?_
      walk_at "go"
      refine x_yes rfl ?_
      walk_at "go"
      refine x_ixt 1 (SqT.of hb1) rfl rfl ?_
      exact q
theorem ok_Work_steps {f : Addr} {fd : FuncData} (F : Fun K "steps" "Work.steps" s_Work_steps f fd) (K_Work : Cls K CW) (Z_len : mg "len" = none) (Z_sorted : mg "sorted" = none) (T_Work_row : Met P w K mg base CW 1 "row" ["self", "stand"] (spRow CW)) : FnOk P w K mg base CX0 2 f fd ["self", "stand"] (spSteps CW) := by
  refine F.ok sc_Work_steps (fun vs H Q E h => ?_) (fun cdv A outer s H vs Q E hr h => ?_)
  · obtain ⟨_, _, _, _, _, _, rfl, _⟩ := h
    rfl
  · obtain ⟨a, h, st, z, l, x, rfl, wa, hz, hg, hso, q⟩ := h
    obtain ⟨dx, t, n, e, h1, _⟩ := id wa.ex
    refine ⟨_, (pss_cons (ps_set (i := 2) sc_Work_steps.nd rfl (Or.inl rfl) (pe_mt T_Work_row K_Work (hr.mono (by decide)) (pv 0) (pa_cons (pv 1) pa_nil)))
      (pss_cons (ps_if (pt_cmpR op_eq (pe_ix ix_tup (pv 2) pe_int (fun _ _ => rfl)) pe_str (nomark _))
      (pss_one (ps_ret (pe_lst pa_nil)))
      pss_nil)
      (pss_one (ps_ret (pe_callB (call_sortedDA rfl) (by rfl) Z_sorted (by decide +kernel) (pa_cons (pe_ix ix_tup (pv 2) (pe_op op_sub (pe_callB call_lenA (by rfl) Z_len (by decide +kernel) (pa_cons (pv 2) pa_nil)) pe_int) (fun _ _ => rfl)) pa_nil)))))), ?_⟩
    walk_at "go"
    refine x_mti h1 (wkF_none (by decide +kernel) (by decide +kernel) (by decide +kernel) (by decide +kernel) (by decide +kernel) (by decide +kernel)) ?_
    walk_at "go"
    refine ⟨a, h, st, z, l, x, rfl, wa, hz, fun b hb => ?_⟩
    walk_at "go"
    cases x with
    | fin =>
      have hb1 : H b = some (.tup [.str "end"]) := hb
      refine x_ixt 0 (SqT.of hb1) rfl rfl ?_
      walk_at "go"
      refine x_yes rfl ?_
      walk_at "go"
      refine ⟨by decide, fun p hp => ?_⟩
      exact q _ p (same_new hp) hp upd_same
    | chance l2 =>
      obtain ⟨d2, hb1, hD⟩ := hb
      obtain ⟨g1, g2, g3, g4⟩ := hg
      obtain ⟨m, hd, hk, _⟩ := hD.ex
      have ek : (strK V.ref m).map (·.1) = (m.map (·.1)).map Sum.inr := by rw [List.map_map, List.map_map]; rfl
      rw [hk] at ek
      refine x_ixt 0 (SqT.of hb1) rfl rfl ?_
      walk_at "go"
      refine x_no (by decide +kernel) ?_
      walk_at "go"
      refine x_lenT (SqT.of hb1) ?_
      walk_at "go"
      refine x_ixt 1 (SqT.of hb1) rfl rfl ?_
      walk_at "go"
      refine ⟨d2, _, l2.map (·.1), rfl, .inl hd, ek, by rw [List.length_map]; omega, fun ys p hperm hsort hp => ?_⟩
      have ey : ys = l2.map (·.1) := sorted_one hsort hso hperm
      subst ey
      exact q _ p (same_new hp) hp upd_same
    | hand k2 l2 =>
      obtain ⟨d2, hb1, hd⟩ := hb
      obtain ⟨_, _, g1, g2, g3, g4⟩ := hg
      have ek : (strK V.str l2).map (·.1) = (l2.map (·.1)).map Sum.inr := by rw [List.map_map, List.map_map]; rfl
      refine x_ixt 0 (SqT.of hb1) rfl rfl ?_
      walk_at "go"
      refine x_no (by decide +kernel) ?_
      walk_at "go"
      refine x_lenT (SqT.of hb1) ?_
      walk_at "go"
      refine x_ixt 2 (SqT.of hb1) rfl rfl ?_
      walk_at "go"
      refine ⟨d2, _, l2.map (·.1), rfl, .inl hd, ek, by rw [List.length_map]; omega, fun ys p hperm hsort hp => ?_⟩
      have ey : ys = l2.map (·.1) := sorted_one hsort hso hperm
      subst ey
      exact q _ p (same_new hp) hp upd_same
theorem ok_Work_to {f : Addr} {fd : FuncData} (F : Fun K "to" "Work.to" s_Work_to f fd) (K_Work : Cls K CW) (Z_len : mg "len" = none) (Z_str : mg "str" = none) (Z_isinstance : mg "isinstance" = none) (T_Work_row : Met P w K mg base CW 1 "row" ["self", "stand"] (spRow CW)) : FnOk P w K mg base CX0 2 f fd ["self", "stand", "step"] (spTo CW) := by
  refine F.ok sc_Work_to (fun vs H Q E h => ?_) (fun cdv A outer s H vs Q E hr h => ?_)
  · obtain ⟨_, _, _, _, _, _, _, _, rfl, _⟩ := h
    rfl
  · obtain ⟨a, h, st, z, s1, t1, l, x, rfl, wa, hz, hto, q⟩ := h
    obtain ⟨dx, t, n, e, h1, _⟩ := id wa.ex
    have hu := hu_of hr
    refine ⟨_, (pss_cons (ps_set (i := 3) sc_Work_to.nd rfl (Or.inl rfl) (pe_mt T_Work_row K_Work (hr.mono (by decide)) (pv 0) (pa_cons (pv 1) pa_nil)))
      (pss_cons (ps_if (PW.pt (pw_or (pt_cmpR op_eq (pe_ix ix_tup (pv 3) pe_int (fun _ _ => rfl)) pe_str (nomark _)) (pw_or (pt_not (pt_val (pe_callB call_isi (by rfl) Z_isinstance (by decide +kernel) (pa_cons (pv 2) (pa_cons (pe_bltn (v := .ty "str") (by rfl) Z_str (by decide +kernel) rfl) pa_nil))))) (pw_or1 (pt_cmp (pc_dnotin hu (pv 2) (pe_ix ix_tup (pv 3) (pe_op op_sub (pe_callB call_lenA (by rfl) Z_len (by decide +kernel) (pa_cons (pv 3) pa_nil)) pe_int) (fun _ _ => rfl))))))))
      (pss_one ps_never)
      pss_nil)
      (pss_cons (ps_if (pt_cmpR op_eq (pe_ix ix_tup (pv 3) pe_int (fun _ _ => rfl)) pe_str (nomark _))
      (pss_one (ps_ret (pe_dget hu (pe_ix ix_tup (pv 3) pe_int (fun _ _ => rfl)) (pv 2) (fun _ _ => rfl))))
      pss_nil)
      (pss_one (ps_ret (pe_ix ix_tup (pe_dget hu (pe_ix ix_tup (pv 3) pe_int (fun _ _ => rfl)) (pv 2) (fun _ _ => rfl)) pe_int (fun _ _ => rfl))))))), ?_⟩
    walk_at "go"
    refine x_mti h1 (wkF_none (by decide +kernel) (by decide +kernel) (by decide +kernel) (by decide +kernel) (by decide +kernel) (by decide +kernel)) ?_
    walk_at "go"
    refine ⟨a, h, st, z, l, x, rfl, wa, hz, fun b hb => ?_⟩
    walk_at "go"
    cases x with
    | fin => cases hto
    | chance l2 =>
      obtain ⟨d2, hb1, hD⟩ := hb
      have hto1 : (l2.lookup s1).map (·.1) = some t1 := hto
      obtain ⟨v, hv, hv2⟩ : ∃ v, l2.lookup s1 = some v ∧ v.1 = t1 := by
        cases e2 : l2.lookup s1 with
        | none => rw [e2] at hto1; cases hto1
        | some v => rw [e2] at hto1; exact ⟨v, rfl, Option.some.inj hto1⟩
      obtain ⟨m, c, hd, hc, hp⟩ := hD.at hv
      have hp1 : H c = some (.tup [.str v.1, .int v.2]) := hp
      refine x_ixt 0 (SqT.of hb1) rfl rfl ?_
      walk_at "go"
      refine x_no (by decide +kernel) ?_
      walk_at "go"
      refine x_isiStr (.str _) ?_
      walk_at "go"
      refine x_nT ?_
      walk_at "go"
      refine x_lenT (SqT.of hb1) ?_
      walk_at "go"
      refine x_ixt 1 (SqT.of hb1) rfl rfl ?_
      walk_at "go"
      refine x_ninD (l := m) (.inl hd) ?_
      rw [hc]
      refine ⟨false, rfl, x_F ?_⟩
      walk_at "go"
      refine x_ixt 0 (SqT.of hb1) rfl rfl ?_
      walk_at "go"
      refine x_no (by decide +kernel) ?_
      walk_at "go"
      refine x_ixt 1 (SqT.of hb1) rfl rfl ?_
      walk_at "go"
      refine x_getL (l := m) (.inl hd) hc ?_
      walk_at "go"
      refine x_ixt 0 (SqT.of hp1) rfl rfl ?_
      rw [hv2]
      exact q
    | hand k2 l2 =>
      obtain ⟨d2, hb1, hd⟩ := hb
      have hto1 : l2.lookup s1 = some t1 := hto
      refine x_ixt 0 (SqT.of hb1) rfl rfl ?_
      walk_at "go"
      refine x_no (by decide +kernel) ?_
      walk_at "go"
      refine x_isiStr (.str _) ?_
      walk_at "go"
      refine x_nT ?_
      walk_at "go"
      refine x_lenT (SqT.of hb1) ?_
      walk_at "go"
      refine x_ixt 2 (SqT.of hb1) rfl rfl ?_
      walk_at "go"
      refine x_ninD (l := l2) (.inl hd) ?_
      rw [hto1]
      refine ⟨false, rfl, x_F ?_⟩
      walk_at "go"
      refine x_ixt 0 (SqT.of hb1) rfl rfl ?_
      walk_at "go"
      refine x_yes rfl ?_
      walk_at "go"
      refine x_ixt 2 (SqT.of hb1) rfl rfl ?_
      walk_at "go"
      refine x_getL (l := l2) (.inl hd) hto1 ?_
      exact q
end
/-! ### wishes -/
def valueV : V → Bool
  | .int i => decide (-99 ≤ i) && decide (i ≤ 99)
  | _ => false
def spIsValue (K : PySem.W.Frag) : Sp := fun vs H Q _ => ∃ x k, vs = [x] ∧ Kd K H x k ∧ Q (.bl (valueV x)) H
def worthsB (kvs : List (Key × V)) : Bool := decide (kvs.length ≤ 100) && kvs.all fun p => nameV (kV p.1) && valueV p.2
def kvFine (K : PySem.W.Frag) (H : Hp) (kvs : List (Key × V)) : Prop := ∀ p ∈ kvs, (∀ z, p.1 = Sum.inr z → z.length ≤ 10000) ∧ ∃ k, Kd K H p.2 k
/-- of a dict; of anything else it is False -/
def spAreWorths (K : PySem.W.Frag) : Sp := fun vs H Q _ => (∃ d kvs, vs = [.ref d] ∧ H d = some (.dK kvs) ∧ kvFine K H kvs ∧ ∀ H', L2.Same H H' → Q (.bl (worthsB kvs)) H') ∨
  ∃ x k, vs = [x] ∧ Kd K H x k ∧ k ≠ .dict ∧ Q (.bl false) H
theorem kV_kd {K : PySem.W.Frag} {H : Hp} (k : Key) : ∃ n, Kd K H (kV k) n := by
  cases k with
  | inl i => exact ⟨_, .int i⟩
  | inr z => exact ⟨_, .str z⟩
section
variable {P : Program} {w : World} {K : PySem.W.Frag} {mg : Str → Option Value} {base : Heap}
theorem ok_is_value {f : Addr} {fd : FuncData} (F : Fun K "is_value" "is_value" s_is_value f fd) (C_is_integer : Cal P w K mg base 1 "is_integer" ["thing"] (spIsInt K)) : FnOk P w K mg base CX0 2 f fd ["thing"] (spIsValue K) := by
  refine F.ok sc_is_value (fun vs H Q E h => ?_) (fun cdv A outer s H vs Q E hr h => ?_)
  · obtain ⟨_, _, rfl, _⟩ := h
    rfl
  · obtain ⟨x, k, rfl, hk, q⟩ := h
    refine ⟨_, (pss_one (ps_ret (pe_and (pe_cal C_is_integer (hr.mono (by decide)) (by rfl) (pa_cons (pv 0) pa_nil)) (pe_one (pe_chain op_le op_le (pe_un un_neg pe_int) (pv 0) pe_int))))), ?_⟩
    walk_at "go"
    refine ⟨x, k, rfl, hk, ?_⟩
    walk_at "go"
    cases hk with
    | int i =>
      refine x_T ?_
      walk_at "go"
      have e : valueV (.int i) = (decide (-99 ≤ i) && decide (i ≤ 99)) := rfl
      rw [e] at q
      refine x_dec (fun h1 => ?_) (fun h1 => ?_)
      · rw [decide_eq_true h1, Bool.true_and] at q
        walk_at "go"
        exact q
      · rw [decide_eq_false h1, Bool.false_and] at q
        exact q
    | non => exact x_F q
    | bl b => exact x_F q
    | str z => exact x_F q
    | lst h => exact x_F q
    | tup h => exact x_F q
    | dict h => exact x_F q
theorem ok_are_worths {f : Addr} {fd : FuncData} (F : Fun K "are_worths" "are_worths" s_are_worths f fd) (Z_dict : mg "dict" = none) (Z_len : mg "len" = none) (Z_isinstance : mg "isinstance" = none)
    (C_is_name : Cal P w K mg base 1 "is_name" ["thing"] (spIsName K)) (C_is_value : Cal P w K mg base 2 "is_value" ["thing"] (spIsValue K)) : FnOk P w K mg base CX0 3 f fd ["thing"] (spAreWorths K) := by
  refine F.ok sc_are_worths (fun vs H Q E h => ?_) (fun cdv A outer s H vs Q E hr h => ?_)
  · rcases h with ⟨_, _, rfl, _⟩ | ⟨_, _, rfl, _⟩ <;> rfl
  · refine ⟨_, (pss_cons (ps_if (PW.pt (pw_or (pt_not (pt_val (pe_callB call_isi (by rfl) Z_isinstance (by decide +kernel) (pa_cons (pv 0) (pa_cons (pe_bltn (v := .ty "dict") (by rfl) Z_dict (by decide +kernel) rfl) pa_nil))))) (pw_or1 (pt_cmpR op_gt (pe_callB call_lenDA (by rfl) Z_len (by decide +kernel) (pa_cons (pv 0) pa_nil)) pe_int (nomark _)))))
      (pss_one (ps_ret pe_bl))
      pss_nil)
      (pss_cons (ps_lock (ps_for PassesOwn.never rfl (pi_items (pv 0)) (pg_tup rfl (pgs_cons (pg_name (i := 1) sc_are_worths.nd rfl (Or.inl rfl)) (pgs_cons (pg_name (i := 2) sc_are_worths.nd rfl (Or.inl rfl)) pgs_nil)))
      (pss_one (ps_if (PW.pt (pw_or (pt_not (pt_val (pe_cal C_is_name (hr.mono (by decide)) (by rfl) (pa_cons (pv 1) pa_nil)))) (pw_or1 (pt_not (pt_val (pe_cal C_is_value (hr.mono (by decide)) (by rfl) (pa_cons (pv 2) pa_nil)))))))
      (pss_one (ps_ret pe_bl))
      pss_nil))))
      (pss_one (ps_ret pe_bl)))), ?_⟩
    rcases h with ⟨d, kvs, rfl, hd, hf, q⟩ | ⟨x, k, rfl, hk, hn, q⟩
    · walk_at "go"
      refine x_isiDict (.dict (.inl hd)) ?_
      walk_at "go"
      refine x_nT ?_
      walk_at "go"
      refine x_lenD (.inl hd) ?_
      walk_at "go"
      refine x_dec (fun hc => ?_) (fun hc => ?_)
      · walk_at "go"
        have e : worthsB kvs = false := by
          show (decide (kvs.length ≤ 100) && _) = false
          rw [decide_eq_false (by omega)]
          rfl
        rw [e] at q
        exact q H (L2.Same.refl H)
      · walk_at "go"
        refine x_lock hd trivial (fun od => ?_)
        walk_at "go"
        refine lpI (fun i σ H' => ∃ v1 v2, σ = [some (.ref d), v1, v2] ∧ L2.Same (upd H d (.frz od (.dK kvs))) H' ∧ ∀ p ∈ kvs.take i, (nameV (kV p.1) && valueV p.2) = true) upd_same ?_ ?_ ?_ ?_
        · exact ⟨none, none, rfl, L2.Same.refl _, by simp⟩
        · exact fun i σ H' _ ⟨_, _, _, s1, _⟩ => s1 d _ upd_same
        · rintro i k0 v0 σ H' T hi ⟨v1, v2, rfl, s1, hall⟩ hT
          have hm : (k0, v0) ∈ kvs := List.mem_of_getElem? hi
          obtain ⟨hkz, kn, hkn⟩ := hf _ hm
          have s2 : L2.Same (upd H d (.frz od (.dK kvs))) (upd H' T (.tup [kV k0, v0])) := same_upd s1 (s1.free hT)
          have sH : L2.Same H (upd (upd H' T (.tup [kV k0, v0])) d (.dK kvs)) := fun b o e => by
            by_cases hbd : b = d
            · subst hbd
              rw [hd] at e
              rw [upd_same, e]
            · rw [upd_ne hbd]
              exact s2 b o (by rw [upd_ne hbd]; exact e)
          have hfz : (upd H' T (.tup [kV k0, v0])) d = some (.frz od (.dK kvs)) := s2 d _ upd_same
          have bad : (nameV (kV k0) && valueV v0) = false → Q (.bl false) (upd (upd H' T (.tup [kV k0, v0])) d (.dK kvs)) := fun hb => by
            have e : worthsB kvs = false := by
              have : (kvs.all fun p => nameV (kV p.1) && valueV p.2) = false := by
                cases ea : (kvs.all fun p => nameV (kV p.1) && valueV p.2) with
                | false => rfl
                | true =>
                  have := List.all_eq_true.mp ea _ hm
                  rw [hb] at this
                  cases this
              show (decide (kvs.length ≤ 100) && (kvs.all fun p => nameV (kV p.1) && valueV p.2)) = false
              rw [this]
              simp
            rw [e] at q
            exact q _ sH
          refine x_g2 (SqT.of upd_same) ?_
          walk_at "go"
          obtain ⟨nk, hnk⟩ := kV_kd (K := K) (H := upd H' T (.tup [kV k0, v0])) k0
          refine ⟨_, nk, rfl, ⟨hnk, fun z hz => ?_⟩, ?_⟩
          · cases k0 with
            | inl i => cases hz
            | inr y =>
              cases hz
              exact hkz _ rfl
          walk_at "go"
          cases en : nameV (kV k0) with
          | false =>
            walk_at "go"
            exact ⟨hfz, bad (by rw [en]; rfl)⟩
          | true =>
            walk_at "go"
            refine ⟨v0, kn, rfl, (hkn.held hd).same s2, ?_⟩
            walk_at "go"
            cases ev : valueV v0 with
            | false =>
              walk_at "go"
              exact ⟨hfz, bad (by rw [en, ev]; rfl)⟩
            | true =>
              walk_at "go"
              refine ⟨_, _, rfl, s2, fun p hp => ?_⟩
              rw [take_succ_get hi] at hp
              rcases List.mem_append.mp hp with hp | hp
              · exact hall p hp
              · rw [List.mem_singleton.mp hp, en, ev]
                rfl
        · rintro σ H' ⟨v1, v2, rfl, s1, hall⟩
          have hfz : H' d = some (.frz od (.dK kvs)) := s1 d _ upd_same
          refine ⟨hfz, ?_⟩
          walk_at "go"
          have e : worthsB kvs = true := by
            rw [List.take_length] at hall
            show (decide (kvs.length ≤ 100) && _) = true
            rw [decide_eq_true (by omega), List.all_eq_true.mpr hall]
            rfl
          rw [e] at q
          refine q _ fun b o e => ?_
          by_cases hbd : b = d
          · subst hbd
            rw [hd] at e
            rw [upd_same, e]
          · rw [upd_ne hbd]
            exact s1 b o (by rw [upd_ne hbd]; exact e)
    · walk_at "go"
      refine x_isiDict hk ?_
      walk_at "go"
      cases k with
      | dict => exact absurd rfl hn
      | _ =>
        refine x_nF ?_
        walk_at "go"
        exact q
end
/-! ### a wish as an object -/
def wF (t : Addr) (e : Int) (b : Bool) : List (Str × V) := putF "coming" (.bl b) (putF "endless" (.int e) (putF "table" (.ref t) []))
theorem wF_table (t : Addr) (e : Int) (b : Bool) : (wF t e b).lookup ("table" : Str) = some (.ref t) := by
  unfold wF
  rw [lookup_putF, if_neg (by decide +kernel), lookup_putF, if_neg (by decide +kernel), lookup_putF, if_pos rfl]
theorem wF_endless (t : Addr) (e : Int) (b : Bool) : (wF t e b).lookup ("endless" : Str) = some (.int e) := by
  unfold wF
  rw [lookup_putF, if_neg (by decide +kernel), lookup_putF, if_pos rfl]
theorem wF_coming (t : Addr) (e : Int) (b : Bool) : (wF t e b).lookup ("coming" : Str) = some (.bl b) := by
  unfold wF
  rw [lookup_putF, if_pos rfl]
def comingB (l : List (Str × Int)) (e : Int) : Bool := l.all fun q => decide (e ≤ q.2)
/-- what may become a wish -/
structure GoodW (l : List (Str × Int)) (e : Int) : Prop where
  nd : (l.map (·.1)).Nodup
  len : l.length ≤ 63
  nm : ∀ q ∈ l, NameS q.1
  lo : ∀ q ∈ l, -99 ≤ q.2 ∧ q.2 ≤ 99
  elo : -99 ≤ e ∧ e ≤ 99
  side : Side e l
/-- a wish with the worths l (in any order) stands at p -/
structure WishAt (C : Addr) (H : Hp) (p : Addr) (l : List (Str × Int)) (e : Int) : Prop where
  ex : ∃ dx t l', H p = some (.ins C dx (wF t e (comingB l e))) ∧ H t = some (.dK (strK V.int l')) ∧ l'.Perm l ∧ sortedS (l'.map (·.1)) = true
theorem WishAt.same {C : Addr} {H H' : Hp} {p : Addr} {l : List (Str × Int)} {e : Int} (h : WishAt C H p l e) (s : L2.Same H H') : WishAt C H' p l e := by
  obtain ⟨dx, t, l', h1, h2, h3⟩ := h.ex
  exact ⟨dx, t, l', s _ _ h1, s _ _ h2, h3⟩
def spWishInit (C : Addr) : Sp := fun vs H Q _ => ∃ (s d dx : Addr) (e : Int) (l : List (Str × Int)), vs = [.ref s, .ref d, .int e] ∧ H s = some (.ins C dx []) ∧ H d = some (.dK (strK V.int l)) ∧ GoodW l e ∧
  ∀ H', (∀ b o, H b = some o → b ≠ s → H' b = some o) → WishAt C H' s l e → Q .non H'
def spWorths (C : Addr) : Sp := fun vs H Q _ => ∃ (s : Addr) (e : Int) (l : List (Str × Int)), vs = [.ref s] ∧ WishAt C H s l e ∧ (l.map (·.1)).Nodup ∧ l.length ≤ 1000 ∧
  ∀ H' D l', L2.Same H H' → H D = none → H' D = some (.dK (strK V.int l')) → l'.Perm l → Q (.ref D) H'
def negL (l : List (Str × Int)) : List (Str × Int) := l.map fun q => (q.1, -q.2)
def spMirrored (C : Addr) : Sp := fun vs H Q _ => ∃ (s : Addr) (e : Int) (l : List (Str × Int)), vs = [.ref s] ∧ WishAt C H s l e ∧ GoodW l e ∧
  ∀ H' p, L2.Same H H' → H p = none → WishAt C H' p (negL l) (-e) → Q (.ref p) H'
def eqWB (l1 l2 : List (Str × Int)) (e1 e2 : Int) : Bool := decide (e1 = e2)
/-- == where the worths are the same ones -/
def spWishEq (C : Addr) : Sp := fun vs H Q _ => ∃ (a b : Addr) (e1 e2 : Int) (l1 l2 : List (Str × Int)), vs = [.ref a, .ref b] ∧ WishAt C H a l1 e1 ∧ WishAt C H b l2 e2 ∧ l1.Perm l2 ∧ (l1.map (·.1)).Nodup ∧ e1 = e2 ∧ Q (.bl true) H
theorem worthsB_good {l : List (Str × Int)} {e : Int} (g : GoodW l e) : worthsB (strK V.int l) = true := by
  show (decide ((strK V.int l).length ≤ 100) && _) = true
  rw [decide_eq_true (by rw [List.length_map]; have := g.len; omega), Bool.true_and, List.all_map]
  refine List.all_eq_true.mpr fun q hq => ?_
  show (nameV (.str q.1) && valueV (.int q.2)) = true
  have h := g.lo q hq
  have h2 : valueV (.int q.2) = true := by
    show (decide _ && decide _) = true
    rw [decide_eq_true h.1, decide_eq_true h.2]
    rfl
  rw [(g.nm q hq).v, h2]
  rfl
theorem kvFine_int {K : PySem.W.Frag} {H : Hp} {l : List (Str × Int)} (h : ∀ q ∈ l, NameS q.1) : kvFine K H (strK V.int l) := fun p hp => by
  obtain ⟨q, hq, rfl⟩ := List.mem_map.mp hp
  refine ⟨fun z hz => ?_, _, .int _⟩
  cases hz
  have := (h q hq).len
  omega
/-- [e op v for v in list(d.values())] -/
theorem lc_vals {K : PySem.W.Frag} {σ : L2.St} {H : Hp} {Qd : Addr → Hp → Prop} {d : Addr} {l : List (Str × Int)} {e : Int} {g : Int → Int → Bool} {j n : Nat} (hd : Rd H d (.dK (strK V.int l))) (hl : l.length ≤ 1000) (hj : j ≠ n) (hn : n < σ.length)
    (h2 : σ[j]? = some (some (.int e))) (k : ∀ H' D, L2.Same H H' → H D = none → H' D = some (.lst ((l.map fun q => g e q.2).map V.bl)) → Qd D H') :
    rListVA (.ref d) H fun x H1 => RunL K (fun J H1 => ∀ D, H1 D = none → LcP J (gName n) tYes (tOp (rI0 fun i j => V.bl (g i j)) (tVar j) (tVar n)) [n] σ D (Qd D) H1) x H1 := by
  refine x_listv hd fun p1 hp1 => runL (SqL.of upd_same) fun D hD => ?_
  have hp1D : p1 ≠ D := ne_of_none upd_same hD
  have hD0 : H D = none := by rw [upd_ne hp1D.symm] at hD; exact hD
  have eV : (strK V.int l).map Prod.snd = l.map fun q => V.int q.2 := by rw [List.map_map]; rfl
  rw [eV]
  refine lcL (xs := l.map fun q => V.int q.2) (fun t H' => L2.Same H H' ∧ H' p1 = some (.lst (l.map fun q => V.int q.2)) ∧ H' D = some (.lst (((l.take t).map fun q => g e q.2).map V.bl))) ?_ ?_ ?_ ?_
  · exact ⟨same_upd (same_new hp1) hD0, by rw [upd_ne hp1D]; exact upd_same, upd_same⟩
  · exact fun t H' _ h => SqL.of h.2.1
  · rintro t x H' hx ⟨s1, hp, hD1⟩
    rw [List.getElem?_map] at hx
    cases hq : l[t]? with
    | none => rw [hq] at hx; cases hx
    | some q =>
      rw [hq] at hx
      have ex : V.int q.2 = x := Option.some.inj hx
      subst ex
      have hlt : t < l.length := (List.getElem?_eq_some_iff.mp hq).1
      refine x_g1 ⟨?_, x_yes1 (x_T (x_op (x_var (v := .int e) ?_ (x_var (v := .int q.2) ?_ (x_I0 ⟨_, hD1, sz_lt (by simp; omega), same_upd s1 hD0, by rw [upd_ne hp1D]; exact hp, ?_⟩)))))⟩
      · show ((σ.set n none).set n (some (.int q.2))).set n none = σ.set n none
        rw [List.set_set, List.set_set]
      · show ((σ.set n none).set n _)[j]? = _
        rw [List.getElem?_set_ne hj.symm, List.getElem?_set_ne hj.symm]
        exact h2
      · show ((σ.set n none).set n _)[n]? = _
        rw [List.getElem?_set_self (by rw [List.length_set]; exact hn)]
      · rw [upd_same, take_succ_get hq]
        simp
  · rintro H' ⟨s1, hp, hD1⟩
    rw [List.length_map, List.take_length] at hD1
    exact k H' D s1 hD0 hD1
section
variable {P : Program} {w : World} {K : PySem.W.Frag} {mg : Str → Option Value} {base : Heap} {C : Addr}
theorem ok_Wish_init {f : Addr} {fd : FuncData} (F : Fun K "__init__" "Wish.__init__" s_Wish_init f fd) (K_Wish : Cls K C) (N1 : NoAttr K C "table") (N2 : NoAttr K C "endless") (N3 : NoAttr K C "coming") (Z_list : mg "list" = none) (Z_all : mg "all" = none) (Z_sorted : mg "sorted" = none)
    (C_are_worths : Cal P w K mg base 3 "are_worths" ["thing"] (spAreWorths K)) (C_is_value : Cal P w K mg base 2 "is_value" ["thing"] (spIsValue K)) : FnOk P w K mg base CX0 4 f fd ["self", "worths", "endless"] (spWishInit C) := by
  refine F.ok sc_Wish_init (fun vs H Q E h => ?_) (fun cdv A outer s H vs Q E hr h => ?_)
  · obtain ⟨_, _, _, _, _, rfl, _⟩ := h
    rfl
  · obtain ⟨a, d, dx, e, l, rfl, ha, hd, g, k⟩ := h
    have hu := hu_of hr
    refine ⟨_, (pss_cons (ps_if (PW.pt (pw_or (pt_not (pt_val (pe_cal C_are_worths (hr.mono (by decide)) (by rfl) (pa_cons (pv 1) pa_nil)))) (pw_or1 (pt_not (pt_val (pe_cal C_is_value (hr.mono (by decide)) (by rfl) (pa_cons (pv 2) pa_nil)))))))
      (pss_one ps_never)
      pss_nil)
      (pss_cons (ps_set (i := 3) sc_Wish_init.nd rfl (Or.inl rfl) (pe_callB (cr_all rfl) (by rfl) Z_all (by decide +kernel) (pa_cons (pe_lc (own := [("value", 5)]) (g := gName 5) (tt := tYes) (by rfl) sc_Wish_init.nd (pi_list (pe_listV (by rfl) (pv 1) (by rfl) Z_list)) (blkOk_by (own := [("value", 5)]) (N := N_Wish_init) (sc := defScope s_Wish_init) (by decide +kernel)) (fun _ _ _ _ _ => (pg_name (i := 5) sc_Wish_init.nd rfl (Or.inl rfl))) (fun _ _ _ _ _ => pts_nil) (fun _ _ _ _ _ => by exact (pe_cmpR op_le (pv 2) (pv 5) (nomark _)))) pa_nil)))
      (pss_cons (ps_set (i := 4) sc_Wish_init.nd rfl (Or.inl rfl) (pe_callB (cr_all rfl) (by rfl) Z_all (by decide +kernel) (pa_cons (pe_lc (own := [("value", 5)]) (g := gName 5) (tt := tYes) (by rfl) sc_Wish_init.nd (pi_list (pe_listV (by rfl) (pv 1) (by rfl) Z_list)) (blkOk_by (own := [("value", 5)]) (N := N_Wish_init) (sc := defScope s_Wish_init) (by decide +kernel)) (fun _ _ _ _ _ => (pg_name (i := 5) sc_Wish_init.nd rfl (Or.inl rfl))) (fun _ _ _ _ _ => pts_nil) (fun _ _ _ _ _ => by exact (pe_cmpR op_ge (pv 2) (pv 5) (nomark _)))) pa_nil)))
      (pss_cons (ps_if (PW.pt (pw_and (pt_not (pt_val (pv 3))) (pw_and1 (pt_not (pt_val (pv 4))))))
      (pss_one ps_never)
      pss_nil)
      (pss_cons (ps_fld (pv 0) (pe_dc (own := [("name", 6)]) (g := gName 6) (tt := tYes) (by rfl) sc_Wish_init.nd (pi_list (pe_callB (call_sortedDA rfl) (by rfl) Z_sorted (by decide +kernel) (pa_cons (pv 1) pa_nil))) (blkOk_by (own := [("name", 6)]) (N := N_Wish_init) (sc := defScope s_Wish_init) (by decide +kernel)) (fun _ _ _ _ _ => (pg_name (i := 6) sc_Wish_init.nd rfl (Or.inl rfl))) (fun _ _ _ _ _ => pts_nil) (fun _ _ _ _ _ => by exact (pv 6)) (fun _ _ _ _ _ => by exact (pe_dget hu (pv 1) (pv 6) (fun _ _ => rfl)))) rfl)
      (pss_cons (ps_fld (pv 0) (pv 2) rfl)
      (pss_one (ps_fld (pv 0) (pv 3) rfl)))))))), ?_⟩
    walk_at "go"
    refine .inl ⟨d, _, rfl, hd, kvFine_int g.nm, fun H1 s1 => ?_⟩
    rw [worthsB_good g]
    walk_at "go"
    refine ⟨_, _, rfl, .int e, ?_⟩
    have ev : valueV (.int e) = true := by
      show (decide _ && decide _) = true
      rw [decide_eq_true g.elo.1, decide_eq_true g.elo.2]
      rfl
    rw [ev]
    walk_at "go"
    have hll : l.length ≤ 1000 := by have := g.len; omega
    have hd1 := s1 d _ hd
    refine lc_vals (j := 2) (n := 5) (e := e) (g := fun i j => decide (i ≤ j)) (.inl hd1) hll (by decide) ?hn rfl fun H2 D s2 hD hD2 => ?_
    case hn => exact (by decide : 5 < 7)
    walk_at "go"
    refine ⟨D, _, rfl, SqL.of hD2, ?_⟩
    have eb : (List.map (fun q : Str × Int => decide (e ≤ q.2)) l).all id = comingB l e := by rw [List.all_map]; rfl
    rw [eb]
    walk_at "go"
    have hd2 := s2 d _ hd1
    refine lc_vals (j := 2) (n := 5) (e := e) (g := fun i j => decide (j ≤ i)) (.inl hd2) hll (by decide) ?hn rfl fun H3 D3 s3 hD3 hD33 => ?_
    case hn => exact (by decide : 5 < 7)
    walk_at "go"
    refine ⟨D3, _, rfl, SqL.of hD33, ?_⟩
    walk_at "go"
    have hd3 := s3 d _ hd2
    have s13 : L2.Same H H3 := (s1.trans s2).trans s3
    refine x_ite (fun h1 => ?_) (fun h1 => ?_)
    focus
      walk_at "go"
      refine x_ite (fun h2 => ?_) (fun h2 => ?_)
    focus
      exfalso
      rcases g.side with h | h
      · have : comingB l e = true := List.all_eq_true.mpr fun q hq => decide_eq_true (h q hq)
        rw [this] at h1
        cases h1
      · have : (List.map (fun q : Str × Int => decide (q.2 ≤ e)) l).all id = true := by
          rw [List.all_map]
          exact List.all_eq_true.mpr fun q hq => decide_eq_true (h q hq)
        rw [this] at h2
        cases h2
    all_goals walk_at "go"
    all_goals
      have ek : (strK V.int l).map (·.1) = (l.map (·.1)).map Sum.inr := by rw [List.map_map, List.map_map]; rfl
      refine ⟨d, _, l.map (·.1), rfl, .inl hd3, ek, by rw [List.length_map]; have := g.len; omega, fun ys q hperm hsort hq => runL (SqL.of upd_same) fun D4 hD4 => ?_⟩
      have hq4 : q ≠ D4 := ne_of_none upd_same hD4
      have hD40 : H3 D4 = none := by rw [upd_ne hq4.symm] at hD4; exact hD4
      have ynd : ys.Nodup := (hperm.nodup_iff).mpr g.nd
      have ylen : ys.length = l.length := by rw [hperm.length_eq, List.length_map]
      refine dcL (xs := ys.map V.str) (fun t H' => L2.Same H3 H' ∧ H' q = some (.lst (ys.map V.str)) ∧ H' D4 = some (.dK (strK V.int ((ys.take t).map fun z => (z, (l.lookup z).getD 0))))) ?_ ?_ ?_ ?_
      · exact ⟨same_upd (same_new hq) hD40, by rw [upd_ne hq4]; exact upd_same, upd_same⟩
      · exact fun t H' _ h => SqL.of h.2.1
      · rintro t x H' hx ⟨s4, hq1, hD41⟩
        rw [List.getElem?_map] at hx
        cases hz : ys[t]? with
        | none => rw [hz] at hx; cases hx
        | some z =>
          rw [hz] at hx
          have ex : V.str z = x := Option.some.inj hx
          subst ex
          have hlt : t < ys.length := (List.getElem?_eq_some_iff.mp hz).1
          have hzm : z ∈ l.map (·.1) := hperm.mem_iff.mp (List.mem_of_getElem? hz)
          obtain ⟨xz, hxz⟩ := lookup_isSome hzm
          walk_at "go"
          refine ⟨rfl, ?_⟩
          walk_at "go"
          refine x_getS (kvs := strK V.int l) (.inl (s4 d _ hd3)) (v := .int xz) (by rw [strK_look, hxz]; rfl) ?_
          refine ⟨_, Sum.inr z, rfl, hD41, sz_lt (by simp; omega), same_upd s4 hD40, by rw [upd_ne hq4]; exact hq1, ?_⟩
          rw [upd_same, strK_put, putL_new, take_succ_get hz, List.map_append]
          · simp [hxz]
          · rw [List.map_map]
            intro hm
            obtain ⟨z', hz', e'⟩ := List.mem_map.mp hm
            have e2 : z' = z := e'
            subst e2
            obtain ⟨i, hi, he⟩ := List.getElem_of_mem hz'
            have hi2 : i < t := by simp at hi; omega
            have h5 : ys[i]? = some z' := by
              rw [List.getElem_take] at he
              rw [List.getElem?_eq_getElem (by omega), he]
            have := L2.nd_ix ynd h5 hz
            omega
      · rintro H4 ⟨s4, hq1, hD41⟩
        rw [List.length_map, List.take_length] at hD41
        have s14 : L2.Same H H4 := s13.trans s4
        have aD : a ≠ D4 := fun z => by rw [z] at ha; rw [s13 _ _ ha] at hD40; cases hD40
        walk_at "go"
        refine x_sf K_Wish N1 (s14 _ _ ha) (by decide) ?_
        walk_at "go"
        refine x_sf K_Wish N2 upd_same (Nat.lt_of_le_of_lt (length_putF _ _ _) (by show 0 + 1 < 1000; decide)) ?_
        walk_at "go"
        refine x_sf K_Wish N3 upd_same (Nat.lt_of_le_of_lt (length_putF _ _ _) (Nat.lt_of_le_of_lt (Nat.succ_le_succ (length_putF _ _ _)) (by show 0 + 1 + 1 < 1000; decide))) ?_
        refine k _ (fun b o e n => ?_) ⟨⟨dx, D4, ys.map fun z => (z, (l.lookup z).getD 0), ?_, ?_, table_perm g.nd hperm 0, ?_⟩⟩
        · rw [upd_ne n, upd_ne n, upd_ne n]
          exact s14 b o e
        · rw [upd_same]
          rfl
        · rw [upd_ne aD.symm, upd_ne aD.symm, upd_ne aD.symm]
          exact hD41
        · rw [List.map_map]
          have : ((fun x : Str × Int => x.1) ∘ fun z => (z, (l.lookup z).getD 0)) = id := rfl
          rw [this, List.map_id]
          exact hsort
theorem ok_Wish_worths {f : Addr} {fd : FuncData} (F : Fun K "worths" "Wish.worths" s_Wish_worths f fd) (K_Wish : Cls K C) (N1 : NoAttr K C "table") : FnOk P w K mg base CX0 1 f fd ["self"] (spWorths C) := by
  refine F.ok sc_Wish_worths (fun vs H Q E h => ?_) (fun cdv A outer s H vs Q E hr h => ?_)
  · obtain ⟨_, _, _, rfl, _⟩ := h
    rfl
  · obtain ⟨a, e, l, rfl, hW, hnd, hlen, k⟩ := h
    obtain ⟨dx, t, l', ha, ht, hp, _⟩ := hW.ex
    have hu := hu_of hr
    have hnd' : (l'.map (·.1)).Nodup := (List.Perm.nodup_iff (hp.map _)).mpr hnd
    have hat : a ≠ t := ne_of ha ht (by intro z; cases z)
    refine ⟨_, (pss_one (ps_ret (pe_lock (pe_dc (own := [("name", 1)]) (g := gName 1) (tt := tYes) (by rfl) sc_Wish_worths.nd (pi_keys (pe_fld (pv 0) rfl)) (blkOk_by (own := [("name", 1)]) (N := N_Wish_worths) (sc := defScope s_Wish_worths) (by decide +kernel)) (fun _ _ _ _ _ => (pg_name (i := 1) sc_Wish_worths.nd rfl (Or.inl rfl))) (fun _ _ _ _ _ => pts_nil) (fun _ _ _ _ _ => by exact (pv 1)) (fun _ _ _ _ _ => by exact (pe_dget hu (pe_fldK (K := K) (pv 0) (by rfl)) (pv 1) (fun _ _ => rfl))))))), ?_⟩
    walk_at "go"
    refine x_lockE ht trivial fun od => ?_
    have ha1 : (upd H t (.frz od (.dK (strK V.int l')))) a = some (.ins C dx (wF t e (comingB l e))) := by rw [upd_ne hat]; exact ha
    walk_at "go"
    refine x_fld K_Wish N1 ha1 (wF_table _ _ _) ?_
    refine runK upd_same ?_
    intro D hD
    have hDt : D ≠ t := fun z => by rw [z, upd_same] at hD; cases hD
    have hD0 : H D = none := by rw [upd_ne hDt] at hD; exact hD
    refine dcK (kvs := strK V.int l') (fun i H' => L2.Same (upd H t (.frz od (.dK (strK V.int l')))) H' ∧ H' D = some (.dK (strK V.int (l'.take i)))) ?_ ?_ ?_ ?_
    · exact ⟨same_new hD, upd_same⟩
    · exact fun i H' _ h => h.1 t _ upd_same
    · rintro i k0 v0 H' hi ⟨s1, hD1⟩
      obtain ⟨z, x, rfl, rfl, hlx⟩ := strK_at hi
      have hlt : i < l'.length := (List.getElem?_eq_some_iff.mp hlx).1
      walk_at "go"
      refine ⟨rfl, ?_⟩
      walk_at "go"
      refine x_fld K_Wish N1 (s1 _ _ ha1) (wF_table _ _ _) ?_
      walk_at "go"
      refine x_getS (kvs := strK V.int l') (.inr ⟨od, s1 t _ upd_same⟩) (strK_val hnd' hlx) ?_
      refine ⟨_, Sum.inr z, rfl, hD1, sz_lt (by have := hp.length_eq; simp; omega), same_upd s1 hD, ?_⟩
      rw [upd_same, strK_put, putL_new, take_succ_get hlx]
      intro hm
      obtain ⟨p', hp', e'⟩ := List.mem_map.mp hm
      obtain ⟨j, hj, he⟩ := List.getElem_of_mem hp'
      have hj2 : j < i := by simp at hj; omega
      have h5 : (l'.map (·.1))[j]? = some z := by
        rw [List.getElem_take] at he
        rw [List.getElem?_map, List.getElem?_eq_getElem (by omega), he]
        exact congrArg some e'
      have h6 : (l'.map (·.1))[i]? = some z := by rw [List.getElem?_map, hlx]; rfl
      have := L2.nd_ix hnd' h5 h6
      omega
    · rintro H4 ⟨s1, hD1⟩
      have eL : (strK V.int l').length = l'.length := List.length_map ..
      rw [eL, List.take_length] at hD1
      refine ⟨s1 t _ upd_same, ?_⟩
      refine k _ D l' (fun b o e => ?_) hD0 (by rw [upd_ne hDt]; exact hD1) hp
      by_cases hbt : b = t
      · subst hbt
        rw [ht] at e
        rw [upd_same, e]
      · rw [upd_ne hbt]
        exact s1 b o (by rw [upd_ne hbt]; exact e)
end
/-! ### k71: a drawn book -/
theorem x_ckw {r : List V → List V → Hp → VK → Prop} {t tk : TA} {σ : L2.St} {H : Hp} {Q : VK} (h : t σ H fun vs H1 => tk σ H1 fun zs H2 => r vs zs H2 Q) : tCKw r t tk σ H Q := h
/-- a row of a book: different moves of the stand, ascending, not none -/
structure RowOk (x : Sd) (r : List Str) : Prop where
  asc : r.Pairwise LeS
  nd : r.Nodup
  ne : r ≠ []
  sub : ∀ m ∈ r, m ∈ stepsL x
def RwAt (H : Hp) (a : Addr) (r : List Str) : Prop := H a = some (.tup (strsV r))
theorem monoR : Mono RwAt := fun _ _ _ _ s h => s _ _ h
def BookOk (l : List (Str × Sd)) (bk : List (Str × List Str)) : Prop := ∀ q ∈ bk, ∃ k l2, l.lookup q.1 = some (.hand k l2) ∧ RowOk (.hand k l2) q.2
def spBookL : Sp := fun vs H Q _ => ∃ (p D : Addr) (h : Int) (l : List (Str × Sd)), vs = [.ref p, .ref D] ∧ PoolAt H p ∧ DictOf SdAt (wo H p) D l ∧ D ≠ p ∧ GoodT h l ∧
  ∀ H' B bk, But p H H' → PoolAt H' p → H B = none → B ≠ p → DictOf RwAt H' B bk → (bk.map (·.1)).Nodup → BookOk l bk → Q (.ref B) H'
section
variable {P : Program} {w : World} {K : PySem.W.Frag} {mg : Str → Option Value} {base : Heap}
theorem ok_l_book {f : Addr} {fd : FuncData} (F : Fun K "_law_book" "_law_book" s_l_book f fd) (Z_range : mg "range" = none) (Z_len : mg "len" = none) (Z_sorted : mg "sorted" = none) (Z_tuple : mg "tuple" = none)
    (C_draw : Cal P w K mg base 1 "_law_draw" ["_law_drawer", "_law_many"] spDraw) (C_l_steps : Cal P w K mg base 1 "_law_steps" ["_law_stands_here", "_law_stand_here"] spStepsC) : FnOk P w K mg base CX0 2 f fd ["_law_drawer", "_law_stands_here"] spBookL := by
  refine F.ok sc_l_book (fun vs H Q E h => ?_) (fun cdv A outer s H vs Q E hr h => ?_)
  · obtain ⟨_, _, _, _, rfl, _⟩ := h
    rfl
  · obtain ⟨p, D, h, l, rfl, hp, hT, nDp, g, k⟩ := h
    have hu := hu_of hr
    obtain ⟨m0, hD0, hk0, _⟩ := id hT.ex
    refine ⟨_, (pss_cons (ps_set (i := 2) sc_l_book.nd rfl (Or.inl rfl) pe_dnewK)
      (pss_cons (ps_for PassesOwn.never rfl (pi_list (pe_callBK (call_sortRev rfl) (by rfl) Z_sorted (by decide +kernel) (pa_cons (pv 1) pa_nil) (pk_cons pe_bl pk_nil))) (pg_name (i := 3) sc_l_book.nd rfl (Or.inl rfl))
      (pss_one (ps_if (PW.pt (pw_and (pt_cmpR op_eq (pe_ix ix_tup (pe_dget hu (pv 1) (pv 3) (fun _ _ => rfl)) pe_int (fun _ _ => rfl)) pe_str (nomark _)) (pw_and1 (pt_cmpR op_eq (pe_cal C_draw (hr.mono (by decide)) (by rfl) (pa_cons (pv 0) (pa_cons pe_int pa_nil))) pe_int (nomark _)))))
      (pss_cons (ps_set (i := 4) sc_l_book.nd rfl (Or.inr rfl) (pe_cal C_l_steps (hr.mono (by decide)) (by rfl) (pa_cons (pv 1) (pa_cons (pv 3) pa_nil))))
      (pss_cons (ps_set (i := 5) sc_l_book.nd rfl (Or.inr rfl) (pe_op op_add pe_int (pe_cal C_draw (hr.mono (by decide)) (by rfl) (pa_cons (pv 0) (pa_cons pe_int pa_nil)))))
      (pss_cons (ps_setLc (i := 6) (own := [("_law_at", 7)]) (g := gName 7)  (by rfl) sc_l_book.nd rfl rfl (sw_true rfl rfl rfl (by decide +kernel)) (pi_range1 rfl Z_range (pa_cons (pe_callB call_lenA (by rfl) Z_len (by decide +kernel) (pa_cons (pv 4) pa_nil)) pa_nil)) (blkOk_by (own := [("_law_at", 7)]) (N := N_l_book) (sc := defScope s_l_book) (by decide +kernel)) (fun _ _ _ _ _ => (pg_name (i := 7) sc_l_book.nd rfl (Or.inl rfl))) (fun _ _ _ _ _ => by exact (pts_one (pt_cmpR op_eq (pe_op op_mod (pe_op op_fdivA (pv 5) (pe_ix (ix_listK (K := K)) (pe_lst (pa_cons pe_int (pa_cons pe_int (pa_cons pe_int (pa_cons pe_int pa_nil))))) (pv 7) (fun _ _ => rfl))) pe_int) pe_int (nomark _)))) (fun _ _ _ _ _ => by exact (pe_ix (ix_listK (K := K)) (pv 4) (pv 7) (fun _ _ => rfl))))
      (pss_cons (ps_if (pt_cmpR op_eq (pe_callB call_lenA (by rfl) Z_len (by decide +kernel) (pa_cons (pv 6) pa_nil)) pe_int (nomark _))
      (pss_one (ps_set (i := 6) sc_l_book.nd rfl (Or.inl rfl) (pe_slice sl_list (pv 4) po_none (po_some pe_int))))
      pss_nil)
      (pss_one (ps_dput hu (pv 2) (pv 3) (pe_callTy call_tupleA (by rfl) Z_tuple (by decide +kernel) (pa_cons (pv 6) pa_nil)) rfl))))))
      pss_nil)))
      (pss_one (ps_ret (pv 2))))), ?_⟩
    walk_at "go"
    intro B hB
    have nBp : B ≠ p := hp.ne hB
    have hD := (wo_some hD0).1
    have nDB : D ≠ B := ne_of_none hD hB
    have tab : ∀ H', But p H H' → DictOf SdAt H' D l := fun H' b => (hT.same (but_wo b)).same wo_same
    have ek : (strK V.ref m0).map (·.1) = (l.map (·.1)).map Sum.inr := by rw [← hk0, List.map_map, List.map_map]; rfl
    have g2 := g.l2
    walk_at "go"
    refine x_ckw ?_
    walk_at "go"
    refine ⟨D, _, l.map (·.1), rfl, rfl, .inl (by rw [upd_ne nDB]; exact hD), ek, by rw [List.length_map]; omega, fun ys c hperm hc => ?_⟩
    have nBc : B ≠ c := ne_of_none upd_same hc
    have ncp : c ≠ p := fun e => by
      obtain ⟨x, y, z, n, e1⟩ := hp.new (o := .dK []) hB
      rw [← e, hc] at e1
      cases e1
    have ynd : ys.Nodup := (hperm.nodup_iff).mpr g.nd
    have yl : ys.length ≤ 100 := by rw [hperm.length_eq, List.length_map]; exact g2
    have b0 : But p H (upd (upd H B (.dK [])) c (.lst (strsV ys))) := (But.of_same (same_new hB)).new hc
    refine lpL (xs := strsV ys) (fun i σ H' => ∃ v3 v4 v5 v6 bk, σ = [some (.ref p), some (.ref D), some (.ref B), v3, v4, v5, v6, none] ∧ But p H H' ∧ PoolAt H' p ∧ H' c = some (.lst (strsV ys)) ∧ DictW RwAt (wo H' p) B bk ∧ (bk.map (·.1)).Nodup ∧ bk.length ≤ i ∧ BookOk l bk) (SqL.of upd_same) ?_ ?_ ?_ ?_
    · exact ⟨_, _, _, _, [], rfl, b0, (hp.new hB).new hc, upd_same, .nil (by rw [wo_ne nBp, upd_ne nBc, upd_same]), List.nodup_nil, Nat.zero_le _, fun q hq => by cases hq⟩
    · exact fun i σ H' _ ⟨_, _, _, _, _, _, _, _, h, _⟩ => SqL.of h
    · rintro i v σ H4 hv ⟨v3, v4, v5, v6, bk, rfl, b4, p4, hc4, hW, bnd, bl, bok⟩
      rw [List.getElem?_map] at hv
      cases hz : ys[i]? with
      | none => rw [hz] at hv; cases hv
      | some z =>
        rw [hz] at hv
        have ex : V.str z = v := Option.some.inj hv
        subst ex
        have hi : i < ys.length := (List.getElem?_eq_some_iff.mp hz).1
        obtain ⟨x, hx⟩ := lookup_isSome (hperm.mem_iff.mp (List.mem_of_getElem? hz))
        obtain ⟨m4, b, hm4, hb4, hxa⟩ := (tab H4 b4).at hx
        walk_at "go"
        refine x_getL (.inl hm4) hb4 ?_
        walk_at "go"
        cases x with
        | fin =>
          have hb1 : H4 b = some (.tup [.str "end"]) := hxa
          refine x_ixt 0 (SqT.of hb1) rfl rfl ?_
          walk_at "go"
          refine x_no (by decide +kernel) ?_
          walk_at "go"
          exact ⟨_, _, _, _, bk, rfl, b4, p4, hc4, hW, bnd, by omega, bok⟩
        | chance l2 =>
          obtain ⟨d2, hb1, _⟩ := hxa
          refine x_ixt 0 (SqT.of hb1) rfl rfl ?_
          walk_at "go"
          refine x_no (by decide +kernel) ?_
          walk_at "go"
          exact ⟨_, _, _, _, bk, rfl, b4, p4, hc4, hW, bnd, by omega, bok⟩
        | hand k2 l2 =>
          obtain ⟨d2, hb1, _⟩ := id hxa
          have gx := g.sd z _ hx
          refine x_ixt 0 (SqT.of hb1) rfl rfl ?_
          walk_at "go"
          refine x_yes rfl ?_
          walk_at "go"
          refine ⟨p, 2, rfl, p4, by decide, by decide, fun H5 y b5 p5 y0 y1 => ?_⟩
          have b05 := b4.trans b5
          have hW5 := hW.same monoR (but_wo b5)
          have hc5 := b5 c _ hc4 ncp
          walk_at "go"
          refine x_dec (fun hy => ?_) (fun hy => ?_)
          · walk_at "go"
            refine ⟨D, z, l, _, h, _, rfl, TabRd.of (tab H5 b05), hx, gx, fun H6 q ss s6 hq hq6 hpm hsort => ?_⟩
            have nqp : q ≠ p := p5.ne hq
            have p6 := p5.same s6
            have b06 := b05.trans (But.of_same s6)
            have hW6 := hW5.same monoR (but_wo (But.of_same s6))
            have sl : ss.length = l2.length := by
              rw [hpm.length_eq]
              show (l2.map (·.1)).length = _
              rw [List.length_map]
            obtain ⟨_, _, gnd, gl1, gl4, _⟩ := id gx
            have ssnd : ss.Nodup := (hpm.nodup_iff).mpr gnd
            walk_at "go"
            refine ⟨p, 15, rfl, p6, by decide, by decide, fun H7 u b7 p7 u0 u1 => ?_⟩
            have b07 := b06.trans b7
            have hq7 := b7 q _ hq6 nqp
            have hc7 := b7 c _ (s6 _ _ hc5) ncp
            have hW7 := hW6.same monoR (but_wo b7)
            walk_at "go"
            refine runR ⟨by rw [List.length_map]; omega, by rw [List.length_map]; omega⟩ ?_
            intro E1 hE1
            have nEp : E1 ≠ p := p7.ne hE1
            refine lcR (fun j H' => L2.Same H7 H' ∧ ∃ r : List Str, H' E1 = some (.lst (strsV r)) ∧ r.Sublist (ss.take j)) ⟨same_new hE1, [], upd_same, by simp⟩ ?_ ?_
            · rintro j H8 hj ⟨s8, r, hE8, hr8⟩
              rw [Int.toNat_natCast, List.length_map] at hj
              have hj4 : j < 4 := by omega
              walk_at "go"
              refine ⟨rfl, ?_⟩
              walk_at "go"
              refine ⟨sz_le (by simp), fun t ht => ?_⟩
              have nEt : E1 ≠ t := ne_of_none hE8 ht
              obtain ⟨v, hv, hvm⟩ := pickI [1, 2, 4, 8] (j := (j : Int)) (by omega) (by simp; omega)
              have hv8 : 1 ≤ v ∧ v ≤ 8 := by simp at hvm; omega
              have s9 : L2.Same H7 (upd H8 t (.lst [.int 1, .int 2, .int 4, .int 8])) := same_upd s8 (s8.free ht)
              have hE9 : (upd H8 t (.lst [.int 1, .int 2, .int 4, .int 8])) E1 = some (.lst (strsV r)) := by rw [upd_ne nEt]; exact hE8
              walk_at "go"
              refine x_ixl (j : Int).toNat (SqL.of upd_same) (by omega) hv ?_
              generalize upd H8 t (.lst [.int 1, .int 2, .int 4, .int 8]) = H9 at s9 hE9 ⊢
              obtain ⟨m, hm⟩ : ∃ m, ss[j]? = some m := ⟨_, List.getElem?_eq_getElem hj⟩
              have hmv : (strsV ss)[j]? = some (.str m) := by rw [List.getElem?_map, hm]; rfl
              have rl : r.length ≤ j := by
                have := hr8.length_le
                rw [List.length_take] at this
                omega
              walk_at "go"
              refine x_dec (fun hb => ?_) (fun hb => ?_)
              · walk_at "go"
                refine x_ixl j (SqL.of (s9 _ _ hq7)) rfl hmv ?_
                refine ⟨_, hE9, sz_lt (by rw [List.length_map]; omega), same_upd s9 hE1, r ++ [m], by rw [upd_same, strsV_snoc], ?_⟩
                rw [take_succ_get hm]
                exact hr8.append (List.Sublist.refl _)
              · refine ⟨s9, r, hE9, ?_⟩
                rw [take_succ_get hm]
                exact hr8.trans (List.sublist_append_left _ _)
            · rintro H8 ⟨s8, r, hE8, hr8⟩
              rw [Int.toNat_natCast, List.length_map, List.take_length] at hr8
              have b08 := b07.trans (But.of_same s8)
              have p8 := p7.same s8
              have rok : ∀ r2 : List Str, r2.Sublist ss → r2 ≠ [] → RowOk (.hand k2 l2) r2 := fun r2 h2 hne => ⟨(sorted_pw hsort).sublist h2, ssnd.sublist h2, hne, fun m hm => hpm.mem_iff.mp (h2.subset hm)⟩
              refine x_seq ?_
              refine if_joinH (α := Addr × List Str) (fun a H' => L2.Same H8 H' ∧ H' a.1 = some (.lst (strsV a.2)) ∧ RowOk (.hand k2 l2) a.2 ∧ a.2.length ≤ 4) (fun a => [some (.ref p), some (.ref D), some (.ref B), some (.str z), some (.ref q), some (.int (1 + u)), some (.ref a.1), none]) (fun n' hn' => ?_) ?_
              · walk_at "go"
                refine x_dec (fun h0 => ?_) (fun h0 => ?_)
                · walk_at "go"
                  refine x_slL (SqL.of (s8 _ _ hq7)) fun sA hsA => ?_
                  rw [cut_to (by omega) (by rw [List.length_map]; omega), ← List.map_take]
                  refine hn' (sA, ss.take 1) _ ⟨same_new hsA, upd_same, rok _ (List.take_sublist _ _) (fun e => ?_), by show (ss.take 1).length ≤ 4; rw [List.length_take]; omega⟩
                  have e2 : (ss.take 1).length = 0 := by
                    rw [show ss.take 1 = [] from e]
                    rfl
                  rw [List.length_take] at e2
                  omega
                · walk_at "go"
                  refine hn' (E1, r) _ ⟨L2.Same.refl _, hE8, rok r hr8 (fun e => h0 (by rw [e]; rfl)), ?_⟩
                  have := hr8.length_le
                  show r.length ≤ 4
                  omega
              · rintro ⟨rA, r2⟩ H9 ⟨s9, hr9, ok9, l9⟩
                walk_at "go"
                refine x_tupL (SqL.of hr9) fun t ht => ?_
                have p9 := p8.same s9
                have ntp : t ≠ p := p9.ne ht
                have b10 : But p H7 (upd H9 t (.tup (strsV r2))) := ((But.of_same s8).trans (But.of_same s9)).new ht
                obtain ⟨m, m1, m2, m3⟩ := (hW7.same monoR (but_wo b10)).ex
                have hml : m.length = bk.length := by
                  have := congrArg List.length m2
                  rwa [List.length_map, List.length_map] at this
                have hB10 := (wo_some m1).1
                have ntB : t ≠ B := fun e => by
                  rw [e, upd_same] at hB10
                  cases hB10
                walk_at "go"
                refine x_putL (l := m) (x := t) hB10 (by omega) rfl ?_
                walk_at "go"
                refine ⟨_, _, _, _, putL bk z r2, rfl, fun b o e n => ?_, (p9.new ht).upd nBp.symm, by rw [upd_ne nBc.symm]; exact b10 c _ hc7 ncp, ?_, putL_nd _ bnd, Nat.le_trans (putL_len _ _ _) (Nat.succ_le_succ bl), fun qq hqq => ?_⟩
                · rw [upd_ne (ne_of_none e hB)]
                  exact b10 b o (b07 b o e n) n
                · rw [wo_upd_ne nBp]
                  exact DictW.put m2 m3 (show RwAt _ _ _ from by
                    show wo (wo _ p) B t = _
                    rw [wo_ne ntB, wo_ne ntp]
                    exact upd_same)
                · rcases putL_mem hqq with rfl | ⟨hqq, _⟩
                  · exact ⟨k2, l2, hx, ok9⟩
                  · exact bok qq hqq
          · walk_at "go"
            exact ⟨_, _, _, _, bk, rfl, b05, p5, hc5, hW5, bnd, by omega, bok⟩
    · rintro σ H4 ⟨v3, v4, v5, v6, bk, rfl, b4, p4, hc4, hW, bnd, bl, bok⟩
      walk_at "go"
      exact k H4 B bk b4 p4 hB nBp ((hW.of monoR).imp wo_same fun _ _ h => wo_same _ _ h) bnd bok
end
/-! ### a wish that suits its work -/
structure Suits (l : List (Str × Sd)) (wl : List (Str × Int)) : Prop where
  srt : sortedS (l.map (·.1)) = true
  nw : (wl.map (·.1)).Nodup
  iff : ∀ z, z ∈ wl.map (·.1) ↔ l.lookup z = some .fin
theorem finAt_iff {l : List (Str × Sd)} {z : Str} : finAt l z = true ↔ l.lookup z = some .fin := by
  unfold finAt
  cases h : l.lookup z with
  | none => simp
  | some x => cases x <;> simp [isFin]
theorem suits_ends {l : List (Str × Sd)} {wl l' : List (Str × Int)} (s : Suits l wl) (nd : (l.map (·.1)).Nodup) (hp : l'.Perm wl) (hs : sortedS (l'.map (·.1)) = true) : l'.map (·.1) = (l.map (·.1)).filter (finAt l) := by
  refine List.Perm.eq_of_pairwise (le := LeS) (fun a b _ _ h1 h2 => str_ext (nlt_anti _ _ h1 h2)) (sorted_pw hs) ((sorted_pw s.srt).filter _) ?_
  refine (List.perm_ext_iff_of_nodup ?_ ?_).mpr fun z => ?_
  · exact (List.Perm.nodup_iff (hp.map _)).mpr s.nw
  · exact nd.filter _
  · rw [(hp.map (·.1)).mem_iff, s.iff z, List.mem_filter, finAt_iff]
    exact ⟨fun h => ⟨List.mem_map.mpr ⟨_, lookup_mem h, rfl⟩, h⟩, fun h => h.2⟩
theorem wkF_names {h : Int} {st : Str} {t n e : Addr} {r : Bool} : (wkF h st t n e r).lookup ("names" : Str) = some (.ref n) := by
  unfold wkF
  rw [lookup_putF, if_neg (by decide +kernel), lookup_putF, if_neg (by decide +kernel), lookup_putF, if_pos rfl]
theorem wkF_ends {h : Int} {st : Str} {t n e : Addr} {r : Bool} : (wkF h st t n e r).lookup ("ends" : Str) = some (.ref e) := by
  unfold wkF
  rw [lookup_putF, if_neg (by decide +kernel), lookup_putF, if_pos rfl]
theorem NameS.ok {z : Str} (h : NameS z) : PyData.strOk z = true := by
  obtain ⟨d, r, e, hd, _, hr⟩ := h
  have key : ∀ c ∈ z.cps.toList, c < 0x110000 := by
    rw [e]
    intro c hc
    rcases List.mem_cons.mp hc with rfl | hc
    · have := hd.2; omega
    · rcases hr c hc with q | q <;> omega
  unfold PyData.strOk
  rw [← Array.all_toList]
  exact List.all_eq_true.mpr fun c hc => decide_eq_true (key c hc)
def spSuited (CW CI : Addr) : Sp := fun vs H Q _ => ∃ (a s : Addr) (h e : Int) (st : Str) (l : List (Str × Sd)) (wl : List (Str × Int)), vs = [.ref a, .ref s] ∧ WorkAt CW H a h st l ∧ WishAt CI H s wl e ∧ GoodT h l ∧ Suits l wl ∧ ∀ H', L2.Same H H' → Q .non H'
def spSuitedLot (K : PySem.W.Frag) (CW CI : Addr) : Sp := fun vs H Q _ => ∃ (a s lo : Addr) (h e : Int) (st : Str) (l : List (Str × Sd)) (wl : List (Str × Int)) (lot : List Int), vs = [.ref a, .ref s, .ref lo] ∧ WorkAt CW H a h st l ∧ WishAt CI H s wl e ∧ GoodT h l ∧ Suits l wl ∧ SqT K H lo (intsV lot) ∧ LotOk h lot ∧ ∀ H', L2.Same H H' → Q .non H'
section
variable {P : Program} {w : World} {K : PySem.W.Frag} {mg : Str → Option Value} {base : Heap} {CW C : Addr}
theorem ok_suited {f : Addr} {fd : FuncData} (F : Fun K "suited" "suited" s_suited f fd) (K_Work : Cls K CW) (K_Wish : Cls K C) (N1 : NoAttr K CW "ends") (N2 : NoAttr K C "table") (Z_tuple : mg "tuple" = none) : FnOk P w K mg base CX0 1 f fd ["work", "wish"] (spSuited CW C) := by
  refine F.ok sc_suited (fun vs H Q E h => ?_) (fun cdv A outer s H vs Q E hr h => ?_)
  · obtain ⟨_, _, _, _, _, _, _, rfl, _⟩ := h
    rfl
  · obtain ⟨a, s, h, e, st, l, wl, rfl, wa, wi, g, su, q⟩ := h
    obtain ⟨dx, t, n, en, h1, hT, hN, hE⟩ := wa.ex
    obtain ⟨dy, tw, l', w1, w2, w3, w4⟩ := wi.ex
    refine ⟨_, (pss_one (ps_if (pt_cmpR (op_neD hr.units) (pe_callTy (call_tupD rfl) (by rfl) Z_tuple (by decide +kernel) (pa_cons (pe_fld (pv 1) rfl) pa_nil)) (pe_fld (pv 0) rfl) (nomark _))
      (pss_one ps_never)
      pss_nil)), ?_⟩
    walk_at "go"
    refine x_fld K_Wish N2 w1 (wF_table _ _ _) ?_
    walk_at "go"
    refine x_tupD (.inl w2) fun tt htt => ?_
    have sm : L2.Same H (upd H tt (.tup ((strK V.int l').map fun kv => kV kv.1))) := same_new htt
    walk_at "go"
    refine x_fld K_Work N1 (sm _ _ h1) wkF_ends ?_
    walk_at "go"
    have e1 : (strK V.int l').map (fun kv => kV kv.1) = strsV (l'.map (·.1)) := by
      show ((l'.map _).map _) = (l'.map _).map _
      rw [List.map_map, List.map_map]
      rfl
    have ee := suits_ends su g.nd w3 w4
    have okE : ∀ z ∈ (l.map (·.1)).filter (finAt l), PyData.strOk z = true := fun z hz => (g.nm z (List.mem_filter.mp hz).1).ok
    refine x_neTS (xs := l'.map (·.1)) (ys := (l.map (·.1)).filter (finAt l)) (SqT.of (by rw [upd_same, e1])) (SqT.of (sm _ _ hE)) (by rw [ee]; exact okE) okE ?_
    walk_at "go"
    refine x_nyes ee ?_
    walk_at "go"
    exact q _ sm
end
/-! ### where steps lead, in order -/
theorem leads_map {h : Int} {ns : List Str} {x : Sd} (g : GoodSd h ns x) : leadsL x = (stepsL x).map fun s => (toS x s).getD "" := by
  cases x with
  | fin => rfl
  | chance l =>
    show l.map (·.2.1) = (l.map (·.1)).map _
    rw [List.map_map]
    refine List.map_congr_left fun q hq => ?_
    show q.2.1 = ((l.lookup q.1).map Prod.fst).getD ""
    rw [lookup_of g.1 (z := q.1) (x := q.2) hq]
    rfl
  | hand k l =>
    show l.map (·.2) = (l.map (·.1)).map _
    rw [List.map_map]
    refine List.map_congr_left fun q hq => ?_
    show q.2 = (l.lookup q.1).getD ""
    rw [lookup_of g.2.2.1 (z := q.1) (x := q.2) hq]
    rfl
theorem steps_le {h : Int} {ns : List Str} {x : Sd} (g : GoodSd h ns x) : (stepsL x).length ≤ 4 := by
  cases x with
  | fin => exact Nat.zero_le _
  | chance l => show (l.map _).length ≤ 4; rw [List.length_map]; exact g.2.2.1
  | hand k l => show (l.map _).length ≤ 4; rw [List.length_map]; exact g.2.2.2.2.1
theorem steps_to {h : Int} {ns : List Str} {x : Sd} (g : GoodSd h ns x) {s : Str} (hs : s ∈ stepsL x) : ∃ t, toS x s = some t ∧ t ∈ leadsL x ∧ t ∈ ns := by
  obtain ⟨t, ht⟩ := toS_some hs
  have hl : t ∈ leadsL x := by
    rw [leads_map g]
    exact List.mem_map.mpr ⟨s, hs, by rw [ht]; rfl⟩
  refine ⟨t, ht, hl, ?_⟩
  cases x with
  | fin => cases hl
  | chance l =>
    obtain ⟨q, hq, e⟩ := List.mem_map.mp hl
    rw [← e]
    exact (g.2.2.2 q hq).2.1
  | hand k l =>
    obtain ⟨q, hq, e⟩ := List.mem_map.mp hl
    rw [← e]
    exact (g.2.2.2.2.2 q hq).2
/-! ### what is bad, as a list of names that grows -/
def dwB (lot : List Int) (bd : List Str) (x : Sd) : Bool := !(stepsL x).isEmpty && (if mvIn lot x = true then (leadsL x).all (fun t => decide (t ∈ bd)) else (leadsL x).any fun t => decide (t ∈ bd))
def bdD (bd : List Str) : List (Str × Bool) := bd.map fun z => (z, true)
theorem bdD_keys (bd : List Str) : (bdD bd).map (·.1) = bd := by
  unfold bdD
  rw [List.map_map]
  exact List.map_id _
theorem bdD_in (bd : List Str) (t : Str) : ((bdD bd).lookup t).isSome = decide (t ∈ bd) := by
  by_cases h : t ∈ bd
  · obtain ⟨x, hx⟩ := lookup_isSome (l := bdD bd) (z := t) (by rw [bdD_keys]; exact h)
    rw [hx, decide_eq_true h]
    rfl
  · rw [lookup_none (by rw [bdD_keys]; exact h), decide_eq_false h]
    rfl
theorem bdD_put {bd : List Str} {z : Str} (h : z ∉ bd) : putL (bdD bd) z true = bdD (bd ++ [z]) := by
  rw [putL_new _ (by rw [bdD_keys]; exact h)]
  unfold bdD
  rw [List.map_append]
  rfl
section
variable {l : List (Str × Sd)} {lot : List Int} {wl : List (Str × Int)} {lv : Int × Int} {h : Int}
/-- what a pass may say -/
structure BdL (l : List (Str × Sd)) (lot : List Int) (wl : List (Str × Int)) (lv : Int × Int) (bd : List Str) : Prop where
  nd : bd.Nodup
  sub : ∀ z ∈ bd, z ∈ l.map (·.1)
  sound : ∀ z ∈ bd, Bad l lot wl lv z
  fins : ∀ z, l.lookup z = some .fin → ((wl.lookup z).getD 0) * lv.2 < lv.1 → z ∈ bd
theorem BdL.len {bd : List Str} (b : BdL l lot wl lv bd) : bd.length ≤ l.length := by
  have := List.Nodup.length_le_of_subset b.nd fun z hz => b.sub z hz
  rwa [List.length_map] at this
theorem leads_ne {h : Int} {ns : List Str} {x : Sd} (g : GoodSd h ns x) : (stepsL x).isEmpty = false ↔ leadsL x ≠ [] := by
  rw [leads_map g]
  cases stepsL x <;> simp
theorem BdL.put {bd : List Str} (b : BdL l lot wl lv bd) {z : Str} {x : Sd} {ns : List Str} (hx : l.lookup z = some x) (g : GoodSd h ns x) (hz : z ∉ bd) (hw : dwB lot bd x = true) : BdL l lot wl lv (bd ++ [z]) := by
  obtain ⟨w1, w2⟩ := Bool.and_eq_true_iff.mp hw
  have hne : leadsL x ≠ [] := (leads_ne g).mp (by simpa using w1)
  have bad : Bad l lot wl lv z := by
    cases hm : mvIn lot x with
    | true =>
      rw [hm, if_pos rfl] at w2
      exact .all hx hne hm fun t ht => b.sound t (of_decide_eq_true (List.all_eq_true.mp w2 t ht))
    | false =>
      rw [hm, if_neg Bool.false_ne_true] at w2
      obtain ⟨t, ht, e⟩ := List.any_eq_true.mp w2
      exact .any hx hm ht (b.sound t (of_decide_eq_true e))
  refine ⟨?_, fun y hy => ?_, fun y hy => ?_, fun y h1 h2 => List.mem_append_left _ (b.fins y h1 h2)⟩
  · exact List.nodup_append.mpr ⟨b.nd, by simp, fun y hy u hu e => hz (by rw [List.mem_singleton.mp hu] at e; rw [← e]; exact hy)⟩
  · rcases List.mem_append.mp hy with hy | hy
    · exact b.sub y hy
    · rw [List.mem_singleton.mp hy]
      exact List.mem_map.mpr ⟨_, lookup_mem hx, rfl⟩
  · rcases List.mem_append.mp hy with hy | hy
    · exact b.sound y hy
    · rw [List.mem_singleton.mp hy]
      exact bad
/-- where nothing more is drawn in, all that is bad is said -/
theorem BdL.full {bd : List Str} (b : BdL l lot wl lv bd) (g : ∀ z x, l.lookup z = some x → ∃ ns, GoodSd h ns x) (hc : ∀ z x, l.lookup z = some x → z ∈ bd ∨ dwB lot bd x = false) {z : Str} (hb : Bad l lot wl lv z) : z ∈ bd := by
  induction hb with
  | fin h1 h2 => exact b.fins _ h1 h2
  | @all z x hx hne hm _ ih =>
    refine (hc z x hx).resolve_right fun e => ?_
    obtain ⟨ns, gx⟩ := g z x hx
    have e1 : (stepsL x).isEmpty = false := (leads_ne gx).mpr hne
    have e2 : (leadsL x).all (fun t => decide (t ∈ bd)) = true := List.all_eq_true.mpr fun t ht => decide_eq_true (ih t ht)
    unfold dwB at e
    rw [e1, hm, if_pos rfl, e2] at e
    cases e
  | @any z t x hx hm ht _ ih =>
    refine (hc z x hx).resolve_right fun e => ?_
    obtain ⟨ns, gx⟩ := g z x hx
    have e1 : (stepsL x).isEmpty = false := (leads_ne gx).mpr fun q => by rw [q] at ht; cases ht
    have e2 : (leadsL x).any (fun t => decide (t ∈ bd)) = true := List.any_eq_true.mpr ⟨t, ht, decide_eq_true ih⟩
    unfold dwB at e
    rw [e1, hm, if_neg Bool.false_ne_true, e2] at e
    cases e
end
/-! ### what is drawn in, what is bad, what is safe -/
/-- without a test -/
theorem lcM {α : Type} {as : List α} {c : α → V} {J : It} {G : Hp → Prop} {n : Nat} {σ : L2.St} {H : Hp} {D : Addr} {Qd : Hp → Prop} {te : TE} (w : L2.Walk J (as.map c).length G (L2.YAt (as.map c))) (hG : ∀ H', L2.Same H H' → G H') (hD : H D = none) (f : α → V) (hl : as.length ≤ 10000)
    (he : ∀ a ∈ as, ∀ H', L2.Same H H' → ∀ Qk : VK, (∀ H'', L2.Same H' H'' → Qk (f a) H'') → te ((wipe σ [n]).set n (some (c a))) H' Qk)
    (k : ∀ H', L2.Same H H' → H' D = some (.lst (as.map f)) → Qd H') : LcP J (gName n) tYes te [n] σ D Qd H := by
  refine lcFM w hG hD (fun _ => true) f hl (fun a _ H' _ R hR => x_yes1 (hR H' fun _ _ h => h)) (fun a ha _ => he a ha) fun H' s h => k H' s ?_
  rw [h, List.filter_eq_self.mpr fun _ _ => rfl]
def spDrawnIn (K : PySem.W.Frag) (C : Addr) : Sp := fun vs H Q _ => ∃ (a lo B : Addr) (h : Int) (st z : Str) (l : List (Str × Sd)) (x : Sd) (lot : List Int) (bd : List Str), vs = [.ref a, .ref lo, .str z, .ref B] ∧ WorkAt C H a h st l ∧ SqT K H lo (intsV lot) ∧ l.lookup z = some x ∧ GoodSd h (l.map (·.1)) x ∧ SrtSd x ∧
  H B = some (.dK (strK V.bl (bdD bd))) ∧ ∀ H', L2.Same H H' → Q (.bl (dwB lot bd x)) H'
/-- exactly what is bad -/
structure BadList (l : List (Str × Sd)) (lot : List Int) (wl : List (Str × Int)) (lv : Int × Int) (bd : List Str) : Prop where
  nd : bd.Nodup
  len : bd.length ≤ l.length
  iff : ∀ z ∈ l.map (·.1), z ∈ bd ↔ Bad l lot wl lv z
structure WorthsOk (wl : List (Str × Int)) : Prop where
  bd : ∀ q ∈ wl, -99 ≤ q.2 ∧ q.2 ≤ 99
  len : wl.length ≤ 100
def spBadStands (K : PySem.W.Frag) (CW CI : Addr) : Sp := fun vs H Q _ => ∃ (a s lo lvl : Addr) (h e : Int) (st : Str) (l : List (Str × Sd)) (wl : List (Str × Int)) (lot : List Int) (b : Int × Int), vs = [.ref a, .ref s, .ref lo, .ref lvl] ∧ WorkAt CW H a h st l ∧ WishAt CI H s wl e ∧ GoodT h l ∧ Suits l wl ∧ WorthsOk wl ∧ (∀ z x, l.lookup z = some x → SrtSd x) ∧
  SqT K H lo (intsV lot) ∧ FrAt H lvl b ∧ ∀ H' B bd, L2.Same H H' → H B = none → H' B = some (.dK (strK V.bl (bdD bd))) → BadList l lot wl b bd → Q (.ref B) H'
def SafeList (l : List (Str × Sd)) (lot : List Int) (wl : List (Str × Int)) (lv : Int × Int) (ss : List Str) : Prop := ∃ p : Str → Bool, ss = (l.map (·.1)).filter p ∧ ∀ z ∈ l.map (·.1), p z = true ↔ ¬ Bad l lot wl lv z
def spSafeStands (K : PySem.W.Frag) (CW CI : Addr) : Sp := fun vs H Q _ => ∃ (a s lo lvl : Addr) (h e : Int) (st : Str) (l : List (Str × Sd)) (wl : List (Str × Int)) (lot : List Int) (b : Int × Int), vs = [.ref a, .ref s, .ref lo, .ref lvl] ∧ WorkAt CW H a h st l ∧ WishAt CI H s wl e ∧ GoodT h l ∧ Suits l wl ∧ WorthsOk wl ∧ (∀ z x, l.lookup z = some x → SrtSd x) ∧
  SqT K H lo (intsV lot) ∧ LotOk h lot ∧ FrAt H lvl b ∧ LvOk b ∧ ∀ H' p ss, L2.Same H H' → H p = none → H' p = some (.lst (strsV ss)) → SafeList l lot wl b ss → Q (.ref p) H'
section
variable {P : Program} {w : World} {K : PySem.W.Frag} {mg : Str → Option Value} {base : Heap} {CW C : Addr}
end
theorem wkn {h : Int} {st m : Str} {t n e : Addr} {r : Bool} (hm : (["ringless", "ends", "names", "table", "start", "hands"] : List Str).contains m = false) : (wkF h st t n e r).lookup m = none := by
  have key : ∀ z ∈ (["ringless", "ends", "names", "table", "start", "hands"] : List Str), m ≠ z := fun z hz e => by
    rw [e, List.contains_iff_mem.mpr hz] at hm
    cases hm
  exact wkF_none (key _ (by simp)) (key _ (by simp)) (key _ (by simp)) (key _ (by simp)) (key _ (by simp)) (key _ (by simp))
/-- the stands looked at so far are said, or not drawn in -/
def Seen (l : List (Str × Sd)) (lot : List Int) (bd ys : List Str) : Prop := ∀ z ∈ ys, z ∈ bd ∨ ∀ x, l.lookup z = some x → dwB lot bd x = false
section
variable {P : Program} {w : World} {K : PySem.W.Frag} {mg : Str → Option Value} {base : Heap} {CW C : Addr}
end
/-! ### the freest book -/
def frRow (ss : List Str) (x : Sd) : List Str := (stepsL x).filter fun s => decide ((toS x s).getD "" ∈ ss)
structure FreeOk (l : List (Str × Sd)) (lot : List Int) (ss : List Str) (bk : List (Str × List Str)) : Prop where
  keys : bk.map (·.1) = ss.filter fun z => mvIn lot ((l.lookup z).getD .fin)
  rows : ∀ q ∈ bk, ∃ x, l.lookup q.1 = some x ∧ q.2 = frRow ss x
def spFreest (K : PySem.W.Frag) (CW CI : Addr) : Sp := fun vs H Q _ => ∃ (a s lo lvl : Addr) (h e : Int) (st : Str) (l : List (Str × Sd)) (wl : List (Str × Int)) (lot : List Int) (b : Int × Int), vs = [.ref a, .ref s, .ref lo, .ref lvl] ∧ WorkAt CW H a h st l ∧ WishAt CI H s wl e ∧ GoodT h l ∧ Suits l wl ∧ WorthsOk wl ∧ (∀ z x, l.lookup z = some x → SrtSd x) ∧
  SqT K H lo (intsV lot) ∧ LotOk h lot ∧ FrAt H lvl b ∧ LvOk b ∧ ∀ ss, SafeList l lot wl b ss → (st ∉ ss → ∀ H', L2.Same H H' → Q .non H') ∧ (st ∈ ss → ∀ H' B bk, L2.Same H H' → H B = none → DictOf RwAt H' B bk → FreeOk l lot ss bk → Q (.ref B) H')
section
variable {P : Program} {w : World} {K : PySem.W.Frag} {mg : Str → Option Value} {base : Heap} {CW C : Addr}
end
/-! ### books, judged -/
abbrev LtS (a b : Str) : Prop := a.cps.toList < b.cps.toList
theorem lt_of_le {a b : Str} (h : LeS a b) (n : a ≠ b) : LtS a b := by
  have h1 : ¬ b.cps.toList < a.cps.toList := by
    have : ltCps b.cps.toList a.cps.toList = false := h
    rw [ltCps_eq] at this
    exact of_decide_eq_false this
  rcases Decidable.em (a.cps.toList < b.cps.toList) with q | q
  · exact q
  · exact absurd (str_ext (List.le_antisymm (List.not_lt.mp h1) (List.not_lt.mp q))) n
theorem pw_lt {r : List Str} (h : r.Pairwise LeS) (nd : r.Nodup) : r.Pairwise LtS := by
  induction r with
  | nil => exact .nil
  | cons a t ih =>
    obtain ⟨h1, h2⟩ := List.pairwise_cons.mp h
    obtain ⟨n1, n2⟩ := List.nodup_cons.mp nd
    exact List.pairwise_cons.mpr ⟨fun b hb => lt_of_le (h1 b hb) fun e => n1 (by rw [e]; exact hb), ih h2 n2⟩
theorem x_ninTs {K : PySem.W.Frag} {H : Hp} {Q : VK} {p : Addr} {ws : List Str} {z : Str} (h : SqT K H p (ws.map V.str)) (q : Q (.bl (!decide (z ∈ ws))) H) : rIn K true (.str z) (.ref p) H Q :=
  ⟨p, _, rfl, .inr h, rfl, flat_strs ws, by rw [inV_strs]; exact q⟩
theorem rowok_sub {x : Sd} {r : List Str} {h : Int} {ns : List Str} (g : GoodSd h ns x) (k : RowOk x r) : r.length ≤ 4 := by
  have := List.Nodup.length_le_of_subset k.nd fun m hm => k.sub m hm
  have := steps_le g
  omega
/-- what no book may stand in for -/
theorem work_wo {C : Addr} {H : Hp} {a B : Addr} {h : Int} {st : Str} {l : List (Str × Sd)} {bk : List (Str × List Str)} (wa : WorkAt C H a h st l) (g : GoodT h l) (hB : DictOf RwAt H B bk) (ok : BookOk l bk) : WorkAt C (wo H B) a h st l := by
  obtain ⟨dx, t, n, e, h1, hT, hN, hE⟩ := wa.ex
  obtain ⟨mb, b1, b2, b3⟩ := hB.ex
  obtain ⟨m, t1, t2, t3⟩ := id hT.ex
  have na : a ≠ B := fun q => by rw [q, b1] at h1; cases h1
  have nn : n ≠ B := fun q => by rw [q, b1] at hN; cases hN
  have ne : e ≠ B := fun q => by rw [q, b1] at hE; cases hE
  have notB : ∀ (l2 : List (Str × (Str × Int))), l2 ≠ [] → ¬ DictOf PairAt H B l2 := fun l2 hl2 hD => by
    obtain ⟨m2, g1, g2, g3⟩ := hD.ex
    rw [b1] at g1
    have e1 := strK_inj (f := V.ref) (fun a b e => by cases e; rfl) (HO.dK.inj (Option.some.inj g1))
    subst e1
    cases mb with
    | nil =>
      cases l2 with
      | nil => exact hl2 rfl
      | cons p r => cases g2
    | cons p r =>
      obtain ⟨x1, _, y1⟩ := b3 p.1 p.2 List.mem_cons_self
      obtain ⟨x2, _, y2⟩ := g3 p.1 p.2 List.mem_cons_self
      have y1' : H p.2 = some (.tup (strsV x1)) := y1
      have y2' : H p.2 = some (.tup [.str x2.1, .int x2.2]) := y2
      rw [y1'] at y2'
      have e3 := HO.tup.inj (Option.some.inj y2')
      cases x1 with
      | nil => cases e3
      | cons c d =>
        cases d with
        | nil => cases e3
        | cons c2 d2 =>
          injection e3 with _ e3
          injection e3 with e3 _
          cases e3
  have notS : ∀ (l2 : List (Str × Str)), l2 ≠ [] → H B ≠ some (.dK (strK V.str l2)) := fun l2 hl2 e1 => by
    rw [b1] at e1
    have e1 := HO.dK.inj (Option.some.inj e1)
    cases l2 with
    | nil => exact hl2 rfl
    | cons p r =>
      cases mb with
      | nil => cases e1
      | cons p' r' =>
        have e2 : ((Sum.inr p'.1 : Key), V.ref p'.2) :: strK V.ref r' = ((Sum.inr p.1 : Key), V.str p.2) :: strK V.str r := e1
        injection e2 with e3 _
        injection e3 with _ e4
        cases e4
  have sdw : ∀ b x, SdAt H b x → (∃ ns, GoodSd h ns x) → SdAt (wo H B) b x := fun b x hx ⟨ns, gx⟩ => sd_wo (fun xs e => by rw [b1] at e; cases e) notS notB hx gx
  have nt : t ≠ B := fun q => by
    rw [q, b1] at t1
    have e1 := strK_inj (f := V.ref) (fun a b e => by cases e; rfl) (HO.dK.inj (Option.some.inj t1))
    subst e1
    have l1 := g.l1
    cases mb with
    | nil =>
      have := congrArg List.length t2
      simp at this
      rw [← this] at l1
      simp at l1
    | cons p r =>
      obtain ⟨x1, hx1, y1⟩ := b3 p.1 p.2 List.mem_cons_self
      obtain ⟨x2, hx2, y2⟩ := t3 p.1 p.2 List.mem_cons_self
      obtain ⟨k, l2, hk, _⟩ := ok (p.1, x1) (lookup_mem hx1)
      rw [hx2] at hk
      cases hk
      obtain ⟨d, y2', _⟩ := y2
      have y1' : H p.2 = some (.tup (strsV x1)) := y1
      rw [y1'] at y2'
      have e3 := HO.tup.inj (Option.some.inj y2')
      cases x1 with
      | nil => cases e3
      | cons c d =>
        cases d with
        | nil => cases e3
        | cons c2 d2 =>
          injection e3 with _ e3
          injection e3 with e3 _
          cases e3
  refine ⟨dx, t, n, e, by rw [wo_ne na]; exact h1, ⟨m, by rw [wo_ne nt]; exact t1, t2, fun z b hzb => ?_⟩, by rw [wo_ne nn]; exact hN, by rw [wo_ne ne]; exact hE⟩
  obtain ⟨x, hx, hx2⟩ := t3 z b hzb
  exact ⟨x, hx, sdw b x hx2 ⟨_, g.sd z x hx⟩⟩
def spIsEntryB (K : PySem.W.Frag) : Sp := fun vs H Q _ => ∃ (p r : Addr) (ss rr : List Str), vs = [.ref p, .ref r] ∧ SqL K H p (strsV ss) ∧ SqT K H r (strsV rr) ∧ rr ≠ [] ∧ (∀ m ∈ rr, m ∈ ss) ∧ rr.Pairwise LtS ∧ rr.length ≤ 1000 ∧ ∀ H', L2.Same H H' → Q (.bl true) H'
def spIsBook (C : Addr) : Sp := fun vs H Q _ => ∃ (a B : Addr) (h : Int) (st : Str) (l : List (Str × Sd)) (bk : List (Str × List Str)), vs = [.ref a, .ref B] ∧ WorkAt C H a h st l ∧ GoodT h l ∧ (∀ z x, l.lookup z = some x → SrtSd x) ∧ DictOf RwAt H B bk ∧ (bk.map (·.1)).Nodup ∧ BookOk l bk ∧ ∀ H', L2.Same H H' → Q (.bl true) H'
def letS (l : List (Str × Sd)) (bk : List (Str × List Str)) (z : Str) : List Str := match bk.lookup z with
  | some r => r
  | none => stepsL ((l.lookup z).getD .fin)
def spLetSteps (C : Addr) : Sp := fun vs H Q _ => ∃ (a B : Addr) (h : Int) (st z : Str) (l : List (Str × Sd)) (bk : List (Str × List Str)) (x : Sd), vs = [.ref a, .ref B, .str z] ∧ WorkAt C H a h st l ∧ l.lookup z = some x ∧ GoodSd h (l.map (·.1)) x ∧ SrtSd x ∧ DictOf RwAt H B bk ∧ ∀ H' p, L2.Same H H' → H p = none → H' p = some (.lst (strsV (letS l bk z))) → Q (.ref p) H'
section
variable {P : Program} {w : World} {K : PySem.W.Frag} {mg : Str → Option Value} {base : Heap} {CW : Addr}
theorem ok_is_entry {f : Addr} {fd : FuncData} (F : Fun K "is_entry" "is_entry" s_is_entry f fd) (Z_isinstance : mg "isinstance" = none) (Z_tuple : mg "tuple" = none) (Z_str : mg "str" = none) (Z_len : mg "len" = none) (Z_enumerate : mg "enumerate" = none) : FnOk P w K mg base CX0 1 f fd ["steps", "row"] (spIsEntryB K) := by
  refine F.ok sc_is_entry (fun vs H Q E h => ?_) (fun cdv A outer s H vs Q E hr h => ?_)
  · obtain ⟨_, _, _, _, rfl, _⟩ := h
    rfl
  · obtain ⟨p, r, ss, rr, rfl, hp, hrr, ne, sub, pw, len, q⟩ := h
    refine ⟨_, (pss_cons (ps_if (PW.pt (pw_or (pt_not (pt_val (pe_callB call_isi (by rfl) Z_isinstance (by decide +kernel) (pa_cons (pv 1) (pa_cons (pe_bltn (v := .ty "tuple") (by rfl) Z_tuple (by decide +kernel) rfl) pa_nil))))) (pw_or1 (pt_cmpR op_eq (pe_callB call_lenA (by rfl) Z_len (by decide +kernel) (pa_cons (pv 1) pa_nil)) pe_int (nomark _)))))
      (pss_one (ps_ret pe_bl))
      pss_nil)
      (pss_cons (ps_for PassesOwn.never rfl (pi_enumT (by rfl) Z_enumerate (pa_cons (pv 1) pa_nil)) (pg_tup rfl (pgs_cons (pg_name (i := 2) sc_is_entry.nd rfl (Or.inl rfl)) (pgs_cons (pg_name (i := 3) sc_is_entry.nd rfl (Or.inl rfl)) pgs_nil)))
      (pss_cons (ps_if (PW.pt (pw_or (pt_not (pt_val (pe_callB call_isi (by rfl) Z_isinstance (by decide +kernel) (pa_cons (pv 3) (pa_cons (pe_bltn (v := .ty "str") (by rfl) Z_str (by decide +kernel) rfl) pa_nil))))) (pw_or1 (pt_cmpR op_notIn_seq (pv 3) (pv 0) rfl))))
      (pss_one (ps_ret pe_bl))
      pss_nil)
      (pss_one (ps_if (PW.pt (pw_and (pt_cmpR op_gt (pv 2) pe_int (nomark _)) (pw_and1 (pt_cmpR op_geS (pe_ix ix_tup (pv 1) (pe_op op_sub (pv 2) pe_int) (fun _ _ => rfl)) (pv 3) (nomark _)))))
      (pss_one (ps_ret pe_bl))
      pss_nil))))
      (pss_one (ps_ret pe_bl)))), ?_⟩
    walk_at "go"
    refine x_isiTup (.tup hrr) ?_
    walk_at "go"
    refine x_nT ?_
    walk_at "go"
    refine x_lenT hrr ?_
    walk_at "go"
    refine x_no (fun e => ne (by rw [List.length_map] at e; exact List.length_eq_zero_iff.mp (by omega))) ?_
    walk_at "go"
    refine lpE (xs := strsV rr) (fun i σ H' => ∃ v2 v3, σ = [some (.ref p), some (.ref r), v2, v3] ∧ L2.Same H H') (.inr fun σ H' i _ ⟨_, _, _, s2⟩ => same_t s2 hrr) ⟨_, _, rfl, fun _ _ h => h⟩ ?_ ?_
    · rintro i x σ H2 TT hx ⟨v2, v3, rfl, s2⟩ hT
      rw [List.getElem?_map] at hx
      cases hs : rr[i]? with
      | none => rw [hs] at hx; cases hx
      | some m =>
        rw [hs] at hx
        have ex : V.str m = x := Option.some.inj hx
        subst ex
        have hi : i < rr.length := (List.getElem?_eq_some_iff.mp hs).1
        have s3 : L2.Same H (upd H2 TT (.tup [.int (i : Nat), .str m])) := same_upd s2 (s2.free hT)
        refine x_g2 (SqT.of upd_same) ?_
        generalize upd H2 TT (.tup [.int (i : Nat), .str m]) = H3 at s3 ⊢
        walk_at "go"
        refine x_isiStr (.str _) ?_
        walk_at "go"
        refine x_nT ?_
        walk_at "go"
        refine x_ninL (ws := ss) (s3.seq hp) ?_
        walk_at "go"
        refine x_nyes (sub m (List.mem_of_getElem? hs)) ?_
        walk_at "go"
        refine x_dec (fun hpos => ?_) (fun hpos => ?_)
        · obtain ⟨j, rfl⟩ : ∃ j, i = j + 1 := ⟨i - 1, by omega⟩
          have hj : rr[j]? = some rr[j] := List.getElem?_eq_getElem (by omega)
          have hlt : LtS rr[j] m := by
            have := List.pairwise_iff_getElem.mp pw j (j + 1) (by omega) hi (by omega)
            rw [(List.getElem?_eq_some_iff.mp hs).2] at this
            exact this
          walk_at "go"
          refine x_ixt j (same_t s3 hrr) (by omega) (by rw [List.getElem?_map, hj]; rfl) ?_
          walk_at "go"
          refine x_str2 ?_
          walk_at "go"
          refine x_nyes hlt ?_
          walk_at "go"
          exact ⟨_, _, rfl, s3⟩
        · walk_at "go"
          exact ⟨_, _, rfl, s3⟩
    · rintro σ H2 ⟨v2, v3, rfl, s2⟩
      walk_at "go"
      exact q H2 s2
theorem ok_is_book {f : Addr} {fd : FuncData} (F : Fun K "is_book" "is_book" s_is_book f fd) (K_Work : Cls K CW) (N1 : NoAttr K CW "names") (Z_isinstance : mg "isinstance" = none) (Z_dict : mg "dict" = none) (Z_str : mg "str" = none)
    (T_Work_kind : Met P w K mg base CW 2 "kind" ["self", "stand"] (spKind CW)) (T_Work_steps : Met P w K mg base CW 2 "steps" ["self", "stand"] (spSteps CW)) (C_is_entry : Cal P w K mg base 1 "is_entry" ["steps", "row"] (spIsEntryB K)) : FnOk P w K mg base CX0 3 f fd ["work", "thing"] (spIsBook CW) := by
  refine F.ok sc_is_book (fun vs H Q E h => ?_) (fun cdv A outer s H vs Q E hr h => ?_)
  · obtain ⟨_, _, _, _, _, _, rfl, _⟩ := h
    rfl
  · obtain ⟨a, B, h, st, l, bk, rfl, wa, g, srt, hB, bnd, ok, q⟩ := h
    have hu := hu_of hr
    have waw := work_wo wa g hB ok
    obtain ⟨m, b1, b2, b3⟩ := id hB.ex
    have ndm : (m.map (·.1)).Nodup := by rw [b2]; exact bnd
    refine ⟨_, (pss_cons (ps_if (pt_not (pt_val (pe_callB call_isi (by rfl) Z_isinstance (by decide +kernel) (pa_cons (pv 1) (pa_cons (pe_bltn (v := .ty "dict") (by rfl) Z_dict (by decide +kernel) rfl) pa_nil)))))
      (pss_one (ps_ret pe_bl))
      pss_nil)
      (pss_cons (ps_lock (ps_for PassesOwn.never rfl (pi_keys (pv 1)) (pg_name (i := 2) sc_is_book.nd rfl (Or.inl rfl))
      (pss_cons (ps_if (PW.pt (pw_or (pt_not (pt_val (pe_callB call_isi (by rfl) Z_isinstance (by decide +kernel) (pa_cons (pv 2) (pa_cons (pe_bltn (v := .ty "str") (by rfl) Z_str (by decide +kernel) rfl) pa_nil))))) (pw_or (pt_cmpR op_notIn_seq (pv 2) (pe_fld (pv 0) rfl) rfl) (pw_or1 (pt_cmpR op_ne (pe_mt T_Work_kind K_Work (hr.mono (by decide)) (pv 0) (pa_cons (pv 2) pa_nil)) pe_str (nomark _))))))
      (pss_one (ps_ret pe_bl))
      pss_nil)
      (pss_one (ps_if (pt_not (pt_val (pe_cal C_is_entry (hr.mono (by decide)) (by rfl) (pa_cons (pe_mt T_Work_steps K_Work (hr.mono (by decide)) (pv 0) (pa_cons (pv 2) pa_nil)) (pa_cons (pe_dget hu (pv 1) (pv 2) (fun _ _ => rfl)) pa_nil)))))
      (pss_one (ps_ret pe_bl))
      pss_nil)))))
      (pss_one (ps_ret pe_bl)))), ?_⟩
    walk_at "go"
    refine x_isiDict (.dict (.inl b1)) ?_
    walk_at "go"
    refine x_nT ?_
    walk_at "go"
    refine x_lock b1 trivial fun od => ?_
    have sw : L2.Same (wo H B) (upd H B (.frz od (.dK (strK V.ref m)))) := same_upd wo_same wo_at
    walk_at "go"
    refine lpK (kvs := strK V.ref m) (fun j σ H' => ∃ v2, σ = [some (.ref a), some (.ref B), v2] ∧ L2.Same (upd H B (.frz od (.dK (strK V.ref m)))) H') upd_same ⟨_, rfl, fun _ _ h => h⟩ (fun j σ H' _ ⟨_, _, s2⟩ => s2 B _ upd_same) ?_ ?_
    · rintro j k0 v0 σ H2 hj ⟨v2, rfl, s2⟩
      obtain ⟨z, y, rfl, rfl, hly⟩ := strK_at hj
      have hmy : m.lookup z = some y := lookup_of ndm (List.mem_of_getElem? hly)
      obtain ⟨r, hr1, hr2⟩ := b3 z y (List.mem_of_getElem? hly)
      obtain ⟨k, l2, hx, rok⟩ := ok (z, r) (lookup_mem hr1)
      have gx := g.sd z _ hx
      have w2 := waw.same (sw.trans s2)
      obtain ⟨dx, t, n, e, h1, hT, hN, hE⟩ := id w2.ex
      walk_at "go"
      refine x_isiStr (.str _) ?_
      walk_at "go"
      refine x_nT ?_
      walk_at "go"
      refine x_fld K_Work N1 h1 wkF_names ?_
      walk_at "go"
      refine x_ninTs (ws := l.map (·.1)) (SqT.of hN) ?_
      walk_at "go"
      refine x_nyes (List.mem_map.mpr ⟨_, lookup_mem hx, rfl⟩) ?_
      walk_at "go"
      refine x_mti h1 (wkn (by decide +kernel)) ?_
      walk_at "go"
      refine ⟨a, h, st, z, l, _, rfl, w2, hx, ?_⟩
      walk_at "go"
      refine x_nyes rfl ?_
      walk_at "go"
      refine x_mti h1 (wkn (by decide +kernel)) ?_
      walk_at "go"
      refine ⟨a, h, st, z, l, _, rfl, w2, hx, gx, srt z _ hx, fun H3 p s3 hp hp3 => ?_⟩
      walk_at "go"
      have hB3 : H3 B = some (.frz od (.dK (strK V.ref m))) := s3 _ _ (s2 _ _ upd_same)
      refine x_getL (l := m) (.inr ⟨_, hB3⟩) hmy ?_
      walk_at "go"
      have hy2 : H y = some (.tup (strsV r)) := hr2
      have hy3 : H3 y = some (.tup (strsV r)) := s3 _ _ (s2 _ _ (by rw [upd_ne (ne_of hy2 b1 (by intro z; cases z))]; exact hy2))
      refine ⟨p, y, _, r, rfl, SqL.of hp3, SqT.of hy3, rok.ne, rok.sub, pw_lt rok.asc rok.nd, Nat.le_trans (rowok_sub gx rok) (by decide), fun H4 s4 => ?_⟩
      walk_at "go"
      exact ⟨_, rfl, (s2.trans s3).trans s4⟩
    · rintro σ H2 ⟨v2, rfl, s2⟩
      refine ⟨s2 B _ upd_same, ?_⟩
      walk_at "go"
      exact q _ (same_back b1 s2)
theorem ok_let_steps {f : Addr} {fd : FuncData} (F : Fun K "let_steps" "let_steps" s_let_steps f fd) (K_Work : Cls K CW) (Z_list : mg "list" = none) (T_Work_steps : Met P w K mg base CW 2 "steps" ["self", "stand"] (spSteps CW)) : FnOk P w K mg base CX0 3 f fd ["work", "book", "stand"] (spLetSteps CW) := by
  refine F.ok sc_let_steps (fun vs H Q E h => ?_) (fun cdv A outer s H vs Q E hr h => ?_)
  · obtain ⟨_, _, _, _, _, _, _, _, rfl, _⟩ := h
    rfl
  · obtain ⟨a, B, h, st, z, l, bk, x, rfl, wa, hx, gx, so, hB, q⟩ := h
    have hu := hu_of hr
    obtain ⟨m, b1, b2, b3⟩ := id hB.ex
    obtain ⟨dx, t, n, e, h1, hT, hN, hE⟩ := id wa.ex
    refine ⟨_, (pss_cons (ps_if (pt_cmp (pc_din hu (pv 2) (pv 1)))
      (pss_one (ps_ret (pe_callTy call_listA (by rfl) Z_list (by decide +kernel) (pa_cons (pe_dget hu (pv 1) (pv 2) (fun _ _ => rfl)) pa_nil))))
      pss_nil)
      (pss_one (ps_ret (pe_mt T_Work_steps K_Work (hr.mono (by decide)) (pv 0) (pa_cons (pv 2) pa_nil))))), ?_⟩
    walk_at "go"
    refine x_inD (l := m) (.inl b1) ?_
    cases hz : bk.lookup z with
    | some r =>
      obtain ⟨m2, y, c1, c2, c3⟩ := hB.at hz
      rw [b1] at c1
      have e1 := strK_inj (f := V.ref) (fun a b e => by cases e; rfl) (HO.dK.inj (Option.some.inj c1))
      subst e1
      rw [c2]
      walk_at "go"
      refine x_T ?_
      walk_at "go"
      refine x_getL (l := m) (.inl b1) c2 ?_
      walk_at "go"
      have c3' : H y = some (.tup (strsV r)) := c3
      refine x_listT (SqT.of c3') fun p hp => ?_
      refine q _ p (same_new hp) hp ?_
      rw [upd_same]
      unfold letS
      rw [hz]
    | none =>
      have hn : m.lookup z = none := by
        cases hq : m.lookup z with
        | none => rfl
        | some y =>
          obtain ⟨r, hr1, _⟩ := b3 z y (lookup_mem hq)
          rw [hz] at hr1
          cases hr1
      rw [hn]
      walk_at "go"
      refine x_F ?_
      walk_at "go"
      refine x_mti h1 (wkn (by decide +kernel)) ?_
      walk_at "go"
      refine ⟨a, h, st, z, l, x, rfl, wa, hx, gx, so, fun H1 p s1 hp hp1 => ?_⟩
      refine q H1 p s1 hp ?_
      unfold letS
      rw [hz, hx]
      exact hp1
end
/-! ### ways: names, each with the place of the one ahead and the step -/
abbrev Wy := Str × Option (Nat × Str)
def nmAt (ws : List Wy) (j : Nat) : Option Str := ws[j]?.map (·.1)
theorem nm_app {ws r : List Wy} {j : Nat} {p : Str} (h : nmAt ws j = some p) : nmAt (ws ++ r) j = some p := by
  unfold nmAt at h ⊢
  cases e : ws[j]? with
  | none => rw [e] at h; cases h
  | some q =>
    rw [e] at h
    have := (List.getElem?_eq_some_iff.mp e).1
    rw [List.getElem?_append_left this, e]
    exact h
theorem wy_app {ws r : List Wy} {j : Nat} {q : Wy} (h : ws[j]? = some q) : (ws ++ r)[j]? = some q := by
  have := (List.getElem?_eq_some_iff.mp h).1
  rw [List.getElem?_append_left this]
  exact h
theorem nm_of {ws : List Wy} {j : Nat} {z : Str} {o : Option (Nat × Str)} (h : ws[j]? = some (z, o)) : nmAt ws j = some z := by
  unfold nmAt
  rw [h]
  rfl
theorem nm_lt {ws : List Wy} {j : Nat} {z : Str} (h : nmAt ws j = some z) : j < ws.length := by
  unfold nmAt at h
  cases e : ws[j]? with
  | none => rw [e] at h; cases h
  | some q => exact (List.getElem?_eq_some_iff.mp e).1
theorem nm_mem {ws : List Wy} {j : Nat} {z : Str} (h : nmAt ws j = some z) : z ∈ ws.map (·.1) := by
  unfold nmAt at h
  cases e : ws[j]? with
  | none => rw [e] at h; cases h
  | some q =>
    rw [e] at h
    exact List.mem_map.mpr ⟨q, List.mem_of_getElem? e, Option.some.inj h⟩
theorem nm_ex {ws : List Wy} {z : Str} (h : z ∈ ws.map (·.1)) : ∃ (j : Nat) (o : Option (Nat × Str)), ws[j]? = some (z, o) := by
  obtain ⟨q, hq, rfl⟩ := List.mem_map.mp h
  obtain ⟨j, hj, e⟩ := List.getElem_of_mem hq
  exact ⟨j, q.2, by rw [List.getElem?_eq_getElem hj, e]⟩
theorem nm_one {ws : List Wy} (nd : (ws.map (·.1)).Nodup) {i j : Nat} {z : Str} (h1 : nmAt ws i = some z) (h2 : nmAt ws j = some z) : i = j := by
  refine L2.nd_ix nd (x := z) ?_ ?_
  · rw [List.getElem?_map]; exact h1
  · rw [List.getElem?_map]; exact h2
section
variable {l : List (Str × Sd)} {bk : List (Str × List Str)} {st : Str}
structure WaysInv (l : List (Str × Sd)) (bk : List (Str × List Str)) (st : Str) (n : Nat) (ws : List Wy) : Prop where
  nd : (ws.map (·.1)).Nodup
  hd : ws[0]? = some (st, none)
  sub : ∀ z ∈ ws.map (·.1), z ∈ l.map (·.1)
  root : ∀ (i : Nat) z, ws[i]? = some (z, none) → i = 0
  par : ∀ (i : Nat) z j s, ws[i]? = some (z, some (j, s)) → j < i ∧ j < n ∧ ∃ p x, nmAt ws j = some p ∧ l.lookup p = some x ∧ s ∈ letS l bk p ∧ toS x s = some z
  mono : ∀ (i i' : Nat) z z' j s j' s', i ≤ i' → ws[i]? = some (z, some (j, s)) → ws[i']? = some (z', some (j', s')) → j ≤ j'
/-- where the steps ss of the j-th lead stands among the ways, no later than for the j-th -/
def Clo (l : List (Str × Sd)) (ws : List Wy) (j : Nat) (ss : List Str) : Prop := ∀ p x, nmAt ws j = some p → l.lookup p = some x → ∀ s ∈ ss, ∀ t, toS x s = some t → ∃ (i : Nat) (o : Option (Nat × Str)), ws[i]? = some (t, o) ∧ ∀ j' s', o = some (j', s') → j' ≤ j
def CloAll (l : List (Str × Sd)) (bk : List (Str × List Str)) (ws : List Wy) (j : Nat) : Prop := ∀ p, nmAt ws j = some p → Clo l ws j (letS l bk p)
/-- the step s from the i-th, its row x -/
def stepW (i : Nat) (x : Sd) (ws : List Wy) (s : Str) : List Wy := match toS x s with
  | some t => if t ∈ ws.map (·.1) then ws else ws ++ [(t, some (i, s))]
  | none => ws
def visW (l : List (Str × Sd)) (bk : List (Str × List Str)) (ws : List Wy) (i : Nat) : List Wy := match nmAt ws i with
  | some p => match l.lookup p with
    | some x => (letS l bk p).foldl (stepW i x) ws
    | none => ws
  | none => ws
/-- breadth first -/
def bfsW (l : List (Str × Sd)) (bk : List (Str × List Str)) (st : Str) : Nat → List Wy
  | 0 => [(st, none)]
  | n + 1 => visW l bk (bfsW l bk st n) n
structure WaysOk (l : List (Str × Sd)) (bk : List (Str × List Str)) (st : Str) (ws : List Wy) : Prop where
  inv : WaysInv l bk st ws.length ws
  clo : ∀ j, j < ws.length → CloAll l bk ws j
  ex : ws = bfsW l bk st ws.length
theorem WaysInv.one (h : st ∈ l.map (·.1)) : WaysInv l bk st 0 [(st, none)] := by
  refine ⟨by simp, rfl, fun z hz => ?_, fun i z hi => ?_, fun i z j s hi => ?_, fun i i' z z' j s j' s' _ hi => ?_⟩
  · rw [List.map_cons, List.map_nil, List.mem_singleton] at hz
    rw [hz]; exact h
  · have := (List.getElem?_eq_some_iff.mp hi).1
    simp at this
    exact this
  · cases i with
    | zero => cases hi
    | succ i => cases hi
  · cases i with
    | zero => cases hi
    | succ i => cases hi
theorem WaysInv.len {n : Nat} {ws : List Wy} (I : WaysInv l bk st n ws) : ws.length ≤ l.length := by
  have := List.Nodup.length_le_of_subset I.nd I.sub
  rwa [List.length_map, List.length_map] at this
theorem WaysInv.up {n n' : Nat} {ws : List Wy} (I : WaysInv l bk st n ws) (h : n ≤ n') : WaysInv l bk st n' ws :=
  ⟨I.nd, I.hd, I.sub, I.root, fun i z j s e => by obtain ⟨a, b, c⟩ := I.par i z j s e; exact ⟨a, by omega, c⟩, I.mono⟩
theorem get_snoc {ws : List Wy} {q r : Wy} {i : Nat} (h : (ws ++ [q])[i]? = some r) : (i < ws.length ∧ ws[i]? = some r) ∨ (i = ws.length ∧ q = r) := by
  rcases Nat.lt_trichotomy i ws.length with c | c | c
  · rw [List.getElem?_append_left c] at h
    exact .inl ⟨c, h⟩
  · subst c
    rw [List.getElem?_append_right (Nat.le_refl _), Nat.sub_self] at h
    exact .inr ⟨rfl, Option.some.inj h⟩
  · have := (List.getElem?_eq_some_iff.mp h).1
    rw [List.length_append] at this
    simp at this
    omega
theorem WaysInv.put {i : Nat} {ws : List Wy} (I : WaysInv l bk st (i + 1) ws) {p t s : Str} {x : Sd} (hp : nmAt ws i = some p) (hx : l.lookup p = some x) (hs : s ∈ letS l bk p) (ht : toS x s = some t) (hl : t ∈ l.map (·.1)) (hn : t ∉ ws.map (·.1)) : WaysInv l bk st (i + 1) (ws ++ [(t, some (i, s))]) := by
  have hi := nm_lt hp
  refine ⟨?_, wy_app I.hd, fun z hz => ?_, fun k z hk => ?_, fun k z j s' hk => ?_, fun k k' z z' j s1 j' s2 hkk h1 h2 => ?_⟩
  · rw [List.map_append]
    exact List.nodup_append.mpr ⟨I.nd, by simp, fun a ha b hb e => hn (by rw [List.map_cons, List.map_nil, List.mem_singleton] at hb; have e2 : a = t := e.trans hb; rw [← e2]; exact ha)⟩
  · rw [List.map_append] at hz
    rcases List.mem_append.mp hz with hz | hz
    · exact I.sub z hz
    · rw [List.map_cons, List.map_nil, List.mem_singleton] at hz
      rw [hz]; exact hl
  · rcases get_snoc hk with ⟨_, h⟩ | ⟨_, h⟩
    · exact I.root k z h
    · cases h
  · rcases get_snoc hk with ⟨_, h⟩ | ⟨e, h⟩
    · obtain ⟨a, b, p', x', c1, c2⟩ := I.par k z j s' h
      exact ⟨a, b, p', x', nm_app c1, c2⟩
    · cases h
      exact ⟨by omega, by omega, p, x, nm_app hp, hx, hs, ht⟩
  · rcases get_snoc h1 with ⟨c1, h1⟩ | ⟨e1, h1⟩
    · rcases get_snoc h2 with ⟨c2, h2⟩ | ⟨e2, h2⟩
      · exact I.mono k k' z z' j s1 j' s2 hkk h1 h2
      · cases h2
        have := (I.par k z j s1 h1).2.1
        omega
    · rcases get_snoc h2 with ⟨c2, h2⟩ | ⟨e2, h2⟩
      · omega
      · cases h1
        cases h2
        exact Nat.le_refl _
theorem Clo.app {ws r : List Wy} {j : Nat} {ss : List Str} (hj : j < ws.length) (h : Clo l ws j ss) : Clo l (ws ++ r) j ss := by
  intro p x hp hx s hs t ht
  have hp2 : nmAt ws j = some p := by
    unfold nmAt at hp ⊢
    rw [List.getElem?_append_left hj] at hp
    exact hp
  obtain ⟨i, o, h1, h2⟩ := h p x hp2 hx s hs t ht
  exact ⟨i, o, wy_app h1, h2⟩
theorem CloAll.app {ws r : List Wy} {j : Nat} (hj : j < ws.length) (h : CloAll l bk ws j) : CloAll l bk (ws ++ r) j := by
  intro p hp
  have hp2 : nmAt ws j = some p := by
    unfold nmAt at hp ⊢
    rw [List.getElem?_append_left hj] at hp
    exact hp
  exact Clo.app hj (h p hp2)
/-- the stands that come by let steps -/
inductive Rch (l : List (Str × Sd)) (bk : List (Str × List Str)) (st : Str) : Str → Prop
  | at0 : Rch l bk st st
  | step {p s t : Str} {x : Sd} : Rch l bk st p → l.lookup p = some x → s ∈ letS l bk p → toS x s = some t → Rch l bk st t
theorem ways_sound {n : Nat} {ws : List Wy} (I : WaysInv l bk st n ws) : ∀ (i : Nat) z, nmAt ws i = some z → Rch l bk st z := by
  intro i
  induction i using Nat.strongRecOn with
  | _ i ih =>
    intro z hz
    unfold nmAt at hz
    cases e : ws[i]? with
    | none => rw [e] at hz; cases hz
    | some q =>
      obtain ⟨y, o⟩ := q
      rw [e] at hz
      have ez : y = z := Option.some.inj hz
      subst ez
      cases o with
      | none =>
        have h0 := I.root i y e
        subst h0
        rw [I.hd] at e
        cases e
        exact .at0
      | some js =>
        obtain ⟨j, s⟩ := js
        obtain ⟨h1, _, p, x, h2, h3, h4, h5⟩ := I.par i y j s e
        exact .step (ih j h1 p h2) h3 h4 h5
theorem ways_full {ws : List Wy} (W : WaysOk l bk st ws) {z : Str} (h : Rch l bk st z) : z ∈ ws.map (·.1) := by
  induction h with
  | at0 => exact List.mem_map.mpr ⟨_, List.mem_of_getElem? W.inv.hd, rfl⟩
  | @step p s t x _ hx hs ht ih =>
    obtain ⟨j, o, hj⟩ := nm_ex ih
    obtain ⟨i, o2, h1, _⟩ := W.clo j (List.getElem?_eq_some_iff.mp hj).1 p (nm_of hj) p x (nm_of hj) hx s hs t ht
    exact List.mem_map.mpr ⟨_, List.mem_of_getElem? h1, rfl⟩
theorem ways_iff {ws : List Wy} (W : WaysOk l bk st ws) (z : Str) : z ∈ ws.map (·.1) ↔ Rch l bk st z :=
  ⟨fun h => by obtain ⟨j, o, hj⟩ := nm_ex h; exact ways_sound W.inv j z (nm_of hj), ways_full W⟩
/-! the way to the i-th -/
def wayTo (ws : List Wy) : Nat → Nat → List Str
  | 0, _ => []
  | f + 1, i => match ws[i]? with
    | some (_, some (j, s)) => wayTo ws f j ++ [s]
    | _ => []
theorem wayTo_fuel {n : Nat} {ws : List Wy} (I : WaysInv l bk st n ws) : ∀ (f f' i : Nat), i < f → i < f' → wayTo ws f i = wayTo ws f' i
  | 0, _, _, h, _ => by omega
  | _ + 1, 0, _, _, h => by omega
  | f + 1, f' + 1, i, h1, h2 => by
    unfold wayTo
    cases e : ws[i]? with
    | none => rfl
    | some q =>
      obtain ⟨y, o⟩ := q
      cases o with
      | none => rfl
      | some js =>
        obtain ⟨j, s⟩ := js
        have := (I.par i y j s e).1
        show wayTo ws f j ++ [s] = wayTo ws f' j ++ [s]
        rw [wayTo_fuel I f f' j (by omega) (by omega)]
theorem wayTo_len (ws : List Wy) : ∀ (f i : Nat), (wayTo ws f i).length ≤ f
  | 0, _ => Nat.le_refl _
  | f + 1, i => by
    unfold wayTo
    cases e : ws[i]? with
    | none => exact Nat.zero_le _
    | some q =>
      obtain ⟨y, o⟩ := q
      cases o with
      | none => exact Nat.zero_le _
      | some js =>
        show (wayTo ws f js.1 ++ [js.2]).length ≤ f + 1
        rw [List.length_append]
        have := wayTo_len ws f js.1
        simp
        omega
end
/-! ### ways, walked -/
def WyAt (H : Hp) (ws : List Wy) (v : V) : Option (Nat × Str) → Prop
  | none => v = .non
  | some (j, s) => ∃ p y, v = .ref p ∧ nmAt ws j = some y ∧ H p = some (.tup [.str y, .str s])
structure WaysM (H : Hp) (m : List (Str × V)) (ws : List Wy) : Prop where
  keys : m.map (·.1) = ws.map (·.1)
  at_ : ∀ (i : Nat) z o, ws[i]? = some (z, o) → ∃ v, m[i]? = some (z, v) ∧ WyAt H ws v o
theorem WyAt.same {H H' : Hp} {ws : List Wy} {v : V} {o : Option (Nat × Str)} (h : WyAt H ws v o) (s : L2.Same H H') : WyAt H' ws v o := by
  cases o with
  | none => exact h
  | some js =>
    obtain ⟨p, y, h1, h2, h3⟩ := h
    exact ⟨p, y, h1, h2, s _ _ h3⟩
theorem WaysM.same {H H' : Hp} {m : List (Str × V)} {ws : List Wy} (h : WaysM H m ws) (s : L2.Same H H') : WaysM H' m ws :=
  ⟨h.keys, fun i z o e => by obtain ⟨v, h1, h2⟩ := h.at_ i z o e; exact ⟨v, h1, h2.same s⟩⟩
/-- .. where one dict changes -/
theorem WaysM.dict {H : Hp} {m : List (Str × V)} {ws : List Wy} {G : Addr} {kvs : List (Key × V)} {u : HO} (h : WaysM H m ws) (hG : H G = some (.dK kvs)) : WaysM (upd H G u) m ws :=
  ⟨h.keys, fun i z o e => by
    obtain ⟨v, h1, h2⟩ := h.at_ i z o e
    refine ⟨v, h1, ?_⟩
    cases o with
    | none => exact h2
    | some js =>
      obtain ⟨p, y, e1, e2, e3⟩ := h2
      exact ⟨p, y, e1, e2, by rw [upd_ne (ne_of e3 hG (by intro z; cases z))]; exact e3⟩⟩
theorem WaysM.put {H : Hp} {m : List (Str × V)} {ws : List Wy} {t y s : Str} {i : Nat} {T : Addr} (h : WaysM H m ws) (hi : nmAt ws i = some y) (hT : H T = some (.tup [.str y, .str s])) (hn : t ∉ ws.map (·.1)) : WaysM H (putL m t (.ref T)) (ws ++ [(t, some (i, s))]) := by
  have hl : m.length = ws.length := by
    have := congrArg List.length h.keys
    rwa [List.length_map, List.length_map] at this
  rw [putL_new _ (by rw [h.keys]; exact hn)]
  refine ⟨by rw [List.map_append, List.map_append, h.keys]; rfl, fun k z o hk => ?_⟩
  rcases get_snoc hk with ⟨c, h1⟩ | ⟨e, h1⟩
  · obtain ⟨v, h2, h3⟩ := h.at_ k z o h1
    refine ⟨v, by rw [List.getElem?_append_left (by omega)]; exact h2, ?_⟩
    cases o with
    | none => exact h3
    | some js =>
      obtain ⟨p, y', e1, e2, e3⟩ := h3
      exact ⟨p, y', e1, nm_app e2, e3⟩
  · cases h1
    subst e
    refine ⟨.ref T, by rw [← hl, List.getElem?_append_right (Nat.le_refl _), Nat.sub_self]; rfl, T, y, rfl, nm_app hi, hT⟩
theorem WaysM.look {H : Hp} {m : List (Str × V)} {ws : List Wy} (h : WaysM H m ws) (nd : (ws.map (·.1)).Nodup) {i : Nat} {z : Str} {o : Option (Nat × Str)} (hi : ws[i]? = some (z, o)) : ∃ v, m.lookup z = some v ∧ WyAt H ws v o := by
  obtain ⟨v, h1, h2⟩ := h.at_ i z o hi
  exact ⟨v, lookup_of (by rw [h.keys]; exact nd) (List.mem_of_getElem? h1), h2⟩
def spLetWays (C : Addr) : Sp := fun vs H Q _ => ∃ (a B : Addr) (h : Int) (st : Str) (l : List (Str × Sd)) (bk : List (Str × List Str)), vs = [.ref a, .ref B] ∧ WorkAt C H a h st l ∧ GoodT h l ∧ (∀ z x, l.lookup z = some x → SrtSd x) ∧ DictOf RwAt H B bk ∧ BookOk l bk ∧ st ∈ l.map (·.1) ∧
  ∀ H' G m ws, L2.Same H H' → H G = none → H' G = some (.dK (strK id m)) → WaysM H' m ws → WaysOk l bk st ws → Q (.ref G) H'
def spWayTo : Sp := fun vs H Q _ => ∃ (G : Addr) (z : Str) (i n : Nat) (m : List (Str × V)) (ws : List Wy) (o : Option (Nat × Str)) (l : List (Str × Sd)) (bk : List (Str × List Str)) (st : Str), vs = [.ref G, .str z] ∧ Rd H G (.dK (strK id m)) ∧ WaysM H m ws ∧ WaysInv l bk st n ws ∧ ws[i]? = some (z, o) ∧ ws.length ≤ 1000 ∧
  ∀ H' p, L2.Same H H' → H p = none → H' p = some (.lst (strsV (wayTo ws (i + 1) i))) → Q (.ref p) H'
theorem let_sub {l : List (Str × Sd)} {bk : List (Str × List Str)} {z s : Str} {x : Sd} (ok : BookOk l bk) (hx : l.lookup z = some x) (hs : s ∈ letS l bk z) : s ∈ stepsL x := by
  unfold letS at hs
  cases e : bk.lookup z with
  | some r =>
    rw [e] at hs
    obtain ⟨k, l2, h1, h2⟩ := ok (z, r) (lookup_mem e)
    rw [hx] at h1
    cases h1
    exact h2.sub s hs
  | none =>
    rw [e, hx] at hs
    exact hs
theorem let_len {h : Int} {ns : List Str} {l : List (Str × Sd)} {bk : List (Str × List Str)} {z : Str} {x : Sd} (ok : BookOk l bk) (hx : l.lookup z = some x) (g : GoodSd h ns x) : (letS l bk z).length ≤ 4 := by
  unfold letS
  cases e : bk.lookup z with
  | some r =>
    obtain ⟨k, l2, h1, h2⟩ := ok (z, r) (lookup_mem e)
    rw [hx] at h1
    cases h1
    exact rowok_sub g h2
  | none =>
    rw [hx]
    exact steps_le g
section
variable {P : Program} {w : World} {K : PySem.W.Frag} {mg : Str → Option Value} {base : Heap} {CW : Addr}
theorem ok_let_ways {f : Addr} {fd : FuncData} (F : Fun K "let_ways" "let_ways" s_let_ways f fd) (K_Work : Cls K CW) (N1 : NoAttr K CW "start") (Z_len : mg "len" = none)
    (C_let_steps : Cal P w K mg base 3 "let_steps" ["work", "book", "stand"] (spLetSteps CW)) (T_Work_to : Met P w K mg base CW 2 "to" ["self", "stand", "step"] (spTo CW)) : FnOk P w K mg base CX0 4 f fd ["work", "book"] (spLetWays CW) := by
  refine F.ok sc_let_ways (fun vs H Q E h => ?_) (fun cdv A outer s H vs Q E hr h => ?_)
  · obtain ⟨_, _, _, _, _, _, rfl, _⟩ := h
    rfl
  · obtain ⟨a, B, h, st, l, bk, rfl, wa, g, srt, hB, ok, hst, q⟩ := h
    have hu := hu_of hr
    have gl := g.l2
    obtain ⟨dx, t, n, e, h1, hT, hN, hE⟩ := id wa.ex
    refine ⟨_, (pss_cons (ps_set (i := 2) sc_let_ways.nd rfl (Or.inl rfl) (pe_disp (pps_cons (pe_fld (pv 0) rfl) pe_non pps_nil) (by rfl) (by rfl) (fun z => by cases z) (by decide)))
      (pss_cons (ps_set (i := 3) sc_let_ways.nd rfl (Or.inl rfl) (pe_lst (pa_cons (pe_fld (pv 0) rfl) pa_nil)))
      (pss_cons (ps_set (i := 4) sc_let_ways.nd rfl (Or.inl rfl) pe_int)
      (pss_cons (ps_while PassesOwn.never (pt_cmpR op_lt (pv 4) (pe_callB call_lenA (by rfl) Z_len (by decide +kernel) (pa_cons (pv 3) pa_nil)) (nomark _))
      (pss_cons (ps_set (i := 5) sc_let_ways.nd rfl (Or.inl rfl) (pe_ix ix_list (pv 3) (pv 4) (fun _ _ => rfl)))
      (pss_cons (ps_for PassesOwn.never rfl (pi_list (pe_cal C_let_steps (hr.mono (by decide)) (by rfl) (pa_cons (pv 0) (pa_cons (pv 1) (pa_cons (pv 5) pa_nil))))) (pg_name (i := 6) sc_let_ways.nd rfl (Or.inl rfl))
      (pss_cons (ps_set (i := 7) sc_let_ways.nd rfl (Or.inl rfl) (pe_mt T_Work_to K_Work (hr.mono (by decide)) (pv 0) (pa_cons (pv 5) (pa_cons (pv 6) pa_nil))))
      (pss_one (ps_if (pt_cmp (pc_dnotin hu (pv 7) (pv 2)))
      (pss_cons (ps_dput hu (pv 2) (pv 7) (pe_tup (pa_cons (pv 5) (pa_cons (pv 6) pa_nil))) rfl)
      (pss_one (ps_expr (pe_bm PySem.F.plainAttrs_list PySem.F.slot_list_append PySem.F.type_list_append mt_append (pv 3) (pa_cons (pv 7) pa_nil)))))
      pss_nil))))
      (pss_one (ps_aug (i := 4) sc_let_ways.nd rfl (Or.inl rfl) pe_int ip_add)))))
      (pss_one (ps_ret (pv 2))))))), ?_⟩
    walk_at "go"
    refine x_disp fun G hG => x_prs ?_
    walk_at "go"
    have sG : L2.Same H (upd H G (.dK [])) := same_new hG
    refine x_fld K_Work N1 (sG _ _ h1) wkF_start ?_
    walk_at "go"
    refine x_prs0 ⟨upd_same, [(Sum.inr st, .non)], rfl, by simp, ?_⟩
    rw [merge1, upd_upd]
    have sG2 : L2.Same H (upd H G (.dK [(Sum.inr st, .non)])) := same_new hG
    have hG2 : (upd H G (.dK [(Sum.inr st, .non)])) G = some (.dK (strK id [(st, V.non)])) := upd_same
    generalize upd H G (.dK [(Sum.inr st, .non)]) = H1 at sG2 hG2
    walk_at "go"
    refine x_fld K_Work N1 (sG2 _ _ h1) wkF_start ?_
    walk_at "go"
    refine ⟨sz_le (by simp), fun W hW => ?_⟩
    have hW0 : H W = none := sG2.free hW
    have nGW : G ≠ W := ne_of_none hG2 hW
    walk_at "go"
    refine lpWg (fun k σ H' => ∃ (i : Nat) (v5 v6 v7 : Option V) (m : List (Str × V)) (ws : List Wy), σ = [some (.ref a), some (.ref B), some (.ref G), some (.ref W), some (.int (i : Nat)), v5, v6, v7] ∧ L2.Same H H' ∧ H' G = some (.dK (strK id m)) ∧ H' W = some (.lst (strsV (ws.map (·.1)))) ∧ WaysM H' m ws ∧ WaysInv l bk st i ws ∧ i ≤ ws.length ∧ (∀ j, j < i → CloAll l bk ws j) ∧ ws = bfsW l bk st i ∧ k = l.length - i) (m := l.length) ?_ ?_
    · refine ⟨0, _, _, _, [(st, .non)], [(st, none)], rfl, same_upd sG2 hW0, by rw [upd_ne nGW]; exact hG2, upd_same, ⟨rfl, fun i z o hi => ?_⟩, WaysInv.one hst, Nat.zero_le _, fun j hj => by omega, rfl, rfl⟩
      cases i with
      | zero => cases hi; exact ⟨.non, rfl, rfl⟩
      | succ i => cases hi
    · rintro k σ H2 ⟨i, v5, v6, v7, m, ws, rfl, s2, hG3, hW3, hM, I, hil, hclo, hbf, rfl⟩
      have hwl := I.len
      refine ⟨decide ((i : Int) < ((strsV (ws.map (·.1))).length : Nat)), fun R hR => ?_, ?_⟩
      · walk_at "go"
        exact hR
      · have el : (strsV (ws.map (·.1))).length = ws.length := by rw [List.length_map, List.length_map]
        rw [el]
        refine x_dec (fun hlt => ?_) (fun hge => ?_)
        · have hlt : i < ws.length := by omega
          obtain ⟨⟨z, o⟩, hz⟩ : ∃ q : Wy, ws[i]? = some q := ⟨ws[i], List.getElem?_eq_getElem hlt⟩
          have hzn := nm_of hz
          have hzl : z ∈ l.map (·.1) := I.sub z (nm_mem hzn)
          obtain ⟨x, hx⟩ := lookup_isSome hzl
          have gx := g.sd z x hx
          walk_at "go"
          refine x_ixl i (SqL.of hW3) rfl (by rw [List.getElem?_map, List.getElem?_map, hz]; rfl) ?_
          walk_at "go"
          have hB2 : DictOf RwAt H2 B bk := hB.imp s2 fun _ _ h => s2 _ _ h
          refine ⟨a, B, h, st, z, l, bk, x, rfl, wa.same s2, hx, gx, srt z x hx, hB2, fun H3 p s3 hp hp3 => ?_⟩
          have ll := let_len ok hx gx
          walk_at "go"
          refine lpL (xs := strsV (letS l bk z)) (fun u σ H' => ∃ (v6 v7 : Option V) (m' : List (Str × V)) (ws' r : List Wy), σ = [some (.ref a), some (.ref B), some (.ref G), some (.ref W), some (.int (i : Nat)), some (.str z), v6, v7] ∧ ws' = ws ++ r ∧ L2.Same H H' ∧ H' p = some (.lst (strsV (letS l bk z))) ∧ H' G = some (.dK (strK id m')) ∧ H' W = some (.lst (strsV (ws'.map (·.1)))) ∧ WaysM H' m' ws' ∧ WaysInv l bk st (i + 1) ws' ∧ (∀ j, j < i → CloAll l bk ws' j) ∧ Clo l ws' i ((letS l bk z).take u) ∧ ws' = ((letS l bk z).take u).foldl (stepW i x) ws) (SqL.of hp3) ?_ ?_ ?_ ?_
          · exact ⟨_, _, m, ws, [], rfl, by rw [List.append_nil], s2.trans s3, hp3, s3 _ _ hG3, s3 _ _ hW3, hM.same s3, I.up (Nat.le_succ _), hclo, (fun p' x' _ _ s' hs' => by cases hs'), by rw [List.take_zero]; rfl⟩
          · exact fun u σ H' _ ⟨_, _, _, _, _, _, _, _, h, _⟩ => SqL.of h
          · rintro u y σ H4 hy ⟨v6, v7, m', ws', r, rfl, ews, s4, hp4, hG4, hW4, hM4, I4, hclo4, hc4, hb4⟩
            rw [List.getElem?_map] at hy
            cases hs : (letS l bk z)[u]? with
            | none => rw [hs] at hy; cases hy
            | some sp =>
              rw [hs] at hy
              have ex : V.str sp = y := Option.some.inj hy
              subst ex
              have hsl := List.mem_of_getElem? hs
              obtain ⟨to, hto, htl, htn⟩ := steps_to gx (let_sub ok hx hsl)
              have hzn4 : nmAt ws' i = some z := by rw [ews]; exact nm_app hzn
              have hil4 := nm_lt hzn4
              have etk : (letS l bk z).take (u + 1) = (letS l bk z).take u ++ [sp] := take_succ_get hs
              have hwl4 := I4.len
              have hml : m'.length = ws'.length := by
                have := congrArg List.length hM4.keys
                rwa [List.length_map, List.length_map] at this
              walk_at "go"
              refine x_mti (s4 _ _ h1) (wkn (by decide +kernel)) ?_
              walk_at "go"
              refine ⟨a, h, st, z, sp, to, l, x, rfl, wa.same s4, hx, hto, ?_⟩
              walk_at "go"
              refine x_ninD (l := m') (.inl hG4) ?_
              walk_at "go"
              cases hk : m'.lookup to with
              | some v =>
                have htw : to ∈ ws'.map (·.1) := by
                  rw [← hM4.keys]
                  exact List.mem_map.mpr ⟨_, lookup_mem hk, rfl⟩
                refine x_F ?_
                walk_at "go"
                refine ⟨_, _, m', ws', r, rfl, ews, s4, hp4, hG4, hW4, hM4, I4, hclo4, ?_, by rw [etk, List.foldl_append, ← hb4]; show ws' = stepW i x ws' sp; unfold stepW; rw [hto]; exact (if_pos htw).symm⟩
                rw [etk]
                intro p' x' hp' hx' s' hs' t' ht'
                rcases List.mem_append.mp hs' with hs' | hs'
                · exact hc4 p' x' hp' hx' s' hs' t' ht'
                · rw [List.mem_singleton.mp hs'] at ht'
                  rw [hzn4] at hp'
                  cases hp'
                  rw [hx] at hx'
                  cases hx'
                  rw [hto] at ht'
                  cases ht'
                  obtain ⟨i2, o2, hi2⟩ := nm_ex htw
                  refine ⟨i2, o2, hi2, fun j' s2 e2 => ?_⟩
                  rw [e2] at hi2
                  have := (I4.par i2 _ j' s2 hi2).2.1
                  omega
              | none =>
                have htw : to ∉ ws'.map (·.1) := fun hm => by
                  rw [← hM4.keys] at hm
                  obtain ⟨v, hv⟩ := lookup_isSome hm
                  rw [hk] at hv
                  cases hv
                refine x_T ?_
                walk_at "go"
                refine ⟨sz_le (by simp), fun T hT => ?_⟩
                have s5 : L2.Same H4 (upd H4 T (.tup [.str z, .str sp])) := same_new hT
                have hT5 : (upd H4 T (.tup [.str z, .str sp])) T = some (.tup [.str z, .str sp]) := upd_same
                generalize upd H4 T (.tup [.str z, .str sp]) = H5 at s5 hT5
                have hG5 := s5 _ _ hG4
                have hW5 := s5 _ _ hW4
                have hp5 := s5 _ _ hp4
                have hM5 := hM4.same s5
                walk_at "go"
                refine x_putL (l := m') (f := id) (x := .ref T) hG5 (by omega) rfl ?_
                have hM6 : WaysM (upd H5 G (.dK (strK id (putL m' to (.ref T))))) (putL m' to (.ref T)) (ws' ++ [(to, some (i, sp))]) := (hM5.put hzn4 hT5 htw).dict hG5
                have nWG : W ≠ G := ne_of hW5 hG5 (by intro z; cases z)
                have npG : p ≠ G := ne_of hp5 hG5 (by intro z; cases z)
                have hW6 : (upd H5 G (.dK (strK id (putL m' to (.ref T))))) W = some (.lst (strsV (ws'.map (·.1)))) := by rw [upd_ne nWG]; exact hW5
                have hp6 : (upd H5 G (.dK (strK id (putL m' to (.ref T))))) p = some (.lst (strsV (letS l bk z))) := by rw [upd_ne npG]; exact hp5
                have s6 : L2.Same H (upd H5 G (.dK (strK id (putL m' to (.ref T))))) := same_upd (s4.trans s5) hG
                have hG6 : (upd H5 G (.dK (strK id (putL m' to (.ref T))))) G = some (.dK (strK id (putL m' to (.ref T)))) := upd_same
                generalize upd H5 G (.dK (strK id (putL m' to (.ref T)))) = H6 at hM6 hW6 hp6 s6 hG6
                walk_at "go"
                refine x_app hW6 (sz_lt (by rw [List.length_map, List.length_map]; omega)) ?_
                walk_at "go"
                have npW : p ≠ W := fun e => by
                  rw [e, hW3] at hp
                  cases hp
                refine ⟨_, _, _, ws' ++ [(to, some (i, sp))], r ++ [(to, some (i, sp))], rfl, by rw [ews, List.append_assoc], same_upd s6 hW0, by rw [upd_ne npW]; exact hp6, by rw [upd_ne nWG.symm]; exact hG6, ?_, ?_, I4.put hzn4 hx hsl hto htn htw, fun j hj => (hclo4 j hj).app (by omega), ?_, by rw [etk, List.foldl_append, ← hb4]; show _ = stepW i x ws' sp; unfold stepW; rw [hto]; exact (if_neg htw).symm⟩
                · rw [upd_same, List.map_append]
                  simp
                · refine ⟨hM6.keys, fun i' z' o' hi' => ?_⟩
                  obtain ⟨v, h2, h3⟩ := hM6.at_ i' z' o' hi'
                  refine ⟨v, h2, ?_⟩
                  cases o' with
                  | none => exact h3
                  | some js =>
                    obtain ⟨p', y', e1, e2, e3⟩ := h3
                    exact ⟨p', y', e1, e2, by rw [upd_ne (ne_of e3 hW6 (by intro z; cases z))]; exact e3⟩
                · rw [etk]
                  intro p' x' hp' hx' s' hs' t' ht'
                  rcases List.mem_append.mp hs' with hs' | hs'
                  · exact (Clo.app hil4 hc4) p' x' hp' hx' s' hs' t' ht'
                  · rw [List.mem_singleton.mp hs'] at ht'
                    rw [nm_app hzn4] at hp'
                    cases hp'
                    rw [hx] at hx'
                    cases hx'
                    rw [hto] at ht'
                    cases ht'
                    refine ⟨ws'.length, some (i, sp), ?_, fun j' s2 e2 => ?_⟩
                    · rw [List.getElem?_append_right (Nat.le_refl _), Nat.sub_self]
                      rfl
                    · cases e2
                      exact Nat.le_refl _
          · rintro σ H4 ⟨v6, v7, m', ws', r, rfl, ews, s4, hp4, hG4, hW4, hM4, I4, hclo4, hc4, hb4⟩
            have el2 : (strsV (letS l bk z)).length = (letS l bk z).length := List.length_map ..
            rw [el2, List.take_length] at hc4 hb4
            have hb : ws' = bfsW l bk st (i + 1) := by
              show ws' = visW l bk (bfsW l bk st i) i
              rw [← hbf]
              unfold visW
              rw [hzn]
              show ws' = match l.lookup z with | some x => (letS l bk z).foldl (stepW i x) ws | none => ws
              rw [hx]
              exact hb4
            have hzn4 : nmAt ws' i = some z := by rw [ews]; exact nm_app hzn
            walk_at "go"
            refine ⟨_, ?_, i + 1, _, _, _, m', ws', rfl, s4, hG4, hW4, hM4, I4, ?_, fun j hj => ?_, hb, rfl⟩
            · have := I4.len
              have := nm_lt hzn4
              omega
            · have := nm_lt hzn4
              omega
            · rcases Nat.lt_or_ge j i with c | c
              · exact hclo4 j c
              · have : j = i := by omega
                subst this
                intro p' hp'
                rw [hzn4] at hp'
                cases hp'
                exact hc4
        · have e1 : i = ws.length := by omega
          walk_at "go"
          subst e1
          exact q H2 G m ws s2 hG hG3 hM ⟨I, hclo, hbf⟩
end
/-! ### does a book keep a level -/
def belowB (wl : List (Str × Int)) (lv : Int × Int) (z : Str) : Bool := match wl.lookup z with
  | some v => decide (v * lv.2 < lv.1)
  | none => false
def spCheckedBook (CW CI : Addr) : Sp := fun vs H Q _ => ∃ (a s lvl B : Addr) (h e : Int) (st : Str) (l : List (Str × Sd)) (wl : List (Str × Int)) (b : Int × Int) (bk : List (Str × List Str)), vs = [.ref a, .ref s, .ref lvl, .ref B] ∧ WorkAt CW H a h st l ∧ WishAt CI H s wl e ∧ GoodT h l ∧ Suits l wl ∧ (∀ z x, l.lookup z = some x → SrtSd x) ∧
  FrAt H lvl b ∧ LvOk b ∧ DictOf RwAt H B bk ∧ (bk.map (·.1)).Nodup ∧ BookOk l bk ∧ ∀ H', L2.Same H H' → Q .non H'
def spBreaking (CW CI : Addr) : Sp := fun vs H Q _ => ∃ (a s lvl B : Addr) (h e : Int) (st : Str) (l : List (Str × Sd)) (wl : List (Str × Int)) (b : Int × Int) (bk : List (Str × List Str)), vs = [.ref a, .ref s, .ref lvl, .ref B] ∧ WorkAt CW H a h st l ∧ WishAt CI H s wl e ∧ GoodT h l ∧ Suits l wl ∧ WorthsOk wl ∧ (∀ z x, l.lookup z = some x → SrtSd x) ∧
  FrAt H lvl b ∧ LvOk b ∧ DictOf RwAt H B bk ∧ (bk.map (·.1)).Nodup ∧ BookOk l bk ∧ st ∈ l.map (·.1) ∧
  ∀ ws, WaysOk l bk st ws → ((∀ z ∈ ws.map (·.1), belowB wl b z = false) → ∀ H', L2.Same H H' → Q .non H') ∧ (∀ (i : Nat) z o, ws[i]? = some (z, o) → belowB wl b z = true → (∀ (j : Nat) y, j < i → nmAt ws j = some y → belowB wl b y = false) →
    ∀ H' p, L2.Same H H' → H p = none → H' p = some (.lst (strsV (wayTo ws (i + 1) i))) → Q (.ref p) H')
def spKeeps (CW CI : Addr) : Sp := fun vs H Q _ => ∃ (a s lvl B : Addr) (h e : Int) (st : Str) (l : List (Str × Sd)) (wl : List (Str × Int)) (b : Int × Int) (bk : List (Str × List Str)), vs = [.ref a, .ref s, .ref lvl, .ref B] ∧ WorkAt CW H a h st l ∧ WishAt CI H s wl e ∧ GoodT h l ∧ Suits l wl ∧ WorthsOk wl ∧ (∀ z x, l.lookup z = some x → SrtSd x) ∧
  FrAt H lvl b ∧ LvOk b ∧ DictOf RwAt H B bk ∧ (bk.map (·.1)).Nodup ∧ BookOk l bk ∧ st ∈ l.map (·.1) ∧
  ∀ k : Bool, (k = true ↔ ∀ z, Rch l bk st z → belowB wl b z = false) → ∀ H', L2.Same H H' → Q (.bl k) H'
def spKept (CW CI : Addr) : Sp := fun vs H Q _ => ∃ (a s lvl B : Addr) (h e : Int) (st : Str) (l : List (Str × Sd)) (wl : List (Str × Int)) (b : Int × Int) (bk : List (Str × List Str)), vs = [.ref a, .ref s, .ref lvl, .ref B] ∧ WorkAt CW H a h st l ∧ WishAt CI H s wl e ∧ GoodT h l ∧ Suits l wl ∧ WorthsOk wl ∧ (∀ z x, l.lookup z = some x → SrtSd x) ∧
  FrAt H lvl b ∧ LvOk b ∧ DictOf RwAt H B bk ∧ (bk.map (·.1)).Nodup ∧ BookOk l bk ∧ st ∈ l.map (·.1) ∧
  ((¬ ∀ z, Rch l bk st z → belowB wl b z = false) → ∀ H', L2.Same H H' → Q .non H') ∧ ((∀ z, Rch l bk st z → belowB wl b z = false) → ∀ H' p ys, L2.Same H H' → H p = none → H' p = some (.lst (strsV ys)) → (∀ z, z ∈ ys ↔ Rch l bk st z) → ys.Nodup → sortedS ys = true → Q (.ref p) H')
section
variable {P : Program} {w : World} {K : PySem.W.Frag} {mg : Str → Option Value} {base : Heap} {CW C : Addr}
theorem ok_way_to {f : Addr} {fd : FuncData} (F : Fun K "way_to" "way_to" s_way_to f fd) : FnOk P w K mg base CX0 1 f fd ["ways", "stand"] spWayTo := by
  refine F.ok sc_way_to (fun vs H Q E h => ?_) (fun cdv A outer s H vs Q E hr h => ?_)
  · obtain ⟨_, _, _, _, _, _, _, _, _, _, rfl, _⟩ := h
    rfl
  · obtain ⟨G, z, i, n, m, ws, o, l, bk, st, rfl, hG, hM, I, hi, hl, q⟩ := h
    have hu := hu_of hr
    refine ⟨_, (pss_cons (ps_set (i := 2) sc_way_to.nd rfl (Or.inl rfl) (pe_lst pa_nil))
      (pss_cons (ps_set (i := 3) sc_way_to.nd rfl (Or.inl rfl) (pv 1))
      (pss_cons (ps_while PassesOwn.never (pt_cmpR op_notNA (pe_dget hu (pv 0) (pv 3) (fun _ _ => rfl)) pe_non (nomark _))
      (pss_cons (ps_asg (pe_dget hu (pv 0) (pv 3) (fun _ _ => rfl)) (pg_tup rfl (pgs_cons (pg_name (i := 3) sc_way_to.nd rfl (Or.inl rfl)) (pgs_cons (pg_name (i := 4) sc_way_to.nd rfl (Or.inl rfl)) pgs_nil))))
      (pss_one (ps_expr (pe_bm PySem.F.plainAttrs_list PySem.F.slot_list_append PySem.F.type_list_append mt_append (pv 2) (pa_cons (pv 4) pa_nil))))))
      (pss_one (ps_ret (pe_revL (pv 2))))))), ?_⟩
    walk_at "go"
    refine ⟨sz_le (by simp), fun p hp => ?_⟩
    walk_at "go"
    refine lpWg (fun k σ H' => ∃ (j : Nat) (y : Str) (o' : Option (Nat × Str)) (v4 : Option V) (suf : List Str), σ = [some (.ref G), some (.str z), some (.ref p), some (.str y), v4] ∧ L2.Same H H' ∧ H' p = some (.lst (strsV suf)) ∧ ws[j]? = some (y, o') ∧ wayTo ws (i + 1) i = wayTo ws (j + 1) j ++ suf.reverse ∧ k = j ∧ suf.length + j ≤ i) (m := i) ?_ ?_
    · exact ⟨i, z, o, _, [], rfl, same_new hp, upd_same, hi, by simp, rfl, by simp⟩
    · rintro k σ H2 ⟨j, y, o', v4, suf, rfl, s2, hp2, hj, hw, rfl, hsl⟩
      obtain ⟨v, hv, hy⟩ := hM.look I.nd hj
      have hil : i < ws.length := (List.getElem?_eq_some_iff.mp hi).1
      refine ⟨!decide (v = .non), fun R hR => ?_, ?_⟩
      · walk_at "go"
        refine x_getL (l := m) (f := id) (same_rd s2 hG) hv ?_
        walk_at "go"
        exact hR
      · cases o' with
        | none =>
          have hy' : v = .non := hy
          subst hy'
          refine x_nyes rfl ?_
          walk_at "go"
          have e0 : wayTo ws (k + 1) k = [] := by
            unfold wayTo
            rw [hj]
          rw [e0, List.nil_append] at hw
          refine x_rev (SqL.of hp2) fun r hr => ?_
          refine q _ r (same_upd s2 (s2.free hr)) (s2.free hr) ?_
          rw [upd_same, hw]
          show some (HO.lst ((suf.map V.str).reverse)) = some (HO.lst (suf.reverse.map V.str))
          rw [List.map_reverse]
        | some js =>
          obtain ⟨j2, s2'⟩ := js
          obtain ⟨T, y2, e1, e2, e3⟩ := hy
          subst e1
          refine x_nno (fun e => by cases e) ?_
          have hlt := (I.par k y j2 s2' hj).1
          refine x_seq ?_
          refine x_asgT ?_
          walk_at "go"
          refine x_getL (l := m) (f := id) (same_rd s2 hG) hv ?_
          refine x_g2 (SqT.of (s2 _ _ e3)) ?_
          walk_at "go"
          refine x_app hp2 (sz_lt (by rw [List.length_map]; omega)) ?_
          walk_at "go"
          obtain ⟨⟨y3, o3⟩, hq3⟩ : ∃ q : Wy, ws[j2]? = some q := ⟨ws[j2]'(nm_lt e2), List.getElem?_eq_getElem _⟩
          have ey : y3 = y2 := by
            have := nm_of hq3
            rw [e2] at this
            exact (Option.some.inj this).symm
          subst ey
          refine ⟨j2, hlt, j2, y3, o3, _, suf ++ [s2'], rfl, same_upd s2 hp, ?_, hq3, ?_, rfl, by rw [List.length_append]; simp; omega⟩
          · rw [upd_same]
            simp
          · rw [hw, List.reverse_append]
            have e4 : wayTo ws (k + 1) k = wayTo ws (j2 + 1) j2 ++ [s2'] := by
              have e5 : wayTo ws (k + 1) k = wayTo ws k j2 ++ [s2'] := by
                conv => lhs; unfold wayTo
                rw [hj]
              rw [e5, wayTo_fuel I k (j2 + 1) j2 hlt (Nat.lt_succ_self _)]
            rw [e4, List.append_assoc]
            rfl
theorem ok_checked_book {f : Addr} {fd : FuncData} (F : Fun K "checked_book" "checked_book" s_checked_book f fd) (C_suited : Cal P w K mg base 1 "suited" ["work", "wish"] (spSuited CW C)) (C_is_fraction : Cal P w K mg base 2 "is_fraction" ["thing"] spIsFrac) (C_is_book : Cal P w K mg base 3 "is_book" ["work", "thing"] (spIsBook CW)) : FnOk P w K mg base CX0 4 f fd ["work", "wish", "level", "book"] (spCheckedBook CW C) := by
  refine F.ok sc_checked_book (fun vs H Q E h => ?_) (fun cdv A outer s H vs Q E hr h => ?_)
  · obtain ⟨_, _, _, _, _, _, _, _, _, _, _, rfl, _⟩ := h
    rfl
  · obtain ⟨a, s, lvl, B, h, e, st, l, wl, b, bk, rfl, wa, wi, g, su, srt, hlv, lvok, hB, bnd, ok, q⟩ := h
    refine ⟨_, (pss_cons (ps_expr (pe_cal C_suited (hr.mono (by decide)) (by rfl) (pa_cons (pv 0) (pa_cons (pv 1) pa_nil))))
      (pss_cons (ps_if (pt_not (pt_val (pe_cal C_is_fraction (hr.mono (by decide)) (by rfl) (pa_cons (pv 2) pa_nil))))
      (pss_one ps_never)
      pss_nil)
      (pss_one (ps_if (pt_not (pt_val (pe_cal C_is_book (hr.mono (by decide)) (by rfl) (pa_cons (pv 0) (pa_cons (pv 3) pa_nil)))))
      (pss_one ps_never)
      pss_nil)))), ?_⟩
    walk_at "go"
    refine ⟨a, s, h, e, st, l, wl, rfl, wa, wi, g, su, fun H1 s1 => ?_⟩
    walk_at "go"
    refine ⟨lvl, b, rfl, s1 _ _ hlv, lvok.d1, by have := lvok.d2; omega, lvok.gc, ?_⟩
    walk_at "go"
    refine ⟨a, B, h, st, l, bk, rfl, wa.same s1, g, srt, hB.imp s1 fun _ _ h => s1 _ _ h, bnd, ok, fun H2 s2 => ?_⟩
    walk_at "go"
    exact q H2 (s1.trans s2)
theorem ok_breaking {f : Addr} {fd : FuncData} (F : Fun K "breaking" "breaking" s_breaking f fd) (K_Wish : Cls K C) (C_checked_book : Cal P w K mg base 4 "checked_book" ["work", "wish", "level", "book"] (spCheckedBook CW C)) (P_Wish_worths : Prp P w K mg base C 1 "worths" (spWorths C))
    (C_let_ways : Cal P w K mg base 4 "let_ways" ["work", "book"] (spLetWays CW)) (C_is_below : Cal P w K mg base 1 "is_below" ["worth", "level"] spIsBelow) (C_way_to : Cal P w K mg base 1 "way_to" ["ways", "stand"] spWayTo) : FnOk P w K mg base CX0 5 f fd ["work", "wish", "level", "book"] (spBreaking CW C) := by
  refine F.ok sc_breaking (fun vs H Q E h => ?_) (fun cdv A outer s H vs Q E hr h => ?_)
  · obtain ⟨_, _, _, _, _, _, _, _, _, _, _, rfl, _⟩ := h
    rfl
  · obtain ⟨a, s, lvl, B, h, e, st, l, wl, b, bk, rfl, wa, wi, g, su, wok, srt, hlv, lvok, hB, bnd, ok, hst, q⟩ := h
    have hu := hu_of hr
    have gl := g.l2
    refine ⟨_, (pss_cons (ps_expr (pe_cal C_checked_book (hr.mono (by decide)) (by rfl) (pa_cons (pv 0) (pa_cons (pv 1) (pa_cons (pv 2) (pa_cons (pv 3) pa_nil))))))
      (pss_cons (ps_set (i := 4) sc_breaking.nd rfl (Or.inl rfl) (pe_prp P_Wish_worths K_Wish (hr.mono (by decide)) (pv 1)))
      (pss_cons (ps_set (i := 5) sc_breaking.nd rfl (Or.inl rfl) (pe_cal C_let_ways (hr.mono (by decide)) (by rfl) (pa_cons (pv 0) (pa_cons (pv 3) pa_nil))))
      (pss_cons (ps_lock (ps_for PassesOwn.never rfl (pi_keys (pv 5)) (pg_name (i := 6) sc_breaking.nd rfl (Or.inl rfl))
      (pss_one (ps_if (PW.pt (pw_and (pt_cmp (pc_din hu (pv 6) (pv 4))) (pw_and1 (pt_val (pe_cal C_is_below (hr.mono (by decide)) (by rfl) (pa_cons (pe_dget hu (pv 4) (pv 6) (fun _ _ => rfl)) (pa_cons (pv 2) pa_nil)))))))
      (pss_one (ps_ret (pe_cal C_way_to (hr.mono (by decide)) (by rfl) (pa_cons (pv 5) (pa_cons (pv 6) pa_nil)))))
      pss_nil))))
      (pss_one (ps_ret pe_non)))))), ?_⟩
    walk_at "go"
    refine ⟨a, s, lvl, B, h, e, st, l, wl, b, bk, rfl, wa, wi, g, su, srt, hlv, lvok, hB, bnd, ok, fun H1 s1 => ?_⟩
    walk_at "go"
    obtain ⟨dy, tw, l', w1, w2, w3, w4⟩ := (wi.same s1).ex
    refine x_prp w1 ⟨s, e, wl, rfl, wi.same s1, su.nw, by have := wok.len; omega, fun H2 W wl' s2 hW hW2 hp => ?_⟩
    have s02 := s1.trans s2
    have hlk : ∀ z, wl'.lookup z = wl.lookup z := fun z => lookup_perm hp su.nw z
    walk_at "go"
    refine ⟨a, B, h, st, l, bk, rfl, wa.same s02, g, srt, hB.imp s02 fun _ _ h => s02 _ _ h, ok, hst, fun H3 G m ws s3 hG hG3 hM hWs => ?_⟩
    obtain ⟨q1, q2⟩ := q ws hWs
    have s03 := s02.trans s3
    have hG0 : H G = none := s02.free hG
    have wl1 := hWs.inv.len
    have hml : m.length = ws.length := by
      have := congrArg List.length hM.keys
      rwa [List.length_map, List.length_map] at this
    walk_at "go"
    refine x_lock hG3 trivial fun od => ?_
    have sf : L2.Same H (upd H3 G (.frz od (.dK (strK id m)))) := same_upd s03 hG0
    have sW : (upd H3 G (.frz od (.dK (strK id m)))) W = some (.dK (strK V.int wl')) := by
      rw [upd_ne (fun e => by rw [e, hG] at hW2; cases hW2)]
      exact s3 _ _ hW2
    walk_at "go"
    refine lpK (kvs := strK id m) (fun j σ H' => ∃ v6, σ = [some (.ref a), some (.ref s), some (.ref lvl), some (.ref B), some (.ref W), some (.ref G), v6] ∧ L2.Same (upd H3 G (.frz od (.dK (strK id m)))) H' ∧ ∀ (i : Nat) y, i < j → nmAt ws i = some y → belowB wl b y = false) upd_same ⟨_, rfl, fun _ _ h => h, fun i y hi => by omega⟩ (fun j σ H' _ ⟨_, _, s4, _⟩ => s4 G _ upd_same) ?_ ?_
    · rintro j k0 v0 σ H4 hj ⟨v6, rfl, s4, hno⟩
      obtain ⟨z, y, rfl, rfl, hly⟩ := strK_at hj
      have hjl : j < ws.length := by have := (List.getElem?_eq_some_iff.mp hly).1; omega
      obtain ⟨⟨z', o⟩, hz⟩ : ∃ q : Wy, ws[j]? = some q := ⟨ws[j], List.getElem?_eq_getElem hjl⟩
      have ez : z' = z := by
        obtain ⟨v, h1, _⟩ := hM.at_ j z' o hz
        rw [hly] at h1
        exact (congrArg Prod.fst (Option.some.inj h1)).symm
      subst ez
      have next : belowB wl b z' = false → ∀ (i : Nat) y, i < j + 1 → nmAt ws i = some y → belowB wl b y = false := fun hf i y hi hy => by
        rcases Nat.lt_or_ge i j with c | c
        · exact hno i y c hy
        · have : i = j := by omega
          subst this
          rw [nm_of hz] at hy
          cases hy
          exact hf
      walk_at "go"
      refine x_inD (l := wl') (.inl (s4 _ _ sW)) ?_
      rw [hlk]
      cases hv : wl.lookup z' with
      | none =>
        walk_at "go"
        refine x_F ?_
        walk_at "go"
        exact ⟨_, rfl, s4, next (by unfold belowB; rw [hv])⟩
      | some v =>
        have bv := wok.bd _ (lookup_mem hv)
        have eb : belowB wl b z' = decide (v * b.2 < b.1) := by unfold belowB; rw [hv]
        walk_at "go"
        refine x_T ?_
        walk_at "go"
        refine x_getL (l := wl') (.inl (s4 _ _ sW)) (by rw [hlk]; exact hv) ?_
        walk_at "go"
        refine ⟨v, lvl, b, rfl, bv.1, bv.2, s4 _ _ (sf _ _ hlv), ?_⟩
        walk_at "go"
        refine x_dec (fun hlt => ?_) (fun hge => ?_)
        · walk_at "go"
          have hM4 : WaysM H4 m ws := (hM.dict hG3).same s4
          refine ⟨G, z', j, ws.length, m, ws, o, l, bk, st, rfl, .inr ⟨od, s4 _ _ upd_same⟩, hM4, hWs.inv, hz, by omega, fun H5 p s5 hp5 hp5' => ?_⟩
          refine ⟨s5 _ _ (s4 _ _ upd_same), ?_⟩
          have hpn : H p = none := sf.free (s4.free hp5)
          refine q2 j z' o hz (by rw [eb]; exact decide_eq_true hlt) hno _ p (same_upd (sf.trans (s4.trans s5)) hG0) hpn ?_
          rw [upd_ne (fun e => by rw [e, s4 _ _ upd_same] at hp5; cases hp5)]
          exact hp5'
        · walk_at "go"
          exact ⟨_, rfl, s4, next (by rw [eb]; exact decide_eq_false hge)⟩
    · rintro σ H4 ⟨v6, rfl, s4, hno⟩
      refine ⟨s4 _ _ upd_same, ?_⟩
      walk_at "go"
      have el : (strK id m).length = ws.length := (List.length_map ..).trans hml
      rw [el] at hno
      refine q1 (fun z hz => ?_) _ (same_upd (sf.trans s4) hG0)
      obtain ⟨j, o, hj⟩ := nm_ex hz
      exact hno j z (List.getElem?_eq_some_iff.mp hj).1 (nm_of hj)
theorem ok_keeps {f : Addr} {fd : FuncData} (F : Fun K "keeps" "keeps" s_keeps f fd) (C_breaking : Cal P w K mg base 5 "breaking" ["work", "wish", "level", "book"] (spBreaking CW C)) : FnOk P w K mg base CX0 6 f fd ["work", "wish", "level", "book"] (spKeeps CW C) := by
  refine F.ok sc_keeps (fun vs H Q E h => ?_) (fun cdv A outer s H vs Q E hr h => ?_)
  · obtain ⟨_, _, _, _, _, _, _, _, _, _, _, rfl, _⟩ := h
    rfl
  · obtain ⟨a, s, lvl, B, h, e, st, l, wl, b, bk, rfl, wa, wi, g, su, wok, srt, hlv, lvok, hB, bnd, ok, hst, q⟩ := h
    refine ⟨_, (pss_one (ps_ret (pe_cmpR op_isNA (pe_cal C_breaking (hr.mono (by decide)) (by rfl) (pa_cons (pv 0) (pa_cons (pv 1) (pa_cons (pv 2) (pa_cons (pv 3) pa_nil))))) pe_non (nomark _)))), ?_⟩
    walk_at "go"
    refine ⟨a, s, lvl, B, h, e, st, l, wl, b, bk, rfl, wa, wi, g, su, wok, srt, hlv, lvok, hB, bnd, ok, hst, fun ws hW => ⟨fun hall H1 s1 => ?_, fun i z o hz hb _ H1 p s1 hp hp1 => ?_⟩⟩
    · walk_at "go"
      exact q _ ⟨fun _ z hz => hall z ((ways_iff hW z).mpr hz), fun _ => rfl⟩ H1 s1
    · walk_at "go"
      refine q _ ⟨fun e => ?_, fun h => ?_⟩ H1 s1
      · cases of_decide_eq_true e
      · have := h z ((ways_iff hW z).mp (nm_mem (nm_of hz)))
        rw [hb] at this
        cases this
theorem ok_kept_stands {f : Addr} {fd : FuncData} (F : Fun K "kept_stands" "kept_stands" s_kept_stands f fd) (Z_sorted : mg "sorted" = none) (C_keeps : Cal P w K mg base 6 "keeps" ["work", "wish", "level", "book"] (spKeeps CW C)) (C_let_ways : Cal P w K mg base 4 "let_ways" ["work", "book"] (spLetWays CW)) : FnOk P w K mg base CX0 7 f fd ["work", "wish", "level", "book"] (spKept CW C) := by
  refine F.ok sc_kept_stands (fun vs H Q E h => ?_) (fun cdv A outer s H vs Q E hr h => ?_)
  · obtain ⟨_, _, _, _, _, _, _, _, _, _, _, rfl, _⟩ := h
    rfl
  · obtain ⟨a, s, lvl, B, h, e, st, l, wl, b, bk, rfl, wa, wi, g, su, wok, srt, hlv, lvok, hB, bnd, ok, hst, q1, q2⟩ := h
    have gl := g.l2
    refine ⟨_, (pss_cons (ps_if (pt_not (pt_val (pe_cal C_keeps (hr.mono (by decide)) (by rfl) (pa_cons (pv 0) (pa_cons (pv 1) (pa_cons (pv 2) (pa_cons (pv 3) pa_nil)))))))
      (pss_one (ps_ret pe_non))
      pss_nil)
      (pss_one (ps_ret (pe_callB (call_sortedDA rfl) (by rfl) Z_sorted (by decide +kernel) (pa_cons (pe_cal C_let_ways (hr.mono (by decide)) (by rfl) (pa_cons (pv 0) (pa_cons (pv 3) pa_nil))) pa_nil))))), ?_⟩
    walk_at "go"
    refine ⟨a, s, lvl, B, h, e, st, l, wl, b, bk, rfl, wa, wi, g, su, wok, srt, hlv, lvok, hB, bnd, ok, hst, fun k hk H1 s1 => ?_⟩
    cases k with
    | false =>
      walk_at "go"
      exact q1 (fun h => by cases hk.mpr h) H1 s1
    | true =>
      walk_at "go"
      refine ⟨a, B, h, st, l, bk, rfl, wa.same s1, g, srt, hB.imp s1 fun _ _ h => s1 _ _ h, ok, hst, fun H2 G m ws s2 hG hG2 hM hWs => ?_⟩
      have wl1 := hWs.inv.len
      walk_at "go"
      refine ⟨G, _, ws.map (·.1), rfl, .inl hG2, ?_, by rw [List.length_map]; omega, fun ys p hpm hso hp => ?_⟩
      · rw [← hM.keys]
        show (m.map _).map _ = (m.map _).map _
        rw [List.map_map, List.map_map]
        rfl
      · have s02 := s1.trans s2
        refine q2 (hk.mp rfl) _ p ys (same_upd s02 (s02.free hp)) (s02.free hp) upd_same (fun z => ?_) ((List.Perm.nodup_iff hpm).mpr hWs.inv.nd) hso
        rw [hpm.mem_iff]
        exact ways_iff hWs z
end
/-! ### rows that were sorted -/
theorem sort_leads {x x' : Sd} (s : SdSort x x') (t : Str) : t ∈ leadsL x' ↔ t ∈ leadsL x := by
  cases x with
  | fin => cases x' with
    | fin => exact Iff.rfl
    | chance _ => cases s
    | hand _ _ => cases s
  | chance l => cases x' with
    | fin => cases s
    | hand _ _ => cases s
    | chance l' => exact (s.1.map (·.2.1)).mem_iff
  | hand k l => cases x' with
    | fin => cases s
    | chance _ => cases s
    | hand k' l' => exact (s.2.1.map (·.2)).mem_iff
theorem sort_mv {x x' : Sd} (s : SdSort x x') (lot : List Int) : mvIn lot x' = mvIn lot x := by
  cases x with
  | fin => cases x' with
    | fin => rfl
    | chance _ => cases s
    | hand _ _ => cases s
  | chance l => cases x' with
    | fin => cases s
    | hand _ _ => cases s
    | chance l' => rfl
  | hand k l => cases x' with
    | fin => cases s
    | chance _ => cases s
    | hand k' l' => rw [show k' = k from s.1]; rfl
theorem sort_fin {x x' : Sd} (s : SdSort x x') : x' = .fin ↔ x = .fin := by
  cases x with
  | fin => cases x' with
    | fin => exact ⟨fun _ => rfl, fun _ => rfl⟩
    | chance _ => cases s
    | hand _ _ => cases s
  | chance l => cases x' with
    | fin => cases s
    | hand _ _ => cases s
    | chance l' => exact ⟨fun h => (by cases h), fun h => (by cases h)⟩
  | hand k l => cases x' with
    | fin => cases s
    | chance _ => cases s
    | hand k' l' => exact ⟨fun h => (by cases h), fun h => (by cases h)⟩
theorem sort_srt {x x' : Sd} (s : SdSort x x') : SrtSd x' := by
  cases x with
  | fin => cases x' with
    | fin => rfl
    | chance _ => cases s
    | hand _ _ => cases s
  | chance l => cases x' with
    | fin => cases s
    | hand _ _ => cases s
    | chance l' => exact s.2
  | hand k l => cases x' with
    | fin => cases s
    | chance _ => cases s
    | hand k' l' => exact s.2.2
theorem sort_steps {x x' : Sd} (s : SdSort x x') : (stepsL x').Perm (stepsL x) := by
  cases x with
  | fin => cases x' with
    | fin => exact List.Perm.refl _
    | chance _ => cases s
    | hand _ _ => cases s
  | chance l => cases x' with
    | fin => cases s
    | hand _ _ => cases s
    | chance l' => exact s.1.map _
  | hand k l => cases x' with
    | fin => cases s
    | chance _ => cases s
    | hand k' l' => exact s.2.1.map _
theorem sort_toS {h : Int} {ns : List Str} {x x' : Sd} (g : GoodSd h ns x) (s : SdSort x x') (z : Str) : toS x' z = toS x z := by
  cases x with
  | fin => cases x' with
    | fin => rfl
    | chance _ => cases s
    | hand _ _ => cases s
  | chance l => cases x' with
    | fin => cases s
    | hand _ _ => cases s
    | chance l' =>
      show (l'.lookup z).map _ = (l.lookup z).map _
      rw [lookup_perm s.1 g.1 z]
  | hand k l => cases x' with
    | fin => cases s
    | chance _ => cases s
    | hand k' l' => exact lookup_perm s.2.1 g.2.2.1 z
theorem tab_look {l l' : List (Str × Sd)} (T : TabSort l l') {z : Str} {x : Sd} (hx : l.lookup z = some x) : ∃ x', l'.lookup z = some x' ∧ SdSort x x' := by
  obtain ⟨x', hx'⟩ := lookup_isSome (l := l') (z := z) (T.pm.mem_iff.mpr (List.mem_map.mpr ⟨_, lookup_mem hx, rfl⟩))
  obtain ⟨y, hy, s⟩ := T.sd z x' hx'
  rw [hx] at hy
  cases hy
  exact ⟨x', hx', s⟩
theorem sort_kind {x x' : Sd} (s : SdSort x x') : kindS x' = kindS x := by
  cases x with
  | fin => cases x' with
    | fin => rfl
    | chance _ => cases s
    | hand _ _ => cases s
  | chance l => cases x' with
    | fin => cases s
    | hand _ _ => cases s
    | chance l' => rfl
  | hand k l => cases x' with
    | fin => cases s
    | chance _ => cases s
    | hand k' l' => rfl
theorem sort_mvV {x x' : Sd} (s : SdSort x x') : moverV x' = moverV x := by
  cases x with
  | fin => cases x' with
    | fin => rfl
    | chance _ => cases s
    | hand _ _ => cases s
  | chance l => cases x' with
    | fin => cases s
    | hand _ _ => cases s
    | chance l' => rfl
  | hand k l => cases x' with
    | fin => cases s
    | chance _ => cases s
    | hand k' l' => exact congrArg V.int s.1
/-! ### k71: the same stands in order; the plain law of books -/
section
variable {l l' : List (Str × Sd)} {lot : List Int} {wl : List (Str × Int)} {lv : Int × Int} {h : Int} {bk : List (Str × List Str)} {st : Str}
theorem bad_fw (T : TabSort l l') {z : Str} (b : Bad l lot wl lv z) : Bad l' lot wl lv z := by
  induction b with
  | @fin z h1 h2 =>
    obtain ⟨x', hx', s⟩ := tab_look T h1
    rw [(sort_fin s).mpr rfl] at hx'
    exact .fin hx' h2
  | @all z x hx hne hm _ ih =>
    obtain ⟨x', hx', s⟩ := tab_look T hx
    refine .all hx' (fun e => ?_) ((sort_mv s lot).trans hm) fun t ht => ih t ((sort_leads s t).mp ht)
    cases hl : leadsL x with
    | nil => exact hne hl
    | cons t r =>
      have := (sort_leads s t).mpr (by rw [hl]; exact List.mem_cons_self)
      rw [e] at this
      cases this
  | @any z t x hx hm ht _ ih =>
    obtain ⟨x', hx', s⟩ := tab_look T hx
    exact .any hx' ((sort_mv s lot).trans hm) ((sort_leads s t).mpr ht) ih
theorem bad_bw (T : TabSort l l') {z : Str} (b : Bad l' lot wl lv z) : Bad l lot wl lv z := by
  induction b with
  | @fin z h1 h2 =>
    obtain ⟨x, hx, s⟩ := T.sd z _ h1
    rw [(sort_fin s).mp rfl] at hx
    exact .fin hx h2
  | @all z x hx hne hm _ ih =>
    obtain ⟨x0, hx0, s⟩ := T.sd z _ hx
    refine .all hx0 (fun e => ?_) ((sort_mv s lot).symm.trans hm) fun t ht => ih t ((sort_leads s t).mpr ht)
    cases hl : leadsL x with
    | nil => exact hne hl
    | cons t r =>
      have := (sort_leads s t).mp (by rw [hl]; exact List.mem_cons_self)
      rw [e] at this
      cases this
  | @any z t x hx hm ht _ ih =>
    obtain ⟨x0, hx0, s⟩ := T.sd z _ hx
    exact .any hx0 ((sort_mv s lot).symm.trans hm) ((sort_leads s t).mp ht) ih
theorem bad_sort (T : TabSort l l') (z : Str) : Bad l' lot wl lv z ↔ Bad l lot wl lv z := ⟨bad_bw T, bad_fw T⟩
theorem suits_sort (T : TabSort l l') (nw : (wl.map (·.1)).Nodup) (iff : ∀ z, z ∈ wl.map (·.1) ↔ l.lookup z = some .fin) : Suits l' wl := by
  refine ⟨T.so, nw, fun z => ?_⟩
  rw [iff z]
  constructor
  · intro hx
    obtain ⟨x', hx', s⟩ := tab_look T hx
    rw [(sort_fin s).mpr rfl] at hx'
    exact hx'
  · intro hx
    obtain ⟨x, hx0, s⟩ := T.sd z _ hx
    rw [(sort_fin s).mp rfl] at hx0
    exact hx0
/-! books over the same stands -/
theorem rowok_sort {x x' : Sd} (s : SdSort x x') {r : List Str} (k : RowOk x r) : RowOk x' r := ⟨k.asc, k.nd, k.ne, fun m hm => (sort_steps s).mem_iff.mpr (k.sub m hm)⟩
theorem bookok_sort (T : TabSort l l') (ok : BookOk l bk) : BookOk l' bk := by
  intro q hq
  obtain ⟨k, l2, hx, rk⟩ := ok q hq
  obtain ⟨x', hx', s⟩ := tab_look T hx
  cases x' with
  | fin => cases s
  | chance _ => cases s
  | hand k' l2' => exact ⟨k', l2', hx', rowok_sort s rk⟩
/-- the book lets moves at stands of the lot alone -/
def OfLot (l : List (Str × Sd)) (lot : List Int) (bk : List (Str × List Str)) : Prop := ∀ q ∈ bk, ∀ x, l.lookup q.1 = some x → mvIn lot x = true
theorem Rch.trans {a b c : Str} (h1 : Rch l bk a b) (h2 : Rch l bk b c) : Rch l bk a c := by
  induction h2 with
  | at0 => exact h1
  | step _ hx hs ht ih => exact .step ih hx hs ht
theorem rch_in (g : GoodT h l) (ok : BookOk l bk) (hst : st ∈ l.map (·.1)) {z : Str} (r : Rch l bk st z) : z ∈ l.map (·.1) := by
  cases r with
  | at0 => exact hst
  | @step p s t x _ hx hs ht =>
    obtain ⟨t', ht', _, hn⟩ := steps_to (g.sd p x hx) (let_sub ok hx hs)
    rw [ht] at ht'
    cases ht'
    exact hn
theorem to_of_lead {x : Sd} {ns : List Str} {t : Str} (g : GoodSd h ns x) (ht : t ∈ leadsL x) : ∃ s ∈ stepsL x, toS x s = some t := by
  rw [leads_map g] at ht
  obtain ⟨s, hs, e⟩ := List.mem_map.mp ht
  obtain ⟨t', ht'⟩ := toS_some hs
  rw [ht'] at e
  exact ⟨s, hs, by rw [ht']; exact congrArg some e⟩
/-- from what is bad an end below the level comes by let moves -/
theorem bad_reach (g : GoodT h l) (su : ∀ z, z ∈ wl.map (·.1) ↔ l.lookup z = some .fin) (ok : BookOk l bk) (ol : OfLot l lot bk) {z : Str} (b : Bad l lot wl lv z) : ∃ y, Rch l bk z y ∧ belowB wl lv y = true := by
  induction b with
  | @fin z h1 h2 =>
    obtain ⟨v, hv⟩ := lookup_isSome ((su z).mpr h1)
    refine ⟨z, .at0, ?_⟩
    unfold belowB
    rw [hv] at h2 ⊢
    exact decide_eq_true h2
  | @all z x hx hne hm _ ih =>
    have gx := g.sd z x hx
    obtain ⟨s, hs⟩ : ∃ s, s ∈ letS l bk z := by
      unfold letS
      cases e : bk.lookup z with
      | some r =>
        obtain ⟨k, l2, _, rk⟩ := ok (z, r) (lookup_mem e)
        cases hr : r with
        | nil => exact absurd hr rk.ne
        | cons a t => exact ⟨a, List.mem_cons_self⟩
      | none =>
        rw [hx]
        show ∃ s, s ∈ stepsL x
        cases hl : leadsL x with
        | nil => exact absurd hl hne
        | cons t r =>
          obtain ⟨s, hs, _⟩ := to_of_lead gx (t := t) (by rw [hl]; exact List.mem_cons_self)
          exact ⟨s, hs⟩
    obtain ⟨t, ht, htl, _⟩ := steps_to gx (let_sub ok hx hs)
    obtain ⟨y, hy, hb⟩ := ih t htl
    exact ⟨y, Rch.trans (.step .at0 hx hs ht) hy, hb⟩
  | @any z t x hx hm ht _ ih =>
    have gx := g.sd z x hx
    obtain ⟨s, hs, hts⟩ := to_of_lead gx ht
    have hsl : s ∈ letS l bk z := by
      unfold letS
      cases e : bk.lookup z with
      | some r =>
        have := ol (z, r) (lookup_mem e) x hx
        rw [hm] at this
        cases this
      | none => rw [hx]; exact hs
    obtain ⟨y, hy, hb⟩ := ih
    exact ⟨y, Rch.trans (.step .at0 hx hsl hts) hy, hb⟩
theorem below_bad (su : ∀ z, z ∈ wl.map (·.1) ↔ l.lookup z = some .fin) {z : Str} (hb : belowB wl lv z = true) : Bad l lot wl lv z := by
  unfold belowB at hb
  cases e : wl.lookup z with
  | none => rw [e] at hb; cases hb
  | some v =>
    rw [e] at hb
    refine .fin ((su z).mp (List.mem_map.mpr ⟨_, lookup_mem e, rfl⟩)) ?_
    rw [e]
    exact of_decide_eq_true hb
/-! the freest book -/
theorem free_nd {ss : List Str} (g : GoodT h l) (S : SafeList l lot wl lv ss) : ss.Nodup := by
  obtain ⟨p, e, _⟩ := S
  rw [e]
  exact g.nd.filter _
theorem safe_iff {ss : List Str} (S : SafeList l lot wl lv ss) {z : Str} (hz : z ∈ l.map (·.1)) : z ∈ ss ↔ ¬ Bad l lot wl lv z := by
  obtain ⟨p, e, hp⟩ := S
  rw [e, List.mem_filter, ← hp z hz]
  exact ⟨fun h => h.2, fun h => ⟨hz, h⟩⟩
theorem safe_sub {ss : List Str} (S : SafeList l lot wl lv ss) {z : Str} (hz : z ∈ ss) : z ∈ l.map (·.1) := by
  obtain ⟨p, e, _⟩ := S
  rw [e] at hz
  exact (List.mem_filter.mp hz).1
theorem free_keys {ss : List Str} (F : FreeOk l lot ss bk) {z : Str} {x : Sd} (hx : l.lookup z = some x) : z ∈ bk.map (·.1) ↔ z ∈ ss ∧ mvIn lot x = true := by
  rw [F.keys, List.mem_filter, hx]
  rfl
theorem free_look {ss : List Str} (F : FreeOk l lot ss bk) {z : Str} {x : Sd} (hx : l.lookup z = some x) (hz : z ∈ ss) (hm : mvIn lot x = true) : bk.lookup z = some (frRow ss x) := by
  obtain ⟨r, hr⟩ := lookup_isSome ((free_keys F hx).mpr ⟨hz, hm⟩)
  obtain ⟨y, hy, e⟩ := F.rows (z, r) (lookup_mem hr)
  rw [hx] at hy
  cases hy
  rw [hr, show r = frRow ss x from e]
theorem free_none {ss : List Str} (F : FreeOk l lot ss bk) {z : Str} {x : Sd} (hx : l.lookup z = some x) (h : ¬ (z ∈ ss ∧ mvIn lot x = true)) : bk.lookup z = none := lookup_none fun hm => h ((free_keys F hx).mp hm)
theorem free_book {ss : List Str} (g : GoodT h l) (srt : ∀ z x, l.lookup z = some x → SrtSd x) (S : SafeList l lot wl lv ss) (F : FreeOk l lot ss bk) : BookOk l bk := by
  intro q hq
  obtain ⟨x, hx, e⟩ := F.rows q hq
  have hk := (free_keys F hx).mp (List.mem_map.mpr ⟨q, hq, rfl⟩)
  have gx := g.sd _ x hx
  cases x with
  | fin => cases hk.2
  | chance _ => cases hk.2
  | hand k l2 =>
    refine ⟨k, l2, hx, ?_⟩
    rw [e]
    have hn : (stepsL (.hand k l2)).Nodup := gx.2.2.1
    refine ⟨(sorted_pw (srt _ _ hx)).filter _, hn.filter _, fun e0 => ?_, fun m hm => (List.mem_filter.mp hm).1⟩
    refine ((safe_iff S (safe_sub S hk.1)).mp hk.1) (.all hx (fun e1 => ?_) hk.2 fun t ht => ?_)
    · have h1 : 1 ≤ l2.length := gx.2.2.2.1
      have h2 : l2.map (·.2) = [] := e1
      have := congrArg List.length h2
      rw [List.length_map] at this
      simp at this
      rw [this] at h1
      simp at h1
    · obtain ⟨s, hs, hts⟩ := to_of_lead gx ht
      have htn : t ∈ l.map (·.1) := by
        obtain ⟨t', ht', _, hn⟩ := steps_to gx hs
        rw [hts] at ht'
        cases ht'
        exact hn
      refine Classical.byContradiction fun hb => ?_
      have : s ∈ frRow ss (.hand k l2) := List.mem_filter.mpr ⟨hs, decide_eq_true (by rw [hts]; exact (safe_iff S htn).mpr hb)⟩
      rw [e0] at this
      cases this
theorem free_ofLot {ss : List Str} (F : FreeOk l lot ss bk) : OfLot l lot bk := fun q hq x hx => ((free_keys F hx).mp (List.mem_map.mpr ⟨q, hq, rfl⟩)).2
/-- by the freest book what is safe stays safe -/
theorem free_safe {ss : List Str} (g : GoodT h l) (srt : ∀ z x, l.lookup z = some x → SrtSd x) (S : SafeList l lot wl lv ss) (F : FreeOk l lot ss bk) (hst : st ∈ ss) {z : Str} (r : Rch l bk st z) : z ∈ ss := by
  induction r with
  | at0 => exact hst
  | @step p s t x _ hx hs ht ih =>
    have gx := g.sd p x hx
    cases hm : mvIn lot x with
    | true =>
      unfold letS at hs
      rw [free_look F hx ih hm] at hs
      have := of_decide_eq_true (List.mem_filter.mp hs).2
      rw [ht] at this
      exact this
    | false =>
      unfold letS at hs
      rw [free_none F hx (fun h => by rw [hm] at h; cases h.2), hx] at hs
      obtain ⟨t', ht', htl, htn⟩ := steps_to gx hs
      rw [ht] at ht'
      cases ht'
      exact (safe_iff S htn).mpr fun hb => (safe_iff S (safe_sub S ih)).mp ih (.any hx hm htl hb)
theorem free_keeps {ss : List Str} (g : GoodT h l) (srt : ∀ z x, l.lookup z = some x → SrtSd x) (su : ∀ z, z ∈ wl.map (·.1) ↔ l.lookup z = some .fin) (S : SafeList l lot wl lv ss) (F : FreeOk l lot ss bk) (hst : st ∈ ss) (z : Str) (r : Rch l bk st z) : belowB wl lv z = false := by
  have hz := free_safe g srt S F hst r
  cases hb : belowB wl lv z with
  | false => rfl
  | true => exact absurd (below_bad su hb) ((safe_iff S (safe_sub S hz)).mp hz)
/-- what comes by a book that keeps the level is safe -/
theorem kept_safe (g : GoodT h l) (su : ∀ z, z ∈ wl.map (·.1) ↔ l.lookup z = some .fin) (ok : BookOk l bk) (ol : OfLot l lot bk) (hk : ∀ z, Rch l bk st z → belowB wl lv z = false) {z : Str} (r : Rch l bk st z) : ¬ Bad l lot wl lv z := fun b => by
  obtain ⟨y, hy, hb⟩ := bad_reach g su ok ol b
  rw [hk y (r.trans hy)] at hb
  cases hb
theorem kept_row {fk : List (Str × List Str)} {ss : List Str} (g : GoodT h l) (su : ∀ z, z ∈ wl.map (·.1) ↔ l.lookup z = some .fin) (ok : BookOk l bk) (ol : OfLot l lot bk) (hk : ∀ z, Rch l bk st z → belowB wl lv z = false) (hst : st ∈ l.map (·.1)) (S : SafeList l lot wl lv ss) (F : FreeOk l lot ss fk) {z : Str} {x : Sd} (r : Rch l bk st z) (hx : l.lookup z = some x) (hm : mvIn lot x = true) :
    ∃ row, fk.lookup z = some row ∧ ∀ m ∈ letS l bk z, m ∈ row := by
  have hz := rch_in g ok hst r
  refine ⟨_, free_look F hx ((safe_iff S hz).mpr (kept_safe g su ok ol hk r)) hm, fun m hml => ?_⟩
  have gx := g.sd z x hx
  obtain ⟨t, ht, _, htn⟩ := steps_to gx (let_sub ok hx hml)
  refine List.mem_filter.mpr ⟨let_sub ok hx hml, decide_eq_true ?_⟩
  rw [ht]
  exact (safe_iff S htn).mpr (kept_safe g su ok ol hk (.step r hx hml ht))
end
/-! books compared -/
def bookD (bk : List (Str × List Str)) : Key → PyData
  | .inr z => ssD ((bk.lookup z).getD [])
  | .inl _ => .none
theorem same_keys {α β : Type} {a : List (Str × α)} {b : List (Str × β)} (na : (a.map (·.1)).Nodup) (nb : (b.map (·.1)).Nodup) (h : ∀ z, z ∈ a.map (·.1) ↔ z ∈ b.map (·.1)) : a.length = b.length := by
  have := ((List.perm_ext_iff_of_nodup na nb).mpr h).length_eq
  rwa [List.length_map, List.length_map] at this
theorem eq_books {K : PySem.W.Frag} {H : Hp} {p q : Addr} {b1 b2 : List (Str × List Str)} (h1 : DictOf RwAt H p b1) (h2 : DictOf RwAt H q b2) (n1 : (b1.map (·.1)).Nodup) (n2 : (b2.map (·.1)).Nodup) (e : ∀ z, b1.lookup z = b2.lookup z) (o1 : ∀ r ∈ b1, ∀ z ∈ r.2, PyData.strOk z = true) :
    ∃ (ks ls : List (Key × V)) (f g : Key → PyData), Rd H p (.dK ks) ∧ Rd H q (.dK ls) ∧ DvAt K H ks f ∧ DvAt K H ls g ∧ eqKB ks ls f g = true := by
  have o2 : ∀ r ∈ b2, ∀ z ∈ r.2, PyData.strOk z = true := fun r hr z hz => by
    have := lookup_of n2 (z := r.1) (x := r.2) hr
    rw [← e] at this
    exact o1 _ (lookup_mem this) z hz
  have dv : ∀ {p : Addr} {b : List (Str × List Str)} {m : List (Str × Addr)}, (∀ z a, (z, a) ∈ m → ∃ x, b.lookup z = some x ∧ RwAt H a x) → (∀ r ∈ b, ∀ z ∈ r.2, PyData.strOk z = true) → DvAt K H (strK V.ref m) (bookD b) := fun {p b m} hm ob kv hkv => by
    obtain ⟨q, hq, rfl⟩ := List.mem_map.mp hkv
    obtain ⟨x, hx, hr⟩ := hm q.1 q.2 hq
    have hr' : H q.2 = some (.tup (strsV x)) := hr
    show Dp K H (.ref q.2) (bookD b (.inr q.1)) ∧ _
    have eb : bookD b (.inr q.1) = ssD x := by
      show ssD _ = _
      rw [hx]
      rfl
    rw [eb]
    refine ⟨.tup (SqT.of hr') (dpAll_strs x), ?_⟩
    exact ssD_shaped (ob _ (lookup_mem hx))
  obtain ⟨m1, a1, a2, a3⟩ := h1.ex
  obtain ⟨m2, c1, c2, c3⟩ := h2.ex
  refine ⟨_, _, bookD b1, bookD b2, .inl a1, .inl c1, dv (p := p) a3 o1, dv (p := q) c3 o2, ?_⟩
  have kk : ∀ z, z ∈ m1.map (·.1) ↔ z ∈ m2.map (·.1) := fun z => by
    rw [a2, c2]
    constructor
    · intro hz
      obtain ⟨r, hr⟩ := lookup_isSome hz
      rw [e] at hr
      exact List.mem_map.mpr ⟨_, lookup_mem hr, rfl⟩
    · intro hz
      obtain ⟨r, hr⟩ := lookup_isSome hz
      rw [← e] at hr
      exact List.mem_map.mpr ⟨_, lookup_mem hr, rfl⟩
  unfold eqKB
  rw [Bool.and_eq_true]
  refine ⟨?_, List.all_eq_true.mpr fun kv hkv => ?_⟩
  · have := same_keys (a := m1) (b := m2) (by rw [a2]; exact n1) (by rw [c2]; exact n2) kk
    rw [List.length_map, List.length_map, this]
    exact beq_self_eq_true _
  · obtain ⟨y, hy, rfl⟩ := List.mem_map.mp hkv
    obtain ⟨v, hv⟩ := lookup_isSome ((kk y.1).mp (List.mem_map.mpr ⟨y, hy, rfl⟩))
    show ((valV (strK V.ref m2) (Sum.inr y.1)).isSome && PyData.eqv (ssD ((b1.lookup y.1).getD [])) (ssD ((b2.lookup y.1).getD []))) = true
    rw [strK_look, hv, ssD_eqv, e y.1, decide_eq_true rfl]
    rfl
theorem x_eqBook {K : PySem.W.Frag} {H : Hp} {Q : VK} {p q : Addr} {b1 b2 : List (Str × List Str)} (h1 : DictOf RwAt H p b1) (h2 : DictOf RwAt H q b2) (n1 : (b1.map (·.1)).Nodup) (n2 : (b2.map (·.1)).Nodup) (e : ∀ z, b1.lookup z = b2.lookup z) (o1 : ∀ r ∈ b1, ∀ z ∈ r.2, PyData.strOk z = true) (k : Q (.bl true) H) : rEqDD K (.ref p) (.ref q) H Q := by
  obtain ⟨ks, ls, f, g, r1, r2, d1, d2, eq⟩ := eq_books (K := K) h1 h2 n1 n2 e o1
  exact ⟨p, q, ks, ls, f, g, rfl, rfl, r1, r2, d1, d2, by rw [eq]; exact k⟩
theorem x_neBook {K : PySem.W.Frag} {H : Hp} {Q : VK} {p q : Addr} {b1 b2 : List (Str × List Str)} (h1 : DictOf RwAt H p b1) (h2 : DictOf RwAt H q b2) (n1 : (b1.map (·.1)).Nodup) (n2 : (b2.map (·.1)).Nodup) (e : ∀ z, b1.lookup z = b2.lookup z) (o1 : ∀ r ∈ b1, ∀ z ∈ r.2, PyData.strOk z = true) (k : Q (.bl false) H) : rNeDD K (.ref p) (.ref q) H Q := by
  obtain ⟨ks, ls, f, g, r1, r2, d1, d2, eq⟩ := eq_books (K := K) h1 h2 n1 n2 e o1
  exact ⟨p, q, ks, ls, f, g, rfl, rfl, r1, r2, d1, d2, by rw [eq]; exact k⟩
/-! ### runs -/
theorem Kd.row {K : PySem.W.Frag} {H : Hp} {r : Addr} {xs : List V} (h : SqR K H r xs) : ∃ k, Kd K H (.ref r) k ∧ (isB k .lst || isB k .tup) = true := by
  rcases h with h | h
  · exact ⟨_, .lst h, rfl⟩
  · exact ⟨_, .tup h, rfl⟩
theorem SqR.same {K : PySem.W.Frag} {H H' : Hp} {r : Addr} {xs : List V} (h : SqR K H r xs) (s : L2.Same H H') : SqR K H' r xs := by
  rcases h with h | h
  · exact .inl (s.seq h)
  · exact .inr (same_t s h)
def toAt (l : List (Str × Sd)) (z s : Str) : Option Str := (l.lookup z).bind fun x => toS x s
/-- ts: the stands that the run passes -/
structure Trail (l : List (Str × Sd)) (st : Str) (run ts : List Str) : Prop where
  len : ts.length = run.length + 1
  at0 : ts[0]? = some st
  step : ∀ (i : Nat) (s z : Str), run[i]? = some s → ts[i]? = some z → ∃ t, toAt l z s = some t ∧ ts[i + 1]? = some t
def spIsRow (K : PySem.W.Frag) : Sp := fun vs H Q _ => ∃ x k, vs = [x] ∧ Kd K H x k ∧ ∀ H', L2.Same H H' → Q (.bl (isB k .lst || isB k .tup)) H'
def spPassed (K : PySem.W.Frag) (C : Addr) : Sp := fun vs H Q _ => ∃ (a r : Addr) (h : Int) (st : Str) (l : List (Str × Sd)) (run ts : List Str), vs = [.ref a, .ref r] ∧ WorkAt C H a h st l ∧ GoodT h l ∧ (∀ z x, l.lookup z = some x → SrtSd x) ∧ SqR K H r (strsV run) ∧ run.length ≤ 1000 ∧ Trail l st run ts ∧
  ∀ H' p, L2.Same H H' → H p = none → H' p = some (.lst (strsV ts)) → Q (.ref p) H'
def moverAt (l : List (Str × Sd)) (z : Str) : V := ((l.lookup z).map moverV).getD .non
def spMovers (K : PySem.W.Frag) (C : Addr) : Sp := fun vs H Q _ => ∃ (a r : Addr) (h : Int) (st : Str) (l : List (Str × Sd)) (run ts : List Str), vs = [.ref a, .ref r] ∧ WorkAt C H a h st l ∧ GoodT h l ∧ (∀ z x, l.lookup z = some x → SrtSd x) ∧ SqR K H r (strsV run) ∧ run.length ≤ 1000 ∧ Trail l st run ts ∧
  ∀ H' p, L2.Same H H' → H p = none → H' p = some (.lst ((ts.take run.length).map (moverAt l))) → Q (.ref p) H'
def spEnded (K : PySem.W.Frag) (C : Addr) : Sp := fun vs H Q _ => ∃ (a r : Addr) (h : Int) (st z : Str) (l : List (Str × Sd)) (x : Sd) (run ts : List Str), vs = [.ref a, .ref r] ∧ WorkAt C H a h st l ∧ GoodT h l ∧ (∀ z x, l.lookup z = some x → SrtSd x) ∧ SqR K H r (strsV run) ∧ run.length ≤ 1000 ∧ Trail l st run ts ∧
  ts[run.length]? = some z ∧ l.lookup z = some x ∧ ∀ H', L2.Same H H' → Q (.bl (isFin x)) H'
theorem toAt_some {l : List (Str × Sd)} {z s t : Str} (h : toAt l z s = some t) : ∃ x, l.lookup z = some x ∧ toS x s = some t := by
  unfold toAt at h
  cases e : l.lookup z with
  | none => rw [e] at h; cases h
  | some x => rw [e] at h; exact ⟨x, rfl, h⟩
theorem Trail.get {l : List (Str × Sd)} {st : Str} {run ts : List Str} (T : Trail l st run ts) {i : Nat} (h : i ≤ run.length) : ∃ z, ts[i]? = some z := ⟨ts[i]'(by rw [T.len]; omega), List.getElem?_eq_getElem _⟩
theorem wk_none {h : Int} {st m : Str} {t n e : Addr} {r : Bool} (hm : (["ringless", "ends", "names", "table", "start", "hands"] : List Str).contains m = false) : (wkF h st t n e r).lookup m = none := by
  refine wkF_none ?_ ?_ ?_ ?_ ?_ ?_ <;> (intro z; subst z; exact absurd hm (by decide +kernel))
section
variable {P : Program} {w : World} {K : PySem.W.Frag} {mg : Str → Option Value} {base : Heap} {CW : Addr}
theorem ok_is_row {f : Addr} {fd : FuncData} (F : Fun K "is_row" "is_row" s_is_row f fd) (Z_list : mg "list" = none) (Z_tuple : mg "tuple" = none) (Z_isinstance : mg "isinstance" = none) : FnOk P w K mg base CX0 1 f fd ["thing"] (spIsRow K) := by
  refine F.ok sc_is_row (fun vs H Q E h => ?_) (fun cdv A outer s H vs Q E hr h => ?_)
  · obtain ⟨_, _, rfl, _⟩ := h
    rfl
  · obtain ⟨x, k, rfl, hk, q⟩ := h
    refine ⟨_, (pss_one (ps_ret (pe_callB call_isiT (by rfl) Z_isinstance (by decide +kernel) (pa_cons (pv 0) (pa_cons (pe_tup (pa_cons (pe_bltn (v := .ty "list") (by rfl) Z_list (by decide +kernel) rfl) (pa_cons (pe_bltn (v := .ty "tuple") (by rfl) Z_tuple (by decide +kernel) rfl) pa_nil))) pa_nil))))), ?_⟩
    walk_at "go"
    refine ⟨by decide, fun p hp => ?_⟩
    walk_at "go"
    refine x_isiLT (hk.same (same_new hp)) upd_same ?_
    exact q _ (same_new hp)
theorem ok_passed {f : Addr} {fd : FuncData} (F : Fun K "passed" "passed" s_passed f fd) (K_Work : Cls K CW) (N1 : NoAttr K CW "start") (Z_enumerate : mg "enumerate" = none) (Z_str : mg "str" = none) (Z_isinstance : mg "isinstance" = none)
    (C_is_row : Cal P w K mg base 1 "is_row" ["thing"] (spIsRow K)) (T_Work_steps : Met P w K mg base CW 2 "steps" ["self", "stand"] (spSteps CW)) (T_Work_to : Met P w K mg base CW 2 "to" ["self", "stand", "step"] (spTo CW)) : FnOk P w K mg base CX0 3 f fd ["work", "run"] (spPassed K CW) := by
  refine F.ok sc_passed (fun vs H Q E h => ?_) (fun cdv A outer s H vs Q E hr h => ?_)
  · obtain ⟨_, _, _, _, _, _, _, rfl, _⟩ := h
    rfl
  · obtain ⟨a, r, h, st, l, run, ts, rfl, wa, g, so, hrun, hlen, T, q⟩ := h
    refine ⟨_, (pss_cons (ps_if (pt_not (pt_val (pe_cal C_is_row (hr.mono (by decide)) (by rfl) (pa_cons (pv 1) pa_nil))))
      (pss_one ps_never)
      pss_nil)
      (pss_cons (ps_set (i := 2) sc_passed.nd rfl (Or.inl rfl) (pe_fld (pv 0) rfl))
      (pss_cons (ps_set (i := 3) sc_passed.nd rfl (Or.inl rfl) (pe_lst (pa_cons (pv 2) pa_nil)))
      (pss_cons (ps_for PassesOwn.never rfl (pi_enumT (by rfl) Z_enumerate (pa_cons (pv 1) pa_nil)) (pg_tup rfl (pgs_cons (pg_name (i := 4) sc_passed.nd rfl (Or.inl rfl)) (pgs_cons (pg_name (i := 5) sc_passed.nd rfl (Or.inl rfl)) pgs_nil)))
      (pss_cons (ps_if (PW.pt (pw_or (pt_not (pt_val (pe_callB call_isi (by rfl) Z_isinstance (by decide +kernel) (pa_cons (pv 5) (pa_cons (pe_bltn (v := .ty "str") (by rfl) Z_str (by decide +kernel) rfl) pa_nil))))) (pw_or1 (pt_cmpR op_notIn_seq (pv 5) (pe_mt T_Work_steps K_Work (hr.mono (by decide)) (pv 0) (pa_cons (pv 2) pa_nil)) rfl))))
      (pss_one ps_never)
      pss_nil)
      (pss_cons (ps_set (i := 2) sc_passed.nd rfl (Or.inl rfl) (pe_mt T_Work_to K_Work (hr.mono (by decide)) (pv 0) (pa_cons (pv 2) (pa_cons (pv 5) pa_nil))))
      (pss_one (ps_expr (pe_bm PySem.F.plainAttrs_list PySem.F.slot_list_append PySem.F.type_list_append mt_append (pv 3) (pa_cons (pv 2) pa_nil)))))))
      (pss_one (ps_ret (pv 3))))))), ?_⟩
    obtain ⟨k, hk, hk2⟩ := Kd.row hrun
    walk_at "go"
    refine ⟨_, k, rfl, hk, fun H1 s1 => ?_⟩
    rw [hk2]
    walk_at "go"
    obtain ⟨dx, t, n, e, h1, _⟩ := id wa.ex
    refine x_fld K_Work N1 (s1 _ _ h1) wkF_start ?_
    walk_at "go"
    refine ⟨sz_le (by simp), fun p hp => ?_⟩
    have hp0 := s1.free hp
    walk_at "go"
    refine lpE (xs := strsV run) (fun i σ H' => ∃ z v4 v5, σ = [some (.ref a), some (.ref r), some (.str z), some (.ref p), v4, v5] ∧ ts[i]? = some z ∧ L2.Same H H' ∧ H' p = some (.lst (strsV (ts.take (i + 1))))) ?_ ?_ ?_ ?_
    · rcases hrun with h | h
      · exact .inl fun σ H' i _ ⟨_, _, _, _, _, s2, _⟩ => s2.seq h
      · exact .inr fun σ H' i _ ⟨_, _, _, _, _, s2, _⟩ => same_t s2 h
    · refine ⟨st, _, _, rfl, T.at0, same_upd s1 hp0, ?_⟩
      rw [upd_same, take_succ_get T.at0]
      rfl
    · rintro i x σ H2 TT hx ⟨z, v4, v5, rfl, hz, s2, hp2⟩ hT
      rw [List.getElem?_map] at hx
      cases hs : run[i]? with
      | none => rw [hs] at hx; cases hx
      | some sp1 =>
        rw [hs] at hx
        have ex : V.str sp1 = x := Option.some.inj hx
        subst ex
        have hi : i < run.length := (List.getElem?_eq_some_iff.mp hs).1
        obtain ⟨t1, ht1, ht2⟩ := T.step i sp1 z hs hz
        obtain ⟨y, hy, hy2⟩ := toAt_some ht1
        have s3 : L2.Same H (upd H2 TT (.tup [.int (i : Nat), .str sp1])) := same_upd s2 (s2.free hT)
        have hp3 : (upd H2 TT (.tup [.int (i : Nat), .str sp1])) p = some (.lst (strsV (ts.take (i + 1)))) := by rw [upd_ne (ne_of_none hp2 hT)]; exact hp2
        refine x_g2 (SqT.of upd_same) ?_
        generalize upd H2 TT (.tup [.int (i : Nat), .str sp1]) = H3 at s3 hp3 ⊢
        walk_at "go"
        refine x_isiStr (.str _) ?_
        walk_at "go"
        refine x_nT ?_
        walk_at "go"
        refine x_mti (s3 _ _ h1) (wk_none (by decide +kernel)) ?_
        walk_at "go"
        refine ⟨a, h, st, z, l, y, rfl, wa.same s3, hy, g.sd z y hy, so z y hy, fun H4 p4 s4 hp4 hp44 => ?_⟩
        refine x_ninL (SqL.of hp44) ?_
        refine ⟨_, rfl, ?_⟩
        refine x_nyes (toS_mem hy2) ?_
        walk_at "go"
        refine x_mti ((s3.trans s4) _ _ h1) (wk_none (by decide +kernel)) ?_
        walk_at "go"
        refine ⟨a, h, st, z, sp1, t1, l, y, rfl, wa.same (s3.trans s4), hy, hy2, ?_⟩
        walk_at "go"
        refine x_tyL (SqL.of (s4 _ _ hp3)) ?_
        walk_at "go"
        refine x_app (s4 _ _ hp3) (sz_lt (by have := T.len; simp; omega)) ?_
        walk_at "go"
        refine ⟨t1, _, _, rfl, ht2, same_upd (s3.trans s4) hp0, ?_⟩
        rw [upd_same, take_succ_get ht2]
        simp
    · rintro σ H2 ⟨z, v4, v5, rfl, hz, s2, hp2⟩
      rw [List.length_map, ← T.len, List.take_length] at hp2
      walk_at "go"
      exact q _ p s2 hp0 hp2
theorem ok_movers {f : Addr} {fd : FuncData} (F : Fun K "movers" "movers" s_movers f fd) (K_Work : Cls K CW)
    (C_passed : Cal P w K mg base 3 "passed" ["work", "run"] (spPassed K CW)) (T_Work_mover : Met P w K mg base CW 2 "mover" ["self", "stand"] (spMover CW)) : FnOk P w K mg base CX0 4 f fd ["work", "run"] (spMovers K CW) := by
  refine F.ok sc_movers (fun vs H Q E h => ?_) (fun cdv A outer s H vs Q E hr h => ?_)
  · obtain ⟨_, _, _, _, _, _, _, rfl, _⟩ := h
    rfl
  · obtain ⟨a, r, h, st, l, run, ts, rfl, wa, g, so, hrun, hlen, T, q⟩ := h
    refine ⟨_, (pss_cons (ps_set (i := 2) sc_movers.nd rfl (Or.inl rfl) (pe_cal C_passed (hr.mono (by decide)) (by rfl) (pa_cons (pv 0) (pa_cons (pv 1) pa_nil))))
      (pss_one (ps_ret (pe_lc (own := [("stand", 3)]) (g := gName 3) (tt := tYes) (by rfl) sc_movers.nd (pi_list (pe_slice sl_list (pv 2) po_none (po_some (pe_un un_neg pe_int)))) (blkOk_by (own := [("stand", 3)]) (N := N_movers) (sc := defScope s_movers) (by decide +kernel)) (fun _ _ _ _ _ => (pg_name (i := 3) sc_movers.nd rfl (Or.inl rfl))) (fun _ _ _ _ _ => pts_nil) (fun _ _ _ _ _ => by exact (pe_mt T_Work_mover K_Work (hr.mono (by decide)) (pv 0) (pa_cons (pv 3) pa_nil))))))), ?_⟩
    walk_at "go"
    refine ⟨a, r, h, st, l, run, ts, rfl, wa, g, so, hrun, hlen, T, fun H1 p s1 hp0 hp => ?_⟩
    walk_at "go"
    refine x_slL (SqL.of hp) fun c hc => ?_
    have ecut : cutV (strsV ts) none (some (-1)) = strsV (ts.take run.length) := by
      unfold cutV
      have e1 : HT.sIx (strsV ts).length 0 none = 0 := HT.sIx_none _ _
      have e2 : HT.sIx (strsV ts).length (strsV ts).length (some (-1)) = run.length := by
        show (if (-1 : Int) < 0 then ((-1 : Int) + ((strsV ts).length : Int)).toNat else min (-1 : Int).toNat (strsV ts).length) = run.length
        rw [if_pos (by decide), List.length_map, T.len]
        omega
      rw [e1, e2, List.drop_zero, Nat.sub_zero, ← List.map_take]
    rw [ecut]
    have s2 := s1.trans (same_new (o := .lst (strsV (ts.take run.length))) hc)
    have hc2 : (upd H1 c (.lst (strsV (ts.take run.length)))) c = some (.lst (strsV (ts.take run.length))) := upd_same
    generalize upd H1 c (.lst (strsV (ts.take run.length))) = H2 at s2 hc2 ⊢
    refine runL (SqL.of hc2) ?_
    intro D hD
    have hD0 := s2.free hD
    refine lcL (xs := strsV (ts.take run.length)) (fun i H' => L2.Same H2 H' ∧ H' D = some (.lst (((ts.take run.length).take i).map (moverAt l)))) ?_ ?_ ?_ ?_
    · exact ⟨same_new hD, upd_same⟩
    · exact fun i H' _ h => SqL.of (h.1 _ _ hc2)
    · rintro i x H3 hx ⟨s3, hD3⟩
      rw [List.getElem?_map] at hx
      cases hz : (ts.take run.length)[i]? with
      | none => rw [hz] at hx; cases hx
      | some z =>
        rw [hz] at hx
        have ex : V.str z = x := Option.some.inj hx
        subst ex
        have hi : i < run.length := by
          have := (List.getElem?_eq_some_iff.mp hz).1
          rw [List.length_take] at this
          omega
        have hz2 : ts[i]? = some z := by rw [List.getElem?_take_of_lt hi] at hz; exact hz
        obtain ⟨t1, ht1, _⟩ := T.step i run[i] z (List.getElem?_eq_getElem hi) hz2
        obtain ⟨y, hy, _⟩ := toAt_some ht1
        have em : moverAt l z = moverV y := by
          unfold moverAt
          rw [hy]
          rfl
        obtain ⟨dx, t, n, e, h1, _⟩ := id wa.ex
        walk_at "go"
        refine ⟨rfl, ?_⟩
        walk_at "go"
        refine x_mti ((s2.trans s3) _ _ h1) (wk_none (by decide +kernel)) ?_
        walk_at "go"
        refine ⟨a, h, st, z, l, y, rfl, wa.same (s2.trans s3), hy, ?_⟩
        refine ⟨_, hD3, sz_lt (by simp; omega), same_upd s3 hD, ?_⟩
        rw [upd_same, take_succ_get hz, List.map_append, List.map_cons, List.map_nil, em]
    · rintro H3 ⟨s3, hD3⟩
      rw [List.length_map, List.take_length] at hD3
      walk_at "go"
      exact q _ D (s2.trans s3) hD0 hD3
end
/-! ### k70: ways breadth first, the plain law -/
section
variable {l : List (Str × Sd)} {bk : List (Str × List Str)} {st : Str}
theorem nm_none {ws : List Wy} {j : Nat} (h : ws.length ≤ j) : nmAt ws j = none := by
  unfold nmAt
  rw [List.getElem?_eq_none h]
  rfl
theorem step_app (i : Nat) (x : Sd) (s : Str) (ws : List Wy) : ∃ r, stepW i x ws s = ws ++ r := by
  unfold stepW
  cases toS x s with
  | none => exact ⟨[], (List.append_nil _).symm⟩
  | some t =>
    show ∃ r, (if t ∈ ws.map (·.1) then ws else ws ++ [(t, some (i, s))]) = ws ++ r
    by_cases h : t ∈ ws.map (·.1)
    · rw [if_pos h]; exact ⟨[], (List.append_nil _).symm⟩
    · rw [if_neg h]; exact ⟨_, rfl⟩
theorem fold_app (i : Nat) (x : Sd) : ∀ (ss : List Str) (ws : List Wy), ∃ r, ss.foldl (stepW i x) ws = ws ++ r
  | [], ws => ⟨[], (List.append_nil _).symm⟩
  | s :: ss, ws => by
    obtain ⟨r1, h1⟩ := step_app i x s ws
    obtain ⟨r2, h2⟩ := fold_app i x ss (ws ++ r1)
    refine ⟨r1 ++ r2, ?_⟩
    show ss.foldl (stepW i x) (stepW i x ws s) = _
    rw [h1, h2, List.append_assoc]
theorem vis_app (ws : List Wy) (i : Nat) : ∃ r, visW l bk ws i = ws ++ r := by
  unfold visW
  cases nmAt ws i with
  | none => exact ⟨[], (List.append_nil _).symm⟩
  | some p =>
    show ∃ r, (match l.lookup p with | some x => (letS l bk p).foldl (stepW i x) ws | none => ws) = ws ++ r
    cases l.lookup p with
    | none => exact ⟨[], (List.append_nil _).symm⟩
    | some x => exact fold_app i x _ ws
theorem bfs_app (n : Nat) : ∀ k, ∃ r, bfsW l bk st (n + k) = bfsW l bk st n ++ r
  | 0 => ⟨[], (List.append_nil _).symm⟩
  | k + 1 => by
    obtain ⟨r1, h1⟩ := bfs_app n k
    obtain ⟨r2, h2⟩ := vis_app (l := l) (bk := bk) (bfsW l bk st (n + k)) (n + k)
    refine ⟨r1 ++ r2, ?_⟩
    show visW l bk (bfsW l bk st (n + k)) (n + k) = _
    rw [h2, h1, List.append_assoc]
theorem vis_stay {ws : List Wy} {i : Nat} (h : ws.length ≤ i) : visW l bk ws i = ws := by
  unfold visW
  rw [nm_none h]
theorem bfs_stay {n : Nat} (h : (bfsW l bk st n).length ≤ n) : ∀ k, bfsW l bk st (n + k) = bfsW l bk st n
  | 0 => rfl
  | k + 1 => by
    show visW l bk (bfsW l bk st (n + k)) (n + k) = _
    rw [bfs_stay h k]
    exact vis_stay (by omega)
theorem ways_bfs {ws : List Wy} (W : WaysOk l bk st ws) {m : Nat} (h : ws.length ≤ m) : bfsW l bk st m = ws := by
  have e : bfsW l bk st ws.length = ws := W.ex.symm
  obtain ⟨k, rfl⟩ := Nat.exists_eq_add_of_le h
  rw [bfs_stay (by rw [e]; exact Nat.le_refl _), e]
theorem ways_one {ws ws' : List Wy} (W : WaysOk l bk st ws) (W' : WaysOk l bk st ws') : ws = ws' := by
  rw [← ways_bfs W (Nat.le_max_left ws.length ws'.length), ways_bfs W' (Nat.le_max_right _ _)]
/-- one stand's steps, one after the other -/
theorem fold_ok {h : Int} {i : Nat} {p : Str} {x : Sd} (gx : GoodSd h (l.map (·.1)) x) (ok : BookOk l bk) (hx : l.lookup p = some x) : ∀ (ss done : List Str) (ws : List Wy), (∀ s ∈ ss, s ∈ letS l bk p) → nmAt ws i = some p → WaysInv l bk st (i + 1) ws → (∀ j, j < i → CloAll l bk ws j) → Clo l ws i done →
    nmAt (ss.foldl (stepW i x) ws) i = some p ∧ WaysInv l bk st (i + 1) (ss.foldl (stepW i x) ws) ∧ (∀ j, j < i → CloAll l bk (ss.foldl (stepW i x) ws) j) ∧ Clo l (ss.foldl (stepW i x) ws) i (done ++ ss)
  | [], done, ws, _, hp, I, hc, hd => by rw [List.append_nil]; exact ⟨hp, I, hc, hd⟩
  | s :: ss, done, ws, hs, hp, I, hc, hd => by
    have hsl := hs s List.mem_cons_self
    obtain ⟨to, hto, htl, htn⟩ := steps_to gx (let_sub ok hx hsl)
    have hil := nm_lt hp
    have e : done ++ s :: ss = (done ++ [s]) ++ ss := by rw [List.append_assoc]; rfl
    rw [e]
    show nmAt (ss.foldl (stepW i x) (stepW i x ws s)) i = _ ∧ WaysInv l bk st (i + 1) (ss.foldl (stepW i x) (stepW i x ws s)) ∧ (∀ j, j < i → CloAll l bk (ss.foldl (stepW i x) (stepW i x ws s)) j) ∧ Clo l (ss.foldl (stepW i x) (stepW i x ws s)) i _
    have es : stepW i x ws s = if to ∈ ws.map (·.1) then ws else ws ++ [(to, some (i, s))] := by unfold stepW; rw [hto]
    by_cases htw : to ∈ ws.map (·.1)
    · rw [es, if_pos htw]
      refine fold_ok gx ok hx ss (done ++ [s]) ws (fun s' h' => hs s' (List.mem_cons_of_mem _ h')) hp I hc ?_
      intro p' x' hp' hx' s' hs' t' ht'
      rcases List.mem_append.mp hs' with hs' | hs'
      · exact hd p' x' hp' hx' s' hs' t' ht'
      · rw [List.mem_singleton.mp hs'] at ht'
        rw [hp] at hp'
        cases hp'
        rw [hx] at hx'
        cases hx'
        rw [hto] at ht'
        cases ht'
        obtain ⟨i2, o2, hi2⟩ := nm_ex htw
        refine ⟨i2, o2, hi2, fun j' s2 e2 => ?_⟩
        rw [e2] at hi2
        have := (I.par i2 _ j' s2 hi2).2.1
        omega
    · rw [es, if_neg htw]
      refine fold_ok gx ok hx ss (done ++ [s]) _ (fun s' h' => hs s' (List.mem_cons_of_mem _ h')) (nm_app hp) (I.put hp hx hsl hto htn htw) (fun j hj => (hc j hj).app (by omega)) ?_
      intro p' x' hp' hx' s' hs' t' ht'
      rcases List.mem_append.mp hs' with hs' | hs'
      · exact (Clo.app hil hd) p' x' hp' hx' s' hs' t' ht'
      · rw [List.mem_singleton.mp hs'] at ht'
        rw [nm_app hp] at hp'
        cases hp'
        rw [hx] at hx'
        cases hx'
        rw [hto] at ht'
        cases ht'
        refine ⟨ws.length, some (i, s), ?_, fun j' s2 e2 => ?_⟩
        · rw [List.getElem?_append_right (Nat.le_refl _), Nat.sub_self]
          rfl
        · cases e2
          exact Nat.le_refl _
theorem bfs_inv {h : Int} (g : GoodT h l) (ok : BookOk l bk) (hst : st ∈ l.map (·.1)) : ∀ n, WaysInv l bk st n (bfsW l bk st n) ∧ ∀ j, j < n → j < (bfsW l bk st n).length → CloAll l bk (bfsW l bk st n) j
  | 0 => ⟨WaysInv.one hst, fun j hj => by omega⟩
  | n + 1 => by
    obtain ⟨I, hc⟩ := bfs_inv g ok hst n
    show WaysInv l bk st (n + 1) (visW l bk (bfsW l bk st n) n) ∧ ∀ j, j < n + 1 → j < (visW l bk (bfsW l bk st n) n).length → CloAll l bk (visW l bk (bfsW l bk st n) n) j
    cases e : nmAt (bfsW l bk st n) n with
    | none =>
      have hl : (bfsW l bk st n).length ≤ n := by
        rcases Nat.lt_or_ge n (bfsW l bk st n).length with c | c
        · unfold nmAt at e
          rw [List.getElem?_eq_getElem c] at e
          cases e
        · exact c
      rw [vis_stay hl]
      exact ⟨I.up (Nat.le_succ _), fun j _ h2 => hc j (by omega) h2⟩
    | some p =>
      obtain ⟨x, hx⟩ := lookup_isSome (I.sub p (nm_mem e))
      have ev : visW l bk (bfsW l bk st n) n = (letS l bk p).foldl (stepW n x) (bfsW l bk st n) := by
        unfold visW
        rw [e]
        show (match l.lookup p with | some x => (letS l bk p).foldl (stepW n x) (bfsW l bk st n) | none => bfsW l bk st n) = _
        rw [hx]
      rw [ev]
      have hlt := nm_lt e
      obtain ⟨h1, h2, h3, h4⟩ := fold_ok (st := st) (g.sd p x hx) ok hx (letS l bk p) [] (bfsW l bk st n) (fun s hs => hs) e (I.up (Nat.le_succ _)) (fun j hj => hc j hj (by omega)) (fun p' x' _ _ s' hs' => by cases hs')
      refine ⟨h2, fun j hj _ => ?_⟩
      rcases Nat.lt_or_ge j n with c | c
      · exact h3 j c
      · have : j = n := by omega
        subst this
        intro p' hp'
        rw [h1] at hp'
        cases hp'
        exact h4
theorem bfs_ok {h : Int} (g : GoodT h l) (ok : BookOk l bk) (hst : st ∈ l.map (·.1)) : WaysOk l bk st (bfsW l bk st l.length) := by
  obtain ⟨I, hc⟩ := bfs_inv g ok hst l.length
  have hl := I.len
  refine ⟨⟨I.nd, I.hd, I.sub, I.root, fun i z j s e => ?_, I.mono⟩, fun j hj => hc j (by omega) hj, ?_⟩
  · obtain ⟨a, b, c⟩ := I.par i z j s e
    have := (List.getElem?_eq_some_iff.mp e).1
    exact ⟨a, by omega, c⟩
  · obtain ⟨k, hk⟩ := Nat.exists_eq_add_of_le hl
    obtain ⟨r, hr⟩ := bfs_app (l := l) (bk := bk) (st := st) (bfsW l bk st l.length).length k
    rw [← hk] at hr
    have hm : (bfsW l bk st (bfsW l bk st l.length).length).length ≤ (bfsW l bk st l.length).length := by
      have := congrArg List.length hr
      rw [List.length_append] at this
      omega
    have := bfs_stay hm k
    rw [← hk] at this
    exact this
/-! depths -/
structure DepOk (ws : List Wy) (ds : List Nat) : Prop where
  len : ds.length = ws.length
  at0 : ds[0]? = some 0
  par : ∀ (i : Nat) z j s, ws[i]? = some (z, some (j, s)) → ∃ d, ds[j]? = some d ∧ ds[i]? = some (d + 1)
theorem DepOk.one : DepOk [(st, none)] [0] := ⟨rfl, rfl, fun i z j s h => by
  cases i with
  | zero => cases h
  | succ i => cases h⟩
theorem DepOk.snoc {ws : List Wy} {ds : List Nat} (D : DepOk ws ds) {i d : Nat} {t s : Str} (hd : ds[i]? = some d) : DepOk (ws ++ [(t, some (i, s))]) (ds ++ [d + 1]) := by
  have up : ∀ {k e : Nat}, ds[k]? = some e → (ds ++ [d + 1])[k]? = some e := fun {k e} h => by
    rw [List.getElem?_append_left (List.getElem?_eq_some_iff.mp h).1]
    exact h
  refine ⟨by rw [List.length_append, List.length_append, D.len]; rfl, up D.at0, fun k z j s' hk => ?_⟩
  rcases get_snoc hk with ⟨_, h⟩ | ⟨e, h⟩
  · obtain ⟨d', h1, h2⟩ := D.par k z j s' h
    exact ⟨d', up h1, up h2⟩
  · cases h
    refine ⟨d, up hd, ?_⟩
    rw [e, List.getElem?_append_right (by rw [D.len]; exact Nat.le_refl _), D.len, Nat.sub_self]
    rfl
theorem dep_way {n : Nat} {ws : List Wy} {ds : List Nat} (I : WaysInv l bk st n ws) (D : DepOk ws ds) : ∀ (i : Nat) z, nmAt ws i = some z → ds[i]? = some (wayTo ws (i + 1) i).length := by
  intro i
  induction i using Nat.strongRecOn with
  | _ i ih =>
    intro z hz
    unfold nmAt at hz
    cases e : ws[i]? with
    | none => rw [e] at hz; cases hz
    | some q =>
      obtain ⟨y, o⟩ := q
      cases o with
      | none =>
        have h0 := I.root i y e
        subst h0
        have : wayTo ws (0 + 1) 0 = [] := by
          unfold wayTo
          rw [e]
        rw [this]
        exact D.at0
      | some js =>
        obtain ⟨j, s⟩ := js
        obtain ⟨h1, _, p, x, h2, _⟩ := I.par i y j s e
        obtain ⟨d, h3, h4⟩ := D.par i y j s e
        have := ih j h1 p h2
        rw [h3] at this
        have ew : wayTo ws (i + 1) i = wayTo ws i j ++ [s] := by
          show (match ws[i]? with | some (_, some (j, s)) => wayTo ws i j ++ [s] | _ => []) = _
          rw [e]
        rw [h4, ew, List.length_append, wayTo_fuel I i (j + 1) j (by omega) (by omega)]
        have e2 : d = (wayTo ws (j + 1) j).length := Option.some.inj this
        rw [e2]
        rfl
theorem dep_mono {n : Nat} {ws : List Wy} {ds : List Nat} (I : WaysInv l bk st n ws) (D : DepOk ws ds) : ∀ (i i' d d' : Nat), i ≤ i' → ds[i]? = some d → ds[i']? = some d' → d ≤ d' := by
  intro i
  induction i using Nat.strongRecOn with
  | _ i ih =>
    intro i' d d' hi h1 h2
    have l1 := (List.getElem?_eq_some_iff.mp h1).1
    have l2 := (List.getElem?_eq_some_iff.mp h2).1
    rw [D.len] at l1 l2
    obtain ⟨⟨y, o⟩, e1⟩ : ∃ q, ws[i]? = some q := ⟨_, List.getElem?_eq_getElem l1⟩
    obtain ⟨⟨y', o'⟩, e2⟩ : ∃ q, ws[i']? = some q := ⟨_, List.getElem?_eq_getElem l2⟩
    cases o with
    | none =>
      have h0 := I.root i y e1
      subst h0
      rw [D.at0] at h1
      cases h1
      exact Nat.zero_le _
    | some js =>
      obtain ⟨j, s⟩ := js
      have hji := (I.par i y j s e1).1
      cases o' with
      | none =>
        have h0 := I.root i' y' e2
        omega
      | some js' =>
        obtain ⟨j', s'⟩ := js'
        obtain ⟨a, a1, a2⟩ := D.par i y j s e1
        obtain ⟨b, b1, b2⟩ := D.par i' y' j' s' e2
        rw [h1] at a2
        rw [h2] at b2
        cases a2
        cases b2
        have := ih j hji j' a b (I.mono i i' y y' j s j' s' hi e1 e2) a1 b1
        omega
/-! runs that are let -/
def wlk (l : List (Str × Sd)) (bk : List (Str × List Str)) : Str → List Str → Option Str
  | z, [] => some z
  | z, s :: r => if s ∈ letS l bk z then match toAt l z s with
    | some t => wlk l bk t r
    | none => none
    else none
theorem wlk_snoc : ∀ {run : List Str} {z y s t : Str}, wlk l bk z run = some y → s ∈ letS l bk y → toAt l y s = some t → wlk l bk z (run ++ [s]) = some t
  | [], z, y, s, t, h, hs, ht => by
    cases h
    show (if s ∈ letS l bk z then match toAt l z s with | some t => wlk l bk t [] | none => none else none) = some t
    rw [if_pos hs, ht]
    rfl
  | a :: r, z, y, s, t, h, hs, ht => by
    have h2 : (if a ∈ letS l bk z then match toAt l z a with | some t => wlk l bk t r | none => none else none) = some y := h
    show (if a ∈ letS l bk z then match toAt l z a with | some t => wlk l bk t (r ++ [s]) | none => none else none) = some t
    by_cases hm : a ∈ letS l bk z
    · rw [if_pos hm] at h2 ⊢
      cases e : toAt l z a with
      | none => rw [e] at h2; cases h2
      | some u =>
        rw [e] at h2
        exact wlk_snoc h2 hs ht
    · rw [if_neg hm] at h2
      cases h2
theorem way_wlk {n : Nat} {ws : List Wy} (I : WaysInv l bk st n ws) : ∀ (i : Nat) z, nmAt ws i = some z → wlk l bk st (wayTo ws (i + 1) i) = some z := by
  intro i
  induction i using Nat.strongRecOn with
  | _ i ih =>
    intro z hz
    have hz0 := hz
    unfold nmAt at hz
    cases e : ws[i]? with
    | none => rw [e] at hz; cases hz
    | some q =>
      obtain ⟨y, o⟩ := q
      rw [e] at hz
      have ez : y = z := Option.some.inj hz
      subst ez
      cases o with
      | none =>
        have h0 := I.root i y e
        subst h0
        have : wayTo ws (0 + 1) 0 = [] := by
          unfold wayTo
          rw [e]
        rw [this]
        rw [I.hd] at e
        cases e
        rfl
      | some js =>
        obtain ⟨j, s⟩ := js
        obtain ⟨h1, _, p, x, h2, h3, h4, h5⟩ := I.par i y j s e
        have ew : wayTo ws (i + 1) i = wayTo ws i j ++ [s] := by
          show (match ws[i]? with | some (_, some (j, s)) => wayTo ws i j ++ [s] | _ => []) = _
          rw [e]
        rw [ew, wayTo_fuel I i (j + 1) j (by omega) (by omega)]
        exact wlk_snoc (ih j h1 p h2) h4 (by unfold toAt; rw [h3]; exact h5)
theorem wlk_rch : ∀ {run : List Str} {z y : Str}, Rch l bk st z → wlk l bk z run = some y → Rch l bk st y
  | [], _, _, R, h => by cases h; exact R
  | a :: r, z, y, R, h => by
    have h2 : (if a ∈ letS l bk z then match toAt l z a with | some t => wlk l bk t r | none => none else none) = some y := h
    by_cases hm : a ∈ letS l bk z
    · rw [if_pos hm] at h2
      cases e : toAt l z a with
      | none => rw [e] at h2; cases h2
      | some u =>
        rw [e] at h2
        obtain ⟨x, hx, hs⟩ := toAt_some e
        exact wlk_rch (.step R hx hm hs) h2
    · rw [if_neg hm] at h2
      cases h2
/-- same lookups, same search -/
theorem bfs_congr {bk' : List (Str × List Str)} (h : ∀ p, letS l bk p = letS l bk' p) : ∀ n, bfsW l bk st n = bfsW l bk' st n
  | 0 => rfl
  | n + 1 => by
    show visW l bk (bfsW l bk st n) n = visW l bk' (bfsW l bk' st n) n
    rw [bfs_congr h n]
    unfold visW
    cases nmAt (bfsW l bk' st n) n with
    | none => rfl
    | some p =>
      show (match l.lookup p with | some x => (letS l bk p).foldl (stepW n x) _ | none => _) = (match l.lookup p with | some x => (letS l bk' p).foldl (stepW n x) _ | none => _)
      rw [h p]
end
/-! ### k70: what is let, what comes by it, a run judged -/
theorem TabSort.look {h : Int} {l lw : List (Str × Sd)} (g : GoodT h l) (T : TabSort l lw) {z : Str} {x : Sd} (hx : l.lookup z = some x) : ∃ x', lw.lookup z = some x' ∧ stepsL x' = stepsL x' ∧ (stepsL x').Perm (stepsL x) ∧ sortedS (stepsL x') = true ∧ (∀ s, toS x' s = toS x s) := by
  obtain ⟨x', hx', hs⟩ := tab_look T hx
  exact ⟨x', hx', rfl, sort_steps hs, sort_srt hs, fun s => sort_toS (g.sd z x hx) hs s⟩
theorem TabSort.len {l lw : List (Str × Sd)} (T : TabSort l lw) : lw.length = l.length := by
  have := T.pm.length_eq
  rwa [List.length_map, List.length_map] at this
theorem toAt_w {h : Int} {l lw : List (Str × Sd)} (g : GoodT h l) (T : TabSort l lw) {z : Str} {x : Sd} (hx : l.lookup z = some x) (s : Str) : toAt lw z s = toS x s := by
  obtain ⟨x', hx', _, _, _, e⟩ := TabSort.look g T hx
  unfold toAt
  rw [hx']
  exact e s
theorem toS_in {h : Int} {ns : List Str} {x : Sd} {s t : Str} (g : GoodSd h ns x) (e : toS x s = some t) : t ∈ ns := by
  obtain ⟨t', h1, _, h3⟩ := steps_to g (toS_mem e)
  rw [e] at h1
  cases h1
  exact h3
def spLet : Sp := fun vs H Q _ => ∃ (D B : Addr) (z : Str) (h : Int) (l lw : List (Str × Sd)) (bk : List (Str × List Str)), vs = [.ref D, .ref B, .str z] ∧ TabRd H D l ∧ GoodT h l ∧ TabSort l lw ∧ DictOf RwAt H B bk ∧ z ∈ l.map (·.1) ∧
  ∀ H' p, L2.Same H H' → H p = none → H' p = some (.lst (strsV (letS lw bk z))) → Q (.ref p) H'
/-- depths of the ways -/
structure DepM (m : List (Str × Int)) (ws : List Wy) (ds : List Nat) : Prop where
  keys : m.map (·.1) = ws.map (·.1)
  dep : DepOk ws ds
  at_ : ∀ (i : Nat) z d, nmAt ws i = some z → ds[i]? = some d → m.lookup z = some (d : Int)
theorem DepM.one {st : Str} : DepM [(st, 0)] [(st, none)] [0] := ⟨rfl, .one, fun i z d h1 h2 => by
  cases i with
  | succ i => cases h1
  | zero =>
    cases h1
    cases h2
    simp [List.lookup]⟩
theorem DepM.put {m : List (Str × Int)} {ws : List Wy} {ds : List Nat} (M : DepM m ws ds) (nd : (ws.map (·.1)).Nodup) {i d : Nat} {t s : Str} (hd : ds[i]? = some d) (hn : t ∉ ws.map (·.1)) : DepM (putL m t ((d : Int) + 1)) (ws ++ [(t, some (i, s))]) (ds ++ [d + 1]) := by
  have hnm : t ∉ m.map (·.1) := by rw [M.keys]; exact hn
  refine ⟨?_, M.dep.snoc hd, fun k z e h1 h2 => ?_⟩
  · rw [putL_new _ hnm, List.map_append, List.map_append, M.keys]
    rfl
  · rw [lookup_putL]
    rcases Nat.lt_or_ge k ws.length with c | c
    · have h1' : nmAt ws k = some z := by
        unfold nmAt at h1 ⊢
        rw [List.getElem?_append_left c] at h1
        exact h1
      have hz : z ≠ t := fun e => hn (by rw [← e]; exact nm_mem h1')
      rw [if_neg hz]
      rw [List.getElem?_append_left (by rw [M.dep.len]; exact c)] at h2
      exact M.at_ k z e h1' h2
    · have hk : k = ws.length := by
        have := nm_lt h1
        rw [List.length_append] at this
        simp at this
        omega
      subst hk
      have e1 : nmAt (ws ++ [(t, some (i, s))]) ws.length = some t := by
        unfold nmAt
        rw [List.getElem?_append_right (Nat.le_refl _), Nat.sub_self]
        rfl
      rw [e1] at h1
      cases h1
      rw [if_pos rfl]
      rw [List.getElem?_append_right (by rw [M.dep.len]; exact Nat.le_refl _), M.dep.len, Nat.sub_self] at h2
      cases h2
      rfl
def spReached : Sp := fun vs H Q _ => ∃ (D B : Addr) (st : Str) (h : Int) (l lw : List (Str × Sd)) (bk : List (Str × List Str)), vs = [.ref D, .ref B, .str st] ∧ DictOf SdAt H D l ∧ GoodT h l ∧ TabSort l lw ∧ DictOf RwAt H B bk ∧ BookOk lw bk ∧ st ∈ l.map (·.1) ∧
  ∀ H' P m ds, L2.Same H H' → H P = none → H' P = some (.dK (strK V.int m)) → DepM m (bfsW lw bk st lw.length) ds → Q (.ref P) H'
def spBreaks : Sp := fun vs H Q _ => ∃ (D G lvl B R : Addr) (st z : Str) (h : Int) (l lw : List (Str × Sd)) (wl : List (Str × Int)) (b : Int × Int) (bk : List (Str × List Str)) (run : List Str), vs = [.ref D, .ref G, .ref lvl, .ref B, .str st, .ref R, .int run.length] ∧ DictOf SdAt H D l ∧ GoodT h l ∧ TabSort l lw ∧
  H G = some (.dK (strK V.int wl)) ∧ WorthsOk wl ∧ FrAt H lvl b ∧ LvOk b ∧ DictOf RwAt H B bk ∧ BookOk lw bk ∧ st ∈ l.map (·.1) ∧ H R = some (.lst (strsV run)) ∧ run.length ≤ 1000 ∧ wlk lw bk st run = some z ∧ l.lookup z = some .fin ∧ belowB wl b z = true ∧ ∀ H', L2.Same H H' → Q (.bl true) H'
theorem wlk_at {l : List (Str × Sd)} {bk : List (Str × List Str)} : ∀ {run : List Str} {st y : Str} (i : Nat) (s : Str), wlk l bk st run = some y → run[i]? = some s → ∃ z t, wlk l bk st (run.take i) = some z ∧ s ∈ letS l bk z ∧ toAt l z s = some t ∧ wlk l bk st (run.take (i + 1)) = some t
  | [], _, _, i, s, _, hs => by cases hs
  | a :: r, st, y, i, s, h, hs => by
    have h2 : (if a ∈ letS l bk st then match toAt l st a with | some t => wlk l bk t r | none => none else none) = some y := h
    by_cases hm : a ∈ letS l bk st
    · rw [if_pos hm] at h2
      cases e : toAt l st a with
      | none => rw [e] at h2; cases h2
      | some u =>
        rw [e] at h2
        have h3 : wlk l bk u r = some y := h2
        have ex : ∀ r', wlk l bk st (a :: r') = wlk l bk u r' := fun r' => by
          show (if a ∈ letS l bk st then match toAt l st a with | some t => wlk l bk t r' | none => none else none) = _
          rw [if_pos hm, e]
        cases i with
        | zero =>
          cases hs
          exact ⟨st, u, rfl, hm, e, by show wlk l bk st (a :: r.take 0) = _; rw [ex, List.take_zero]; rfl⟩
        | succ i =>
          obtain ⟨z, t, g1, g2, g3, g4⟩ := wlk_at i s h3 hs
          exact ⟨z, t, by show wlk l bk st (a :: r.take i) = _; rw [ex]; exact g1, g2, g3, by show wlk l bk st (a :: r.take (i + 1)) = _; rw [ex]; exact g4⟩
    · rw [if_neg hm] at h2
      cases h2
section
variable {P : Program} {w : World} {K : PySem.W.Frag} {mg : Str → Option Value} {base : Heap}
theorem ok_l_let {f : Addr} {fd : FuncData} (F : Fun K "_law_let" "_law_let" s_l_let f fd) (Z_list : mg "list" = none) (C_l_steps : Cal P w K mg base 1 "_law_steps" ["_law_stands_here", "_law_stand_here"] spStepsC) : FnOk P w K mg base CX0 2 f fd ["_law_stands_here", "_law_book_here", "_law_stand_here"] spLet := by
  refine F.ok sc_l_let (fun vs H Q E h => ?_) (fun cdv A outer s H vs Q E hr h => ?_)
  · obtain ⟨_, _, _, _, _, _, _, rfl, _⟩ := h
    rfl
  · obtain ⟨D, B, z, h, l, lw, bk, rfl, hT, g, T, hB, hz, q⟩ := h
    have hu := hu_of hr
    obtain ⟨m, h1, h2, h3⟩ := hB.ex
    obtain ⟨x, hx⟩ := lookup_isSome hz
    refine ⟨_, (pss_cons (ps_if (pt_cmp (pc_din hu (pv 2) (pv 1)))
      (pss_one (ps_ret (pe_callTy call_listA (by rfl) Z_list (by decide +kernel) (pa_cons (pe_dget hu (pv 1) (pv 2) (fun _ _ => rfl)) pa_nil))))
      pss_nil)
      (pss_one (ps_ret (pe_cal C_l_steps (hr.mono (by decide)) (by rfl) (pa_cons (pv 0) (pa_cons (pv 2) pa_nil)))))), ?_⟩
    walk_at "go"
    refine x_inD (l := m) (.inl h1) ?_
    walk_at "go"
    cases e : m.lookup z with
    | some a =>
      obtain ⟨r, hr1, hr2⟩ := h3 z a (lookup_mem e)
      have hr2 : H a = some (.tup (strsV r)) := hr2
      refine x_T ?_
      walk_at "go"
      refine x_getL (l := m) (.inl h1) e ?_
      walk_at "go"
      refine x_listT (SqT.of hr2) fun p hp => ?_
      have el : letS lw bk z = r := by unfold letS; rw [hr1]
      exact q _ p (same_new hp) hp (by rw [upd_same, el])
    | none =>
      have eb : bk.lookup z = none := by
        refine lookup_none fun hm => ?_
        rw [← h2] at hm
        obtain ⟨y, hy⟩ := lookup_isSome hm
        rw [e] at hy
        cases hy
      obtain ⟨x', hx', _, pm, so, _⟩ := TabSort.look g T hx
      refine x_F ?_
      walk_at "go"
      refine ⟨D, z, l, x, h, _, rfl, hT, hx, g.sd z x hx, fun H1 p ss s1 hp hp1 hpm hso => ?_⟩
      have el : letS lw bk z = ss := by
        unfold letS
        rw [eb, hx']
        exact sorted_one so hso (pm.trans hpm.symm)
      exact q _ p s1 hp (by rw [hp1, el])
theorem ok_l_reached {f : Addr} {fd : FuncData} (F : Fun K "_law_reached" "_law_reached" s_l_reached f fd) (Z_range : mg "range" = none) (Z_len : mg "len" = none) (C_l_let : Cal P w K mg base 2 "_law_let" ["_law_stands_here", "_law_book_here", "_law_stand_here"] spLet) (C_l_to : Cal P w K mg base 1 "_law_to" ["_law_stands_here", "_law_stand_here", "_law_step"] spToC) : FnOk P w K mg base CX0 3 f fd ["_law_stands_here", "_law_book_here", "_law_start"] spReached := by
  refine F.ok sc_l_reached (fun vs H Q E h => ?_) (fun cdv A outer s H vs Q E hr h => ?_)
  · obtain ⟨_, _, _, _, _, _, _, rfl, _⟩ := h
    rfl
  · obtain ⟨D, B, st, h, l, lw, bk, rfl, hT, g, TS, hB, ok, hst, q⟩ := h
    have hu := hu_of hr
    have gl := g.l2
    have gw := TS.good g
    have hlw := TS.len
    have hstw : st ∈ lw.map (·.1) := TS.pm.mem_iff.mpr hst
    obtain ⟨mD, hD, hmk, hm⟩ := id hT.ex
    have hml : mD.length = l.length := by
      have := congrArg List.length hmk
      rwa [List.length_map, List.length_map] at this
    refine ⟨_, (pss_cons (ps_set (i := 3) sc_l_reached.nd rfl (Or.inl rfl) (pe_disp (pps_cons (pv 2) pe_int pps_nil) (by rfl) (by rfl) (fun z => by cases z) (by decide)))
      (pss_cons (ps_set (i := 4) sc_l_reached.nd rfl (Or.inl rfl) (pe_lst (pa_cons (pv 2) pa_nil)))
      (pss_cons (ps_for PassesOwn.never rfl (pi_range1 rfl Z_range (pa_cons (pe_callB call_lenDA (by rfl) Z_len (by decide +kernel) (pa_cons (pv 0) pa_nil)) pa_nil)) (pg_name (i := 5) sc_l_reached.nd rfl (Or.inl rfl))
      (pss_one (ps_if (pt_cmpR op_lt (pv 5) (pe_callB call_lenA (by rfl) Z_len (by decide +kernel) (pa_cons (pv 4) pa_nil)) (nomark _))
      (pss_one (ps_for PassesOwn.never rfl (pi_list (pe_cal C_l_let (hr.mono (by decide)) (by rfl) (pa_cons (pv 0) (pa_cons (pv 1) (pa_cons (pe_ix ix_list (pv 4) (pv 5) (fun _ _ => rfl)) pa_nil))))) (pg_name (i := 6) sc_l_reached.nd rfl (Or.inl rfl))
      (pss_cons (ps_set (i := 7) sc_l_reached.nd rfl (Or.inl rfl) (pe_cal C_l_to (hr.mono (by decide)) (by rfl) (pa_cons (pv 0) (pa_cons (pe_ix ix_list (pv 4) (pv 5) (fun _ _ => rfl)) (pa_cons (pv 6) pa_nil)))))
      (pss_one (ps_if (pt_cmp (pc_dnotin hu (pv 7) (pv 3)))
      (pss_cons (ps_dput hu (pv 3) (pv 7) (pe_op op_add (pe_dget hu (pv 3) (pe_ix ix_list (pv 4) (pv 5) (fun _ _ => rfl)) (fun _ _ => rfl)) pe_int) rfl)
      (pss_one (ps_expr (pe_bm PySem.F.plainAttrs_list PySem.F.slot_list_append PySem.F.type_list_append mt_append (pv 4) (pa_cons (pv 7) pa_nil)))))
      pss_nil)))))
      pss_nil)))
      (pss_one (ps_ret (pv 3)))))), ?_⟩
    walk_at "go"
    refine x_disp fun G hG => x_prs ?_
    walk_at "go"
    refine x_prs0 ⟨upd_same, [(Sum.inr st, .int 0)], rfl, by simp, ?_⟩
    rw [merge1, upd_upd]
    have sG : L2.Same H (upd H G (.dK [(Sum.inr st, .int 0)])) := same_new hG
    have hG1 : (upd H G (.dK [(Sum.inr st, .int 0)])) G = some (.dK (strK V.int [(st, (0 : Int))])) := upd_same
    generalize upd H G (.dK [(Sum.inr st, .int 0)]) = H1 at sG hG1
    walk_at "go"
    refine ⟨sz_le (by simp), fun W hW => ?_⟩
    have hW0 : H W = none := sG.free hW
    have nGW : G ≠ W := ne_of_none hG1 hW
    have s2 : L2.Same H (upd H1 W (.lst [.str st])) := same_upd sG hW0
    have hG2 : (upd H1 W (.lst [.str st])) G = some (.dK (strK V.int [(st, (0 : Int))])) := by rw [upd_ne nGW]; exact hG1
    have hW2 : (upd H1 W (.lst [.str st])) W = some (.lst [.str st]) := upd_same
    generalize upd H1 W (.lst [.str st]) = H2 at s2 hG2 hW2
    walk_at "go"
    refine x_lenD (.inl (s2 _ _ hD)) ?_
    walk_at "go"
    have hkl : (strK V.ref mD).length = l.length := by rw [List.length_map]; exact hml
    rw [hkl]
    refine lpR (fun i σ H' => ∃ (v5 v6 v7 : Option V) (m : List (Str × Int)) (ds : List Nat), σ = [some (.ref D), some (.ref B), some (.str st), some (.ref G), some (.ref W), v5, v6, v7] ∧ L2.Same H H' ∧ H' G = some (.dK (strK V.int m)) ∧ H' W = some (.lst (strsV ((bfsW lw bk st i).map (·.1)))) ∧ DepM m (bfsW lw bk st i) ds) ⟨by omega, by omega⟩ ?_ ?_ ?_
    · exact ⟨_, _, _, [(st, 0)], [0], rfl, s2, hG2, hW2, .one⟩
    · rintro i σ H3 hi ⟨v5, v6, v7, m, ds, rfl, s3, hG3, hW3, M⟩
      obtain ⟨I, hc⟩ := bfs_inv gw ok hstw i
      have hwl := I.len
      have el : (strsV ((bfsW lw bk st i).map (·.1))).length = (bfsW lw bk st i).length := by rw [List.length_map, List.length_map]
      walk_at "go"
      rw [el]
      refine x_dec (fun hlt => ?_) (fun hge => ?_)
      · have hlt : i < (bfsW lw bk st i).length := by omega
        obtain ⟨⟨z, o⟩, hz⟩ : ∃ q : Wy, (bfsW lw bk st i)[i]? = some q := ⟨_, List.getElem?_eq_getElem hlt⟩
        have hzn := nm_of hz
        have hzw : z ∈ lw.map (·.1) := I.sub z (nm_mem hzn)
        have hzl : z ∈ l.map (·.1) := TS.pm.mem_iff.mp hzw
        obtain ⟨x, hx⟩ := lookup_isSome hzl
        obtain ⟨x', hx', _, _, _, eto⟩ := TabSort.look g TS hx
        have gx' := gw.sd z x' hx'
        have ev : bfsW lw bk st (i + 1) = (letS lw bk z).foldl (stepW i x') (bfsW lw bk st i) := by
          show visW lw bk (bfsW lw bk st i) i = _
          unfold visW
          rw [hzn]
          show (match lw.lookup z with | some x => (letS lw bk z).foldl (stepW i x) (bfsW lw bk st i) | none => bfsW lw bk st i) = _
          rw [hx']
        have fold := fun u => fold_ok (st := st) gx' ok hx' ((letS lw bk z).take u) [] (bfsW lw bk st i) (fun s hs => List.mem_of_mem_take hs) hzn (I.up (Nat.le_succ _)) (fun j hj => hc j hj (by omega)) (fun p' x' _ _ s' hs' => by cases hs')
        have ll := let_len ok hx' gx'
        walk_at "go"
        refine x_ixl i (SqL.of hW3) rfl (by rw [List.getElem?_map, List.getElem?_map, hz]; rfl) ?_
        walk_at "go"
        have hB3 : DictOf RwAt H3 B bk := hB.imp s3 fun _ _ h => s3 _ _ h
        refine ⟨D, B, z, h, l, lw, bk, rfl, TabRd.of (hT.same s3), g, TS, hB3, hzl, fun H4 p s4 hp hp4 => ?_⟩
        have npG : p ≠ G := fun e => by rw [e, hG3] at hp; cases hp
        have npW : p ≠ W := fun e => by rw [e, hW3] at hp; cases hp
        refine lpL (xs := strsV (letS lw bk z)) (fun u σ H' => ∃ (v6 v7 : Option V) (m' : List (Str × Int)) (ds' : List Nat), σ = [some (.ref D), some (.ref B), some (.str st), some (.ref G), some (.ref W), some (.int (i : Int)), v6, v7] ∧ L2.Same H H' ∧ H' p = some (.lst (strsV (letS lw bk z))) ∧ H' G = some (.dK (strK V.int m')) ∧ H' W = some (.lst (strsV ((((letS lw bk z).take u).foldl (stepW i x') (bfsW lw bk st i)).map (·.1)))) ∧ DepM m' (((letS lw bk z).take u).foldl (stepW i x') (bfsW lw bk st i)) ds') (SqL.of hp4) ?_ ?_ ?_ ?_
        · exact ⟨_, _, m, ds, rfl, s3.trans s4, hp4, s4 _ _ hG3, by rw [List.take_zero]; exact s4 _ _ hW3, by rw [List.take_zero]; exact M⟩
        · exact fun u σ H' _ ⟨_, _, _, _, _, _, h, _⟩ => SqL.of h
        · rintro u y σ H5 hy ⟨v6, v7, m', ds', rfl, s5, hp5, hG5, hW5, M5⟩
          rw [List.getElem?_map] at hy
          cases hs : (letS lw bk z)[u]? with
          | none => rw [hs] at hy; cases hy
          | some sp =>
            rw [hs] at hy
            have ex : V.str sp = y := Option.some.inj hy
            subst ex
            obtain ⟨hn5, I5, _, _⟩ := fold u
            have etk : ((letS lw bk z).take (u + 1)).foldl (stepW i x') (bfsW lw bk st i) = stepW i x' (((letS lw bk z).take u).foldl (stepW i x') (bfsW lw bk st i)) sp := by
              rw [take_succ_get hs, List.foldl_append]
              rfl
            rw [etk]
            generalize ((letS lw bk z).take u).foldl (stepW i x') (bfsW lw bk st i) = ws at hn5 I5 hW5 M5 ⊢
            have hsl := List.mem_of_getElem? hs
            obtain ⟨to, hto, htl, htn⟩ := steps_to gx' (let_sub ok hx' hsl)
            have hto0 : toS x sp = some to := by rw [← eto]; exact hto
            have hwl5 := I5.len
            have hml5 : m'.length = ws.length := by
              have := congrArg List.length M5.keys
              rwa [List.length_map, List.length_map] at this
            have hiw := nm_lt hn5
            obtain ⟨d, hd⟩ : ∃ d, ds'[i]? = some d := ⟨_, List.getElem?_eq_getElem (by rw [M5.dep.len]; exact hiw)⟩
            have hixz : (strsV (ws.map (·.1)))[i]? = some (.str z) := by
              rw [List.getElem?_map, List.getElem?_map]
              unfold nmAt at hn5
              cases e : ws[i]? with
              | none => rw [e] at hn5; cases hn5
              | some q => rw [e] at hn5; cases hn5; rfl
            walk_at "go"
            refine x_ixl i (SqL.of hW5) rfl hixz ?_
            walk_at "go"
            refine ⟨D, z, sp, to, l, x, rfl, TabRd.of (hT.same s5), hx, hto0, ?_⟩
            walk_at "go"
            refine x_ninD (l := m') (.inl hG5) ?_
            walk_at "go"
            have es : stepW i x' ws sp = if to ∈ ws.map (·.1) then ws else ws ++ [(to, some (i, sp))] := by unfold stepW; rw [hto]
            cases hk : m'.lookup to with
            | some v =>
              have htw : to ∈ ws.map (·.1) := by
                rw [← M5.keys]
                exact List.mem_map.mpr ⟨_, lookup_mem hk, rfl⟩
              rw [es, if_pos htw]
              refine x_F ?_
              walk_at "go"
              exact ⟨_, _, m', ds', rfl, s5, hp5, hG5, hW5, M5⟩
            | none =>
              have htw : to ∉ ws.map (·.1) := fun hm => by
                rw [← M5.keys] at hm
                obtain ⟨v, hv⟩ := lookup_isSome hm
                rw [hk] at hv
                cases hv
              rw [es, if_neg htw]
              refine x_T ?_
              walk_at "go"
              refine x_ixl i (SqL.of hW5) rfl hixz ?_
              walk_at "go"
              refine x_getL (l := m') (f := V.int) (.inl hG5) (M5.at_ i z d hn5 hd) ?_
              walk_at "go"
              refine x_putL (l := m') (f := V.int) (x := (d : Int) + 1) hG5 (by omega) rfl ?_
              have nWG : W ≠ G := nGW.symm
              have hW6 : (upd H5 G (.dK (strK V.int (putL m' to ((d : Int) + 1))))) W = some (.lst (strsV (ws.map (·.1)))) := by rw [upd_ne nWG]; exact hW5
              walk_at "go"
              refine x_app hW6 (sz_lt (by rw [List.length_map, List.length_map]; omega)) ?_
              walk_at "go"
              refine ⟨_, _, putL m' to ((d : Int) + 1), ds' ++ [d + 1], rfl, same_upd (same_upd s5 hG) hW0, by rw [upd_ne npW, upd_ne npG]; exact hp5, by rw [upd_ne nGW, upd_same], ?_, M5.put I5.nd hd htw⟩
              rw [upd_same, List.map_append]
              simp
        · rintro σ H5 ⟨v6, v7, m', ds', rfl, s5, hp5, hG5, hW5, M5⟩
          have el2 : (strsV (letS lw bk z)).length = (letS lw bk z).length := List.length_map ..
          rw [el2, List.take_length, ← ev] at hW5 M5
          exact ⟨_, _, _, m', ds', rfl, s5, hG5, hW5, M5⟩
      · have es : bfsW lw bk st (i + 1) = bfsW lw bk st i := by
          show visW lw bk (bfsW lw bk st i) i = _
          exact vis_stay (by omega)
        walk_at "go"
        rw [es]
        exact ⟨_, _, _, m, ds, rfl, s3, hG3, hW3, M⟩
    · rintro σ H3 ⟨v5, v6, v7, m, ds, rfl, s3, hG3, hW3, M⟩
      rw [Int.toNat_natCast, ← hlw] at M
      walk_at "go"
      exact q H3 G m ds s3 hG hG3 M
theorem ok_l_breaks {f : Addr} {fd : FuncData} (F : Fun K "_law_breaks" "_law_breaks" s_l_breaks f fd) (Z_len : mg "len" = none) (Z_list : mg "list" = none) (Z_isinstance : mg "isinstance" = none) (C_l_let : Cal P w K mg base 2 "_law_let" ["_law_stands_here", "_law_book_here", "_law_stand_here"] spLet) (C_l_to : Cal P w K mg base 1 "_law_to" ["_law_stands_here", "_law_stand_here", "_law_step"] spToC) : FnOk P w K mg base CX0 3 f fd ["_law_stands_here", "_law_worths_here", "_law_level_here", "_law_book_here", "_law_start", "_law_run", "_law_many"] spBreaks := by
  refine F.ok sc_l_breaks (fun vs H Q E h => ?_) (fun cdv A outer s H vs Q E hr h => ?_)
  · obtain ⟨_, _, _, _, _, _, _, _, _, _, _, _, _, _, rfl, _⟩ := h
    rfl
  · obtain ⟨D, G, lvl, B, R, st, z, h, l, lw, wl, b, bk, run, rfl, hT, g, TS, hG, wok, hb, lok, hB, ok, hst, hR, hrl, hwk, hfin, hbel, q⟩ := h
    have hu := hu_of hr
    have gw := TS.good g
    have hstw : st ∈ lw.map (·.1) := TS.pm.mem_iff.mpr hst
    refine ⟨_, (pss_cons (ps_if (PW.pt (pw_or (pt_not (pt_val (pe_callB call_isi (by rfl) Z_isinstance (by decide +kernel) (pa_cons (pv 5) (pa_cons (pe_bltn (v := .ty "list") (by rfl) Z_list (by decide +kernel) rfl) pa_nil))))) (pw_or1 (pt_cmpR op_ne (pe_callB call_lenA (by rfl) Z_len (by decide +kernel) (pa_cons (pv 5) pa_nil)) (pv 6) (nomark _)))))
      (pss_one (ps_ret pe_bl))
      pss_nil)
      (pss_cons (ps_set (i := 7) sc_l_breaks.nd rfl (Or.inl rfl) (pv 4))
      (pss_cons (ps_for PassesOwn.never rfl (pi_list (pv 5)) (pg_name (i := 8) sc_l_breaks.nd rfl (Or.inl rfl))
      (pss_cons (ps_if (pt_cmpR op_notIn_seq (pv 8) (pe_cal C_l_let (hr.mono (by decide)) (by rfl) (pa_cons (pv 0) (pa_cons (pv 3) (pa_cons (pv 7) pa_nil)))) rfl)
      (pss_one (ps_ret pe_bl))
      pss_nil)
      (pss_one (ps_set (i := 7) sc_l_breaks.nd rfl (Or.inl rfl) (pe_cal C_l_to (hr.mono (by decide)) (by rfl) (pa_cons (pv 0) (pa_cons (pv 7) (pa_cons (pv 8) pa_nil))))))))
      (pss_one (ps_ret (pe_and (pe_cmpR op_eq (pe_ix ix_tup (pe_dget hu (pv 0) (pv 7) (fun _ _ => rfl)) pe_int (fun _ _ => rfl)) pe_str (nomark _)) (pe_one (pe_cmpR op_lt (pe_op op_mulA (pe_dget hu (pv 1) (pv 7) (fun _ _ => rfl)) (pe_ix ix_tup (pv 2) pe_int (fun _ _ => rfl))) (pe_ix ix_tup (pv 2) pe_int (fun _ _ => rfl)) (nomark _))))))))), ?_⟩
    walk_at "go"
    refine x_isiList (.lst (SqL.of hR)) ?_
    walk_at "go"
    refine x_nT ?_
    walk_at "go"
    refine x_nyes (by rw [List.length_map]) ?_
    walk_at "go"
    refine lpL (xs := strsV run) (fun i σ H' => ∃ (y : Str) (v8 : Option V), σ = [some (.ref D), some (.ref G), some (.ref lvl), some (.ref B), some (.str st), some (.ref R), some (.int run.length), some (.str y), v8] ∧ L2.Same H H' ∧ wlk lw bk st (run.take i) = some y ∧ y ∈ lw.map (·.1)) (SqL.of hR) ?_ ?_ ?_ ?_
    · exact ⟨st, _, rfl, L2.Same.refl _, by rw [List.take_zero]; rfl, hstw⟩
    · exact fun i σ H' _ ⟨_, _, _, s1, _⟩ => SqL.of (s1 _ _ hR)
    · rintro i v σ H1 hv ⟨y, v8, rfl, s1, hy, hyw⟩
      rw [List.getElem?_map] at hv
      cases hs : run[i]? with
      | none => rw [hs] at hv; cases hv
      | some sp =>
        rw [hs] at hv
        have ex : V.str sp = v := Option.some.inj hv
        subst ex
        obtain ⟨y', t, h1, h2, h3, h4⟩ := wlk_at i sp hwk hs
        rw [hy] at h1
        cases h1
        have hyl : y ∈ l.map (·.1) := TS.pm.mem_iff.mp hyw
        obtain ⟨x, hx⟩ := lookup_isSome hyl
        walk_at "go"
        refine ⟨D, B, y, h, l, lw, bk, rfl, TabRd.of (hT.same s1), g, TS, hB.imp s1 fun _ _ h => s1 _ _ h, hyl, fun H2 p s2 hp hp2 => ?_⟩
        have s12 := s1.trans s2
        refine x_ninL (ws := letS lw bk y) (SqL.of hp2) ?_
        walk_at "go"
        refine x_nyes h2 ?_
        walk_at "go"
        refine ⟨D, y, sp, t, l, x, rfl, TabRd.of (hT.same s12), hx, by rw [← toAt_w g TS hx]; exact h3, ?_⟩
        walk_at "go"
        refine ⟨t, _, rfl, s12, h4, ?_⟩
        obtain ⟨x2, hx2, ht2⟩ := toAt_some h3
        exact toS_in (gw.sd y x2 hx2) ht2
    · rintro σ H1 ⟨y, v8, rfl, s1, hy, hyw⟩
      rw [List.length_map, List.take_length, hwk] at hy
      cases hy
      obtain ⟨m, hm, hmk, hme⟩ := (hT.same s1).ex
      have hzm : z ∈ m.map (·.1) := by rw [hmk]; exact List.mem_map.mpr ⟨_, lookup_mem hfin, rfl⟩
      obtain ⟨ra, hra⟩ := lookup_isSome hzm
      obtain ⟨x, hx, hxa⟩ := hme z ra (lookup_mem hra)
      rw [hfin] at hx
      cases hx
      have hra1 : H1 ra = some (.tup [.str "end"]) := hxa
      have hb1 : H1 lvl = some (.tup [.int b.1, .int b.2]) := s1 _ _ hb
      walk_at "go"
      refine x_getL (l := m) (.inl hm) hra ?_
      walk_at "go"
      refine x_ixt 0 (SqT.of hra1) rfl rfl ?_
      walk_at "go"
      refine x_T ?_
      unfold belowB at hbel
      cases e : wl.lookup z with
      | none => rw [e] at hbel; cases hbel
      | some v =>
        rw [e] at hbel
        have hvb : -99 ≤ v ∧ v ≤ 99 := wok.bd (z, v) (lookup_mem e)
        have l1 := lok.d1
        have l2 := lok.d2
        walk_at "go"
        refine x_getL (l := wl) (f := V.int) (.inl (s1 _ _ hG)) e ?_
        walk_at "go"
        refine x_ixt 1 (SqT.of hb1) rfl rfl ?_
        walk_at "go"
        refine x_ixt 0 (SqT.of hb1) rfl rfl ?_
        walk_at "go"
        have hbel : decide (v * b.2 < b.1) = true := hbel
        rw [hbel]
        exact q _ s1
end
/-! ### k70: asked, all of it -/
structure Fx (CW CI : Addr) (H : Hp) (a s D G lvl B : Addr) (st : Str) (h e : Int) (l lw : List (Str × Sd)) (wl : List (Str × Int)) (b : Int × Int) (bk : List (Str × List Str)) : Prop where
  wk : WorkAt CW H a h st lw
  wi : WishAt CI H s wl e
  tab : DictOf SdAt H D l
  g : GoodT h l
  ts : TabSort l lw
  hG : H G = some (.dK (strK V.int wl))
  iff : ∀ z, z ∈ wl.map (·.1) ↔ l.lookup z = some .fin
  nw : (wl.map (·.1)).Nodup
  wo : WorthsOk wl
  lv : FrAt H lvl b
  lo : LvOk b
  hB : DictOf RwAt H B bk
  nb : (bk.map (·.1)).Nodup
  bo : BookOk l bk
  st : st ∈ l.map (·.1)
section
variable {CW CI : Addr} {H H' : Hp} {a s D G lvl B : Addr} {st : Str} {h e : Int} {l lw : List (Str × Sd)} {wl : List (Str × Int)} {b : Int × Int} {bk : List (Str × List Str)}
theorem Fx.same (f : Fx CW CI H a s D G lvl B st h e l lw wl b bk) (sm : L2.Same H H') : Fx CW CI H' a s D G lvl B st h e l lw wl b bk :=
  ⟨f.wk.same sm, f.wi.same sm, f.tab.same sm, f.g, f.ts, sm _ _ f.hG, f.iff, f.nw, f.wo, sm _ _ f.lv, f.lo, f.hB.imp sm fun _ _ h => sm _ _ h, f.nb, f.bo, f.st⟩
theorem Fx.gw (f : Fx CW CI H a s D G lvl B st h e l lw wl b bk) : GoodT h lw := f.ts.good f.g
theorem Fx.bw (f : Fx CW CI H a s D G lvl B st h e l lw wl b bk) : BookOk lw bk := bookok_sort f.ts f.bo
theorem Fx.su (f : Fx CW CI H a s D G lvl B st h e l lw wl b bk) : Suits lw wl := suits_sort f.ts f.nw f.iff
theorem Fx.srt (f : Fx CW CI H a s D G lvl B st h e l lw wl b bk) : ∀ z x, lw.lookup z = some x → SrtSd x := fun z x hx => by
  obtain ⟨_, _, hs⟩ := f.ts.sd z x hx
  exact sort_srt hs
theorem Fx.stw (f : Fx CW CI H a s D G lvl B st h e l lw wl b bk) : st ∈ lw.map (·.1) := f.ts.pm.mem_iff.mpr f.st
theorem Fx.ok (f : Fx CW CI H a s D G lvl B st h e l lw wl b bk) : WaysOk lw bk st (bfsW lw bk st lw.length) := bfs_ok f.gw f.bw f.stw
end
/-- what a run that breaks is -/
def Brk (lw : List (Str × Sd)) (bk : List (Str × List Str)) (st : Str) (wl : List (Str × Int)) (b : Int × Int) (i : Nat) (z : Str) : Prop := nmAt (bfsW lw bk st lw.length) i = some z ∧ belowB wl b z = true ∧ ∀ (j : Nat) y, j < i → nmAt (bfsW lw bk st lw.length) j = some y → belowB wl b y = false
def allUp (lw : List (Str × Sd)) (bk : List (Str × List Str)) (st : Str) (wl : List (Str × Int)) (b : Int × Int) : Prop := ∀ z, Rch lw bk st z → belowB wl b z = false
theorem brk_not {lw : List (Str × Sd)} {bk : List (Str × List Str)} {st : Str} {wl : List (Str × Int)} {b : Int × Int} {i : Nat} {z : Str} (W : WaysOk lw bk st (bfsW lw bk st lw.length)) (k : Brk lw bk st wl b i z) : ¬ allUp lw bk st wl b := fun h => by
  have := h z ((ways_iff W z).mp (nm_mem k.1))
  rw [k.2.1] at this
  cases this
theorem walk_kz {α : Type} {f : α → V} {l : List (Str × α)} {d : Addr} {o : Obj} : L2.Walk (Itk d o (strK f l)) ((l.map (·.1)).map V.str).length (fun H => H d = some (.frz o (.dK (strK f l)))) (L2.YAt ((l.map (·.1)).map V.str)) := by
  have el : ((l.map (·.1)).map V.str).length = (strK f l).length := by rw [List.length_map, List.length_map, List.length_map]
  rw [el]
  refine L2.Walk.mono L2.walk_keys (fun _ h => h) fun i H x H' hi _ y => ⟨y.1, ?_⟩
  obtain ⟨_, k, v, hk, rfl⟩ := y
  obtain ⟨z, u, rfl, rfl, hz⟩ := strK_at hk
  rw [List.getElem?_map, List.getElem?_map, hz]
  rfl
def spSame : Sp := fun vs H Q _ => ∃ b : Bool, vs = [.bl b, .bl b] ∧ Q (.bl true) H
def spAsked (CW CI : Addr) : Sp := fun vs H Q _ => ∃ (a s D G lvl B : Addr) (st : Str) (h e : Int) (l lw : List (Str × Sd)) (wl : List (Str × Int)) (b : Int × Int) (bk : List (Str × List Str)), vs = [.ref a, .ref s, .ref D, .ref G, .ref lvl, .ref B, .str st] ∧ Fx CW CI H a s D G lvl B st h e l lw wl b bk ∧ ∀ H', L2.Same H H' → Q (.bl true) H'
section
variable {P : Program} {w : World} {K : PySem.W.Frag} {mg : Str → Option Value} {base : Heap} {CW C : Addr}
/-- breaking, asked with its facts -/
theorem ask_breaking {H : Hp} {Q : VK} {E : XK} {a s D G lvl B : Addr} {st : Str} {h e : Int} {l lw : List (Str × Sd)} {wl : List (Str × Int)} {b : Int × Int} {bk : List (Str × List Str)} (f : Fx CW C H a s D G lvl B st h e l lw wl b bk)
    (q0 : allUp lw bk st wl b → ∀ H', L2.Same H H' → Q .non H') (q1 : ∀ i z, Brk lw bk st wl b i z → ∀ H' p, L2.Same H H' → H p = none → H' p = some (.lst (strsV (wayTo (bfsW lw bk st lw.length) (i + 1) i))) → Q (.ref p) H') : spBreaking CW C [.ref a, .ref s, .ref lvl, .ref B] H Q E := by
  refine ⟨a, s, lvl, B, h, e, st, lw, wl, b, bk, rfl, f.wk, f.wi, f.gw, f.su, f.wo, f.srt, f.lv, f.lo, f.hB, f.nb, f.bw, f.stw, fun ws W => ?_⟩
  obtain rfl := ways_one W f.ok
  refine ⟨fun hno H' s' => q0 (fun z hz => hno z ((ways_iff W z).mpr hz)) H' s', fun i z o hi hb hmin H' p s' hp hp' => q1 i z ⟨nm_of hi, hb, hmin⟩ H' p s' hp hp'⟩
theorem ask_keeps {H : Hp} {Q : VK} {E : XK} {a s D G lvl B : Addr} {st : Str} {h e : Int} {l lw : List (Str × Sd)} {wl : List (Str × Int)} {b : Int × Int} {bk : List (Str × List Str)} (f : Fx CW C H a s D G lvl B st h e l lw wl b bk)
    (q : ∀ k : Bool, (k = true ↔ allUp lw bk st wl b) → ∀ H', L2.Same H H' → Q (.bl k) H') : spKeeps CW C [.ref a, .ref s, .ref lvl, .ref B] H Q E :=
  ⟨a, s, lvl, B, h, e, st, lw, wl, b, bk, rfl, f.wk, f.wi, f.gw, f.su, f.wo, f.srt, f.lv, f.lo, f.hB, f.nb, f.bw, f.stw, q⟩
theorem ask_kept {H : Hp} {Q : VK} {E : XK} {a s D G lvl B : Addr} {st : Str} {h e : Int} {l lw : List (Str × Sd)} {wl : List (Str × Int)} {b : Int × Int} {bk : List (Str × List Str)} (f : Fx CW C H a s D G lvl B st h e l lw wl b bk)
    (q0 : ¬ allUp lw bk st wl b → ∀ H', L2.Same H H' → Q .non H') (q1 : allUp lw bk st wl b → ∀ H' p ys, L2.Same H H' → H p = none → H' p = some (.lst (strsV ys)) → (∀ z, z ∈ ys ↔ Rch lw bk st z) → ys.Nodup → sortedS ys = true → Q (.ref p) H') : spKept CW C [.ref a, .ref s, .ref lvl, .ref B] H Q E :=
  ⟨a, s, lvl, B, h, e, st, lw, wl, b, bk, rfl, f.wk, f.wi, f.gw, f.su, f.wo, f.srt, f.lv, f.lo, f.hB, f.nb, f.bw, f.stw, q0, q1⟩
theorem ok_l_same {f : Addr} {fd : FuncData} (F : Fun K "_law_same" "_law_same" s_l_same f fd) (Z_isinstance : mg "isinstance" = none) (Z_bool : mg "bool" = none) : FnOk P w K mg base CX0 1 f fd ["_law_told", "_law_expected"] spSame := by
  refine F.ok sc_l_same (fun vs H Q E h => ?_) (fun cdv A outer s H vs Q E hr h => ?_)
  · obtain ⟨_, rfl, _⟩ := h
    rfl
  · obtain ⟨b, rfl, q⟩ := h
    refine ⟨_, (pss_one (ps_ret (pe_and (pe_callB call_isi (by rfl) Z_isinstance (by decide +kernel) (pa_cons (pv 0) (pa_cons (pe_bltn (v := .ty "bool") (by rfl) Z_bool (by decide +kernel) rfl) pa_nil))) (pe_one (pe_cmpR (op_eqD hr.units) (pv 0) (pv 1) (nomark _)))))), ?_⟩
    walk_at "go"
    refine x_isiBool (.bl b) ?_
    walk_at "go"
    refine x_T ?_
    walk_at "go"
    exact ⟨_, _, .bl b, .bl b, rfl, rfl, by rw [SeqAt.eqv_refl (.bool b) rfl]; exact q⟩
set_option maxHeartbeats 20000000 in
theorem ok_l_asked {f : Addr} {fd : FuncData} (F : Fun K "_law_asked" "_law_asked" s_l_asked f fd) (Z_len : mg "len" = none) (Z_list : mg "list" = none) (Z_min : mg "min" = none) (Z_sorted : mg "sorted" = none) (Z_isinstance : mg "isinstance" = none)
    (C_l_reached : Cal P w K mg base 3 "_law_reached" ["_law_stands_here", "_law_book_here", "_law_start"] spReached) (C_l_same : Cal P w K mg base 1 "_law_same" ["_law_told", "_law_expected"] spSame) (C_keeps : Cal P w K mg base 6 "keeps" ["work", "wish", "level", "book"] (spKeeps CW C)) (C_breaking : Cal P w K mg base 5 "breaking" ["work", "wish", "level", "book"] (spBreaking CW C))
    (C_kept_stands : Cal P w K mg base 7 "kept_stands" ["work", "wish", "level", "book"] (spKept CW C)) (C_l_breaks : Cal P w K mg base 3 "_law_breaks" ["_law_stands_here", "_law_worths_here", "_law_level_here", "_law_book_here", "_law_start", "_law_run", "_law_many"] spBreaks) : FnOk P w K mg base CX0 8 f fd ["_law_work", "_law_wish", "_law_stands_here", "_law_worths_here", "_law_level_here", "_law_book_here", "_law_start"] (spAsked CW C) := by
  refine F.ok sc_l_asked (fun vs H Q E h => ?_) (fun cdv A outer s H vs Q E hr h => ?_)
  · obtain ⟨_, _, _, _, _, _, _, _, _, _, _, _, _, _, rfl, _⟩ := h
    rfl
  · obtain ⟨a, s, D, G, lvl, B, st, h, e, l, lw, wl, b, bk, rfl, fx, q⟩ := h
    have hu := hu_of hr
    have W := fx.ok
    have WI := W.inv
    refine ⟨_, (pss_cons (ps_set (i := 7) sc_l_asked.nd rfl (Or.inr rfl) (pe_cal C_l_reached (hr.mono (by decide)) (by rfl) (pa_cons (pv 2) (pa_cons (pv 5) (pa_cons (pv 6) pa_nil)))))
      (pss_cons (ps_lock (ps_setLc (i := 8) (own := [("_law_end", 11)]) (g := gName 11)  (by rfl) sc_l_asked.nd rfl rfl (sw_true rfl rfl rfl (by decide +kernel)) (pi_keys (pv 3)) (blkOk_by (own := [("_law_end", 11)]) (N := N_l_asked) (sc := defScope s_l_asked) (by decide +kernel)) (fun _ _ _ _ _ => (pg_name (i := 11) sc_l_asked.nd rfl (Or.inl rfl))) (fun _ _ _ _ _ => by exact (pts_one (PW.pt (pw_and (pt_cmp (pc_din hu (pv 11) (pv 7))) (pw_and1 (pt_cmpR op_lt (pe_op op_mulA (pe_dget hu (pv 3) (pv 11) (fun _ _ => rfl)) (pe_ix (ix_tupK (K := K)) (pv 4) pe_int (fun _ _ => rfl))) (pe_ix (ix_tupK (K := K)) (pv 4) pe_int (fun _ _ => rfl)) (nomark _))))))) (fun _ _ _ _ _ => by exact (pe_dget hu (pv 7) (pv 11) (fun _ _ => rfl)))))
      (pss_cons (ps_if (pt_not (pt_val (pe_cal C_l_same (hr.mono (by decide)) (by rfl) (pa_cons (pe_cal C_keeps (hr.mono (by decide)) (by rfl) (pa_cons (pv 0) (pa_cons (pv 1) (pa_cons (pv 4) (pa_cons (pv 5) pa_nil))))) (pa_cons (pe_cmpR op_eq (pe_callB call_lenA (by rfl) Z_len (by decide +kernel) (pa_cons (pv 8) pa_nil)) pe_int (nomark _)) pa_nil)))))
      (pss_one (ps_ret pe_bl))
      pss_nil)
      (pss_cons (ps_set (i := 9) sc_l_asked.nd rfl (Or.inl rfl) (pe_cal C_breaking (hr.mono (by decide)) (by rfl) (pa_cons (pv 0) (pa_cons (pv 1) (pa_cons (pv 4) (pa_cons (pv 5) pa_nil))))))
      (pss_cons (ps_set (i := 10) sc_l_asked.nd rfl (Or.inl rfl) (pe_cal C_kept_stands (hr.mono (by decide)) (by rfl) (pa_cons (pv 0) (pa_cons (pv 1) (pa_cons (pv 4) (pa_cons (pv 5) pa_nil))))))
      (pss_cons (ps_if (pt_cmpR op_eq (pe_callB call_lenA (by rfl) Z_len (by decide +kernel) (pa_cons (pv 8) pa_nil)) pe_int (nomark _))
      (pss_one (ps_ret (pe_and (pe_cmpR op_isNA (pv 9) pe_non (nomark _)) (pe_and (pe_callB call_isi (by rfl) Z_isinstance (by decide +kernel) (pa_cons (pv 10) (pa_cons (pe_bltn (v := .ty "list") (by rfl) Z_list (by decide +kernel) rfl) pa_nil))) (pe_one (pe_cmpR (op_eqD hr.units) (pv 10) (pe_callB (call_sortedDA rfl) (by rfl) Z_sorted (by decide +kernel) (pa_cons (pv 7) pa_nil)) (nomark _)))))))
      pss_nil)
      (pss_one (ps_ret (pe_and (pe_cmpR op_isNA (pv 10) pe_non (nomark _)) (pe_one (pe_cal C_l_breaks (hr.mono (by decide)) (by rfl) (pa_cons (pv 2) (pa_cons (pv 3) (pa_cons (pv 4) (pa_cons (pv 5) (pa_cons (pv 6) (pa_cons (pv 9) (pa_cons (pe_callB (cr_min rfl) (by rfl) Z_min (by decide +kernel) (pa_cons (pv 8) pa_nil)) pa_nil)))))))))))))))))), ?_⟩
    walk_at "go"
    refine ⟨D, B, st, h, l, lw, bk, rfl, fx.tab, fx.g, fx.ts, fx.hB, fx.bw, fx.st, fun H1 P m ds s1 hP hP1 M => ?_⟩
    have fx1 := fx.same s1
    have hG1 := fx1.hG
    have nPG : P ≠ G := ne_of_none (by exact fx.hG) hP |>.symm
    have mK : m.map (·.1) = (bfsW lw bk st lw.length).map (·.1) := M.keys
    walk_at "go"
    refine x_lock hG1 trivial (fun od => ?_)
    walk_at "go"
    refine runK upd_same ?_
    intro Dl hDl
    have lvF : (upd H1 G (.frz od (.dK (strK V.int wl)))) lvl = some (.tup [.int b.1, .int b.2]) := by
      rw [upd_ne (ne_of fx1.lv hG1 (by intro z; cases z))]
      exact fx1.lv
    have PF : (upd H1 G (.frz od (.dK (strK V.int wl)))) P = some (.dK (strK V.int m)) := by rw [upd_ne nPG]; exact hP1
    have GF : (upd H1 G (.frz od (.dK (strK V.int wl)))) G = some (.frz od (.dK (strK V.int wl))) := upd_same
    have back : ∀ H', L2.Same (upd H1 G (.frz od (.dK (strK V.int wl)))) H' → L2.Same H1 (upd H' G (.dK (strK V.int wl))) := fun H' s => same_back hG1 s
    have nDG : Dl ≠ G := fun z => by rw [z, upd_same] at hDl; cases hDl
    generalize upd H1 G (.frz od (.dK (strK V.int wl))) = HF at lvF PF GF back hDl
    have wol := fx.wo.len
    refine lcFM (as := wl.map (·.1)) (c := V.str) walk_kz (fun H' s' => s' _ _ GF) hDl (fun z => (m.lookup z).isSome && belowB wl b z) (fun z => V.int ((m.lookup z).getD 0)) (by rw [List.length_map]; omega) (fun z hz H' s' R hR => ?_) (fun z hz hp H' s' Qk hQk => ?_) fun H3 s3 hD3 => ?_
    · obtain ⟨v, hv⟩ := lookup_isSome hz
      have hvb : -99 ≤ v ∧ v ≤ 99 := fx.wo.bd (z, v) (lookup_mem hv)
      have l1 := fx.lo.d1
      walk_at "go"
      refine x_inD (l := m) (f := V.int) (.inl (s' _ _ PF)) ?_
      walk_at "go"
      cases em : m.lookup z with
      | none =>
        rw [em] at hR
        refine x_F ?_
        exact hR _ fun _ _ h => h
      | some d =>
        rw [em] at hR
        refine x_T ?_
        walk_at "go"
        refine x_getL (l := wl) (f := V.int) (.inr ⟨od, s' _ _ GF⟩) hv ?_
        walk_at "go"
        refine x_ixt 1 (SqT.of (s' _ _ lvF)) rfl rfl ?_
        walk_at "go"
        refine x_ixt 0 (SqT.of (s' _ _ lvF)) rfl rfl ?_
        walk_at "go"
        have eb : belowB wl b z = decide (v * b.2 < b.1) := by
          unfold belowB
          rw [hv]
        rw [eb] at hR
        exact hR _ fun _ _ h => h
    · cases em : m.lookup z with
      | none => rw [em] at hp; cases hp
      | some d =>
        rw [em] at hQk
        walk_at "go"
        refine x_getL (l := m) (f := V.int) (.inl (s' _ _ PF)) em ?_
        exact hQk _ fun _ _ h => h
    · refine ⟨s3 _ _ GF, ?_⟩
      have sB := back _ s3
      have hD4 : (upd H3 G (.dK (strK V.int wl))) Dl = some (.lst (((wl.map (·.1)).filter fun z => (m.lookup z).isSome && belowB wl b z).map fun z => V.int ((m.lookup z).getD 0))) := by rw [upd_ne nDG]; exact hD3
      generalize upd H3 G (.dK (strK V.int wl)) = H4 at sB hD4
      have eL : (((wl.map (·.1)).filter fun z => (m.lookup z).isSome && belowB wl b z).map fun z => V.int ((m.lookup z).getD 0)) = ((((wl.map (·.1)).filter fun z => (m.lookup z).isSome && belowB wl b z).map fun z => (m.lookup z).getD 0)).map V.int := (List.map_map ..).symm
      have memL : ∀ d : Int, d ∈ (((wl.map (·.1)).filter fun z => (m.lookup z).isSome && belowB wl b z).map fun z => (m.lookup z).getD 0) ↔ ∃ z, m.lookup z = some d ∧ belowB wl b z = true := by
        intro d
        constructor
        · intro hd
          obtain ⟨z, hz, e⟩ := List.mem_map.mp hd
          obtain ⟨_, h2⟩ := List.mem_filter.mp hz
          obtain ⟨h3, h4⟩ := Bool.and_eq_true_iff.mp h2
          obtain ⟨d', hd'⟩ := Option.isSome_iff_exists.mp h3
          rw [hd'] at e
          cases e
          exact ⟨z, hd', h4⟩
        · rintro ⟨z, h1, h2⟩
          have hz : z ∈ wl.map (·.1) := by
            unfold belowB at h2
            cases e : wl.lookup z with
            | none => rw [e] at h2; cases h2
            | some v => exact List.mem_map.mpr ⟨_, lookup_mem e, rfl⟩
          refine List.mem_map.mpr ⟨z, List.mem_filter.mpr ⟨hz, ?_⟩, by rw [h1]; rfl⟩
          rw [h1, h2]
          rfl
      rw [eL] at hD4
      generalize (((wl.map (·.1)).filter fun z => (m.lookup z).isSome && belowB wl b z).map fun z => (m.lookup z).getD 0) = lows at hD4 memL
      have inM : ∀ z, Rch lw bk st z ↔ ∃ i d, nmAt (bfsW lw bk st lw.length) i = some z ∧ ds[i]? = some d ∧ m.lookup z = some (d : Int) := fun z => by
        rw [← ways_iff W z]
        constructor
        · intro hz
          obtain ⟨i, o, hi⟩ := nm_ex hz
          have hlt := (List.getElem?_eq_some_iff.mp hi).1
          obtain ⟨d, hd⟩ : ∃ d, ds[i]? = some d := ⟨_, List.getElem?_eq_getElem (by rw [M.dep.len]; exact hlt)⟩
          exact ⟨i, d, nm_of hi, hd, M.at_ i z d (nm_of hi) hd⟩
        · rintro ⟨i, d, hi, _, _⟩
          exact nm_mem hi
      have inM2 : ∀ z d, m.lookup z = some d → Rch lw bk st z := fun z d hz => by
        rw [← ways_iff W z, ← mK]
        exact List.mem_map.mpr ⟨_, lookup_mem hz, rfl⟩
      have emp : lows.length = 0 ↔ allUp lw bk st wl b := by
        constructor
        · intro h0 z hz
          cases eb : belowB wl b z with
          | false => rfl
          | true =>
            obtain ⟨i, d, _, _, hd⟩ := (inM z).mp hz
            have := (memL d).mpr ⟨z, hd, eb⟩
            rw [List.length_eq_zero_iff.mp h0] at this
            cases this
        · intro hall
          cases lows with
          | nil => rfl
          | cons d r =>
            obtain ⟨z, h1, h2⟩ := (memL d).mp List.mem_cons_self
            rw [hall z (inM2 z d h1)] at h2
            cases h2
      have fx4 := fx1.same sB
      walk_at "go"
      refine ask_keeps fx4 fun k hk H5 s5 => ?_
      walk_at "go"
      refine x_lenL (SqL.of (s5 _ _ hD4)) ?_
      walk_at "go"
      rw [List.length_map]
      have ek : decide ((lows.length : Int) = 0) = k := by
        rcases Bool.eq_false_or_eq_true k with e | e
        · rw [e]
          exact decide_eq_true (by have := emp.mpr (hk.mp e); omega)
        · rw [e]
          refine decide_eq_false fun h0 => ?_
          have := hk.mpr (emp.mp (by omega))
          rw [e] at this
          cases this
      rw [ek]
      refine ⟨k, rfl, ?_⟩
      walk_at "go"
      have fx5 := fx4.same s5
      have hD5 := s5 _ _ hD4
      refine ask_breaking fx5 (fun hall H6 s6 => ?_) (fun i z kb H6 R s6 hR0 hR => ?_)
      · have fx6 := fx5.same s6
        have hD6 := s6 _ _ hD5
        have P6 : H6 P = some (.dK (strK V.int m)) := s6 _ _ (s5 _ _ (sB _ _ hP1))
        walk_at "go"
        refine ask_kept fx6 (fun hn => absurd hall hn) fun _ H7 Y ys s7 hY0 hY hyi hyn hys => ?_
        walk_at "go"
        refine x_lenL (SqL.of (s7 _ _ hD6)) ?_
        walk_at "go"
        rw [List.length_map]
        refine x_yes (by have := emp.mpr hall; omega) ?_
        walk_at "go"
        refine x_yes rfl ?_
        walk_at "go"
        refine x_isiList (.lst (SqL.of hY)) ?_
        walk_at "go"
        refine x_T ?_
        walk_at "go"
        have ekk : (strK V.int m).map (·.1) = (m.map (·.1)).map Sum.inr := by rw [List.map_map, List.map_map]; rfl
        have nml : (m.map (·.1)).length ≤ 100 := by
          rw [mK, List.length_map]
          have := WI.len
          have := fx.ts.len
          have := fx.g.l2
          omega
        refine ⟨P, _, m.map (·.1), rfl, .inl (s7 _ _ P6), ekk, by omega, fun zs p hperm hsort hp => ?_⟩
        have ezs : ys = zs := by
          refine sorted_one hys hsort ?_
          refine List.Perm.trans ?_ hperm.symm
          rw [mK]
          refine (List.perm_ext_iff_of_nodup hyn WI.nd).mpr fun z => ?_
          rw [hyi z, ways_iff W z]
        have okS : ∀ z ∈ ys, PyData.strOk z = true := fun z hz => by
          have : z ∈ lw.map (·.1) := WI.sub z ((ways_iff W z).mpr ((hyi z).mp hz))
          exact NameS.ok (fx.gw.nm z this)
        refine x_eqLS (SqL.of (same_new hp _ _ hY)) (SqL.of upd_same) okS (by rw [← ezs]; exact okS) ?_
        rw [decide_eq_true ezs]
        exact q _ ((((s1.trans sB).trans s5).trans s6).trans (s7.trans (same_new hp)))
      · have fx6 := fx5.same s6
        have hD6 := s6 _ _ hD5
        have nall := brk_not W kb
        have nz : lows.length ≠ 0 := fun h0 => nall (emp.mp h0)
        walk_at "go"
        refine ask_kept fx6 (fun _ H7 s7 => ?_) fun hall => absurd hall nall
        have fx7 := fx6.same s7
        have hD7 := s7 _ _ hD6
        have hR7 := s7 _ _ hR
        walk_at "go"
        rw [List.length_map]
        refine x_no (by omega) ?_
        walk_at "go"
        refine x_yes rfl ?_
        walk_at "go"
        refine ⟨Dl, lows, rfl, SqL.of hD7, by omega, fun mm hm hle => ?_⟩
        obtain ⟨hi, hb, hmin⟩ := kb
        have di := dep_way WI M.dep i z hi
        have mi := M.at_ i z _ hi di
        have hin : ((wayTo (bfsW lw bk st lw.length) (i + 1) i).length : Int) ∈ lows := (memL _).mpr ⟨z, mi, hb⟩
        have e1 : mm = ((wayTo (bfsW lw bk st lw.length) (i + 1) i).length : Int) := by
          refine Int.le_antisymm (hle _ hin) ?_
          obtain ⟨z', h1, h2⟩ := (memL mm).mp hm
          obtain ⟨i', d', g1, g2, g3⟩ := (inM z').mp (inM2 z' mm h1)
          rw [h1] at g3
          cases g3
          have hii : i ≤ i' := by
            rcases Nat.lt_or_ge i' i with c | c
            · rw [hmin i' z' c g1] at h2
              cases h2
            · exact c
          have := dep_mono WI M.dep i i' _ d' hii di g2
          omega
        subst e1
        have hwk := way_wlk WI i z hi
        have hfw : lw.lookup z = some .fin := (fx.su.iff z).mp (by
          unfold belowB at hb
          cases e : wl.lookup z with
          | none => rw [e] at hb; cases hb
          | some v => exact List.mem_map.mpr ⟨_, lookup_mem e, rfl⟩)
        have hf : l.lookup z = some .fin := by
          obtain ⟨x, hx, hs⟩ := fx.ts.sd z _ hfw
          rw [hx, (sort_fin hs).mp rfl]
        have hwl := wayTo_len (bfsW lw bk st lw.length) (i + 1) i
        have hil := nm_lt hi
        have := WI.len
        have := fx.ts.len
        have := fx.g.l2
        refine ⟨D, G, lvl, B, R, st, z, h, l, lw, wl, b, bk, _, rfl, fx7.tab, fx7.g, fx7.ts, fx7.hG, fx7.wo, fx7.lv, fx7.lo, fx7.hB, fx.bw, fx.st, hR7, by omega, hwk, hf, hb, fun H8 s8 => ?_⟩
        exact q _ ((((s1.trans sB).trans s5).trans s6).trans (s7.trans s8))
end
/-! ### k70: the first breach -/
def spFirst (K : PySem.W.Frag) (C : Addr) : Sp := fun vs H Q _ => ∃ (a B R : Addr) (h : Int) (st : Str) (l : List (Str × Sd)) (bk : List (Str × List Str)) (run ts : List Str), vs = [.ref a, .ref B, .ref R] ∧ WorkAt C H a h st l ∧ GoodT h l ∧ (∀ z x, l.lookup z = some x → SrtSd x) ∧ DictOf RwAt H B bk ∧ (bk.map (·.1)).Nodup ∧ BookOk l bk ∧
  H R = some (.lst (strsV run)) ∧ run.length ≤ 1000 ∧ Trail l st run ts ∧ (∀ (j : Nat) y, ts[j]? = some y → y ∈ l.map (·.1)) ∧
  (∀ (k : Nat) z s, run[k]? = some s → ts[k]? = some z → s ∉ letS l bk z → (∀ (j : Nat) y u, j < k → run[j]? = some u → ts[j]? = some y → u ∈ letS l bk y) → ∀ H' T, L2.Same H H' → H T = none → H' T = some (.tup [.int (k : Int), moverAt l z]) → Q (.ref T) H') ∧
  ((∀ (j : Nat) y u, run[j]? = some u → ts[j]? = some y → u ∈ letS l bk y) → ∀ H', L2.Same H H' → Q .non H')
def spKnown (CW CI : Addr) : Sp := fun vs H Q _ => ∃ (a s D G lvl B : Addr) (st : Str) (h e : Int) (l lw : List (Str × Sd)) (wl : List (Str × Int)) (b : Int × Int) (bk : List (Str × List Str)), vs = [.ref a, .ref s, .ref D, .ref lvl, .ref B] ∧ Fx CW CI H a s D G lvl B st h e l lw wl b bk ∧ ∀ H', L2.Same H H' → Q (.bl true) H'
theorem trail_cons {l : List (Str × Sd)} {z s t : Str} {run ts : List Str} (T : Trail l t run ts) (ht : toAt l z s = some t) : Trail l z (s :: run) (z :: ts) := by
  refine ⟨by rw [List.length_cons, List.length_cons, T.len], rfl, fun i s1 z1 h1 h2 => ?_⟩
  cases i with
  | zero =>
    have e1 : s = s1 := Option.some.inj h1
    have e2 : z = z1 := Option.some.inj h2
    subst e1 e2
    exact ⟨t, ht, T.at0⟩
  | succ i => exact T.step i s1 z1 h1 h2
theorem wlk_trail {l : List (Str × Sd)} {bk : List (Str × List Str)} : ∀ {run : List Str} {st y : Str}, wlk l bk st run = some y → ∃ ts, Trail l st run ts ∧ ts[run.length]? = some y
  | [], st, y, h => by
    cases h
    exact ⟨[st], ⟨rfl, rfl, fun i s z h => by cases i <;> cases h⟩, rfl⟩
  | a :: r, st, y, h => by
    have h2 : (if a ∈ letS l bk st then match toAt l st a with | some t => wlk l bk t r | none => none else none) = some y := h
    by_cases hm : a ∈ letS l bk st
    · rw [if_pos hm] at h2
      cases e : toAt l st a with
      | none => rw [e] at h2; cases h2
      | some u =>
        rw [e] at h2
        obtain ⟨ts, T, e2⟩ := wlk_trail (show wlk l bk u r = some y from h2)
        exact ⟨st :: ts, trail_cons T e, e2⟩
    · rw [if_neg hm] at h2
      cases h2
theorem trail_wlk {l : List (Str × Sd)} {bk : List (Str × List Str)} : ∀ {run ts : List Str} {st : Str}, Trail l st run ts → (∀ (j : Nat) y u, run[j]? = some u → ts[j]? = some y → u ∈ letS l bk y) → wlk l bk st run = ts[run.length]?
  | [], ts, st, T, _ => T.at0.symm
  | a :: r, ts, st, T, hl => by
    obtain ⟨t, h1, h2⟩ := T.step 0 a st rfl T.at0
    have hm := hl 0 st a rfl T.at0
    show (if a ∈ letS l bk st then match toAt l st a with | some t => wlk l bk t r | none => none else none) = _
    rw [if_pos hm, h1]
    cases ts with
    | nil => have := T.len; cases this
    | cons z0 ts =>
      have T2 : Trail l t r ts := ⟨by have := T.len; simp at this; exact this, h2, fun i s z g1 g2 => T.step (i + 1) s z g1 g2⟩
      show wlk l bk t r = ts[r.length]?
      exact trail_wlk T2 fun j y u g1 g2 => hl (j + 1) y u g1 g2
theorem trail_in {h : Int} {l : List (Str × Sd)} {st : Str} {run ts : List Str} (g : GoodT h l) (hst : st ∈ l.map (·.1)) (T : Trail l st run ts) : ∀ (i : Nat) (z : Str), ts[i]? = some z → z ∈ l.map (·.1)
  | 0, z, h => by
    rw [T.at0] at h
    cases h
    exact hst
  | i + 1, z, h => by
    have hi := (List.getElem?_eq_some_iff.mp h).1
    rw [T.len] at hi
    have hr : run[i]? = some (run[i]'(by omega)) := List.getElem?_eq_getElem _
    have ht : ts[i]? = some (ts[i]'(by rw [T.len]; omega)) := List.getElem?_eq_getElem _
    obtain ⟨t, h1, h2⟩ := T.step i _ _ hr ht
    rw [h] at h2
    cases h2
    obtain ⟨x, hx, hs⟩ := toAt_some h1
    exact toS_in (g.sd _ x hx) hs
theorem mv_dp {K : PySem.W.Frag} {H : Hp} (x : Sd) : ∃ d, Dp K H (moverV x) d ∧ SeqAt.shaped d = true := by
  cases x with
  | hand k l => exact ⟨.int k, .int k, rfl⟩
  | fin => exact ⟨.none, .non, rfl⟩
  | chance l => exact ⟨.none, .non, rfl⟩
section
variable {P : Program} {w : World} {K : PySem.W.Frag} {mg : Str → Option Value} {base : Heap} {CW C : Addr}
theorem ok_first_breach {f : Addr} {fd : FuncData} (F : Fun K "first_breach" "first_breach" s_first_breach f fd) (Z_enumerate : mg "enumerate" = none) (C_is_book : Cal P w K mg base 3 "is_book" ["work", "thing"] (spIsBook CW)) (C_passed : Cal P w K mg base 3 "passed" ["work", "run"] (spPassed K CW)) (C_movers : Cal P w K mg base 4 "movers" ["work", "run"] (spMovers K CW))
    (C_let_steps : Cal P w K mg base 3 "let_steps" ["work", "book", "stand"] (spLetSteps CW)) : FnOk P w K mg base CX0 5 f fd ["work", "book", "run"] (spFirst K CW) := by
  refine F.ok sc_first_breach (fun vs H Q E h => ?_) (fun cdv A outer s H vs Q E hr h => ?_)
  · obtain ⟨_, _, _, _, _, _, _, _, _, rfl, _⟩ := h
    rfl
  · obtain ⟨a, B, R, h, st, l, bk, run, ts, rfl, wa, g, so, hB, nb, bo, hR, hrl, T, tin, q1, q0⟩ := h
    refine ⟨_, (pss_cons (ps_if (pt_not (pt_val (pe_cal C_is_book (hr.mono (by decide)) (by rfl) (pa_cons (pv 0) (pa_cons (pv 1) pa_nil)))))
      (pss_one ps_never)
      pss_nil)
      (pss_cons (ps_set (i := 3) sc_first_breach.nd rfl (Or.inl rfl) (pe_cal C_passed (hr.mono (by decide)) (by rfl) (pa_cons (pv 0) (pa_cons (pv 2) pa_nil))))
      (pss_cons (ps_set (i := 4) sc_first_breach.nd rfl (Or.inl rfl) (pe_cal C_movers (hr.mono (by decide)) (by rfl) (pa_cons (pv 0) (pa_cons (pv 2) pa_nil))))
      (pss_cons (ps_for PassesOwn.never rfl (pi_enumT (by rfl) Z_enumerate (pa_cons (pv 2) pa_nil)) (pg_tup rfl (pgs_cons (pg_name (i := 5) sc_first_breach.nd rfl (Or.inl rfl)) (pgs_cons (pg_name (i := 6) sc_first_breach.nd rfl (Or.inl rfl)) pgs_nil)))
      (pss_one (ps_if (pt_cmpR op_notIn_seq (pv 6) (pe_cal C_let_steps (hr.mono (by decide)) (by rfl) (pa_cons (pv 0) (pa_cons (pv 1) (pa_cons (pe_ix ix_list (pv 3) (pv 5) (fun _ _ => rfl)) pa_nil)))) rfl)
      (pss_one (ps_ret (pe_tup (pa_cons (pv 5) (pa_cons (pe_ix ix_list (pv 4) (pv 5) (fun _ _ => rfl)) pa_nil)))))
      pss_nil)))
      (pss_one (ps_ret pe_non)))))), ?_⟩
    walk_at "go"
    refine ⟨a, B, h, st, l, bk, rfl, wa, g, so, hB, nb, bo, fun H1 s1 => ?_⟩
    walk_at "go"
    have hR1 := s1 _ _ hR
    refine ⟨a, R, h, st, l, run, ts, rfl, wa.same s1, g, so, .inl (SqL.of hR1), hrl, T, fun H2 S s2 hS0 hS => ?_⟩
    have s12 := s1.trans s2
    walk_at "go"
    refine ⟨a, R, h, st, l, run, ts, rfl, wa.same s12, g, so, .inl (SqL.of (s2 _ _ hR1)), hrl, T, fun H3 M s3 hM0 hM => ?_⟩
    have s13 := s12.trans s3
    have hS3 := s3 _ _ hS
    have hR3 := s3 _ _ (s2 _ _ hR1)
    walk_at "go"
    refine lpE (xs := strsV run) (fun i σ H' => ∃ v5 v6, σ = [some (.ref a), some (.ref B), some (.ref R), some (.ref S), some (.ref M), v5, v6] ∧ L2.Same H3 H' ∧ ∀ (j : Nat) y u, j < i → run[j]? = some u → ts[j]? = some y → u ∈ letS l bk y) ?_ ?_ ?_ ?_
    · exact .inl fun σ H' i _ ⟨_, _, _, s4, _⟩ => SqL.of (s4 _ _ hR3)
    · exact ⟨_, _, rfl, L2.Same.refl _, fun j y u hj => by omega⟩
    · rintro i v σ H4 TT hv ⟨v5, v6, rfl, s4, hl⟩ hT
      rw [List.getElem?_map] at hv
      cases hs : run[i]? with
      | none => rw [hs] at hv; cases hv
      | some sp =>
        rw [hs] at hv
        have ex : V.str sp = v := Option.some.inj hv
        subst ex
        have hi : i < run.length := (List.getElem?_eq_some_iff.mp hs).1
        obtain ⟨z, hz⟩ := T.get (i := i) (by omega)
        obtain ⟨x, hx⟩ := lookup_isSome (tin i z hz)
        have s5 : L2.Same H3 (upd H4 TT (.tup [.int (i : Nat), .str sp])) := s4.trans (same_new hT)
        refine x_g2 (SqT.of upd_same) ?_
        generalize upd H4 TT (.tup [.int (i : Nat), .str sp]) = H5 at s5 ⊢
        have s15 := s13.trans s5
        walk_at "go"
        refine x_ixl i (SqL.of (s5 _ _ hS3)) rfl (v := .str z) (by rw [List.getElem?_map, hz]; rfl) ?_
        walk_at "go"
        refine ⟨a, B, h, st, z, l, bk, x, rfl, wa.same s15, hx, g.sd z x hx, so z x hx, hB.imp s15 fun _ _ h => s15 _ _ h, fun H6 p s6 hp hp6 => ?_⟩
        refine x_ninL (ws := letS l bk z) (SqL.of hp6) ?_
        walk_at "go"
        refine x_ndec (fun hn => ?_) (fun hm => ?_)
        · have hM6 : H6 M = _ := s6 _ _ (s5 _ _ hM)
          walk_at "go"
          refine x_ixl i (SqL.of hM6) rfl (v := moverAt l z) (by rw [List.getElem?_map, List.getElem?_take_of_lt hi, hz]; rfl) ?_
          walk_at "go"
          refine ⟨sz_le (by simp), fun T7 nT7 => ?_⟩
          exact q1 i z sp hs hz hn hl _ T7 ((s15.trans s6).trans (same_new nT7)) ((s15.trans s6).free nT7) upd_same
        · walk_at "go"
          refine ⟨_, _, rfl, s5.trans s6, fun j y u hj g1 g2 => ?_⟩
          rcases Nat.lt_or_ge j i with c | c
          · exact hl j y u c g1 g2
          · have : j = i := by omega
            subst this
            rw [hs] at g1
            rw [hz] at g2
            cases g1
            cases g2
            exact hm
    · rintro σ H4 ⟨v5, v6, rfl, s4, hl⟩
      walk_at "go"
      refine q0 (fun j y u g1 g2 => hl j y u ?_ g1 g2) _ (s13.trans s4)
      rw [List.length_map]
      exact (List.getElem?_eq_some_iff.mp g1).1
set_option maxHeartbeats 20000000 in
theorem ok_l_known_breach {f : Addr} {fd : FuncData} (F : Fun K "_law_known_breach" "_law_known_breach" s_l_known_breach f fd) (K_Work : Cls K CW) (N1 : NoAttr K CW "start") (Z_len : mg "len" = none) (Z_tuple : mg "tuple" = none) (Z_isinstance : mg "isinstance" = none)
    (C_breaking : Cal P w K mg base 5 "breaking" ["work", "wish", "level", "book"] (spBreaking CW C)) (C_keeps : Cal P w K mg base 6 "keeps" ["work", "wish", "level", "book"] (spKeeps CW C)) (C_first_breach : Cal P w K mg base 5 "first_breach" ["work", "book", "run"] (spFirst K CW))
    (C_l_let : Cal P w K mg base 2 "_law_let" ["_law_stands_here", "_law_book_here", "_law_stand_here"] spLet) (C_l_to : Cal P w K mg base 1 "_law_to" ["_law_stands_here", "_law_stand_here", "_law_step"] spToC) (C_l_mover : Cal P w K mg base 1 "_law_mover" ["_law_stands_here", "_law_stand_here"] spMoverL) : FnOk P w K mg base CX0 7 f fd ["_law_work", "_law_wish", "_law_stands_here", "_law_level_here", "_law_book_here"] (spKnown CW C) := by
  refine F.ok sc_l_known_breach (fun vs H Q E h => ?_) (fun cdv A outer s H vs Q E hr h => ?_)
  · obtain ⟨_, _, _, _, _, _, _, _, _, _, _, _, _, _, rfl, _⟩ := h
    rfl
  · obtain ⟨a, s, D, G, lvl, B, st, h, e, l, lw, wl, b, bk, rfl, fx, q⟩ := h
    have hu := hu_of hr
    have W := fx.ok
    refine ⟨_, (pss_cons (ps_set (i := 5) sc_l_known_breach.nd rfl (Or.inl rfl) (pe_cal C_breaking (hr.mono (by decide)) (by rfl) (pa_cons (pv 0) (pa_cons (pv 1) (pa_cons (pv 3) (pa_cons pe_dnewK pa_nil))))))
      (pss_cons (ps_if (PW.pt (pw_or (pt_cmpR op_isNA (pv 5) pe_non (nomark _)) (pw_or1 (pt_not (pt_val (pe_cal C_keeps (hr.mono (by decide)) (by rfl) (pa_cons (pv 0) (pa_cons (pv 1) (pa_cons (pv 3) (pa_cons (pv 4) pa_nil))))))))))
      (pss_one (ps_ret pe_bl))
      pss_nil)
      (pss_cons (ps_set (i := 6) sc_l_known_breach.nd rfl (Or.inl rfl) (pe_cal C_first_breach (hr.mono (by decide)) (by rfl) (pa_cons (pv 0) (pa_cons (pv 4) (pa_cons (pv 5) pa_nil)))))
      (pss_cons (ps_if (PW.pt (pw_or (pt_not (pt_val (pe_callB call_isi (by rfl) Z_isinstance (by decide +kernel) (pa_cons (pv 6) (pa_cons (pe_bltn (v := .ty "tuple") (by rfl) Z_tuple (by decide +kernel) rfl) pa_nil))))) (pw_or1 (pt_cmpR op_ne (pe_callB call_lenA (by rfl) Z_len (by decide +kernel) (pa_cons (pv 6) pa_nil)) pe_int (nomark _)))))
      (pss_one (ps_ret pe_bl))
      pss_nil)
      (pss_cons (ps_set (i := 7) sc_l_known_breach.nd rfl (Or.inl rfl) (pe_fld (pv 0) rfl))
      (pss_cons (ps_for PassesOwn.never rfl (pi_list (pe_slice sl_list (pv 5) po_none (po_some (pe_ix ix_tup (pv 6) pe_int (fun _ _ => rfl))))) (pg_name (i := 8) sc_l_known_breach.nd rfl (Or.inl rfl))
      (pss_cons (ps_if (pt_cmpR op_notIn_seq (pv 8) (pe_cal C_l_let (hr.mono (by decide)) (by rfl) (pa_cons (pv 2) (pa_cons (pv 4) (pa_cons (pv 7) pa_nil)))) rfl)
      (pss_one (ps_ret pe_bl))
      pss_nil)
      (pss_one (ps_set (i := 7) sc_l_known_breach.nd rfl (Or.inl rfl) (pe_cal C_l_to (hr.mono (by decide)) (by rfl) (pa_cons (pv 2) (pa_cons (pv 7) (pa_cons (pv 8) pa_nil))))))))
      (pss_one (ps_ret (pe_and (pe_cmpR op_notIn_seq (pe_ix ix_list (pv 5) (pe_ix ix_tup (pv 6) pe_int (fun _ _ => rfl)) (fun _ _ => rfl)) (pe_cal C_l_let (hr.mono (by decide)) (by rfl) (pa_cons (pv 2) (pa_cons (pv 4) (pa_cons (pv 7) pa_nil)))) rfl) (pe_one (pe_cmpR (op_eqD hr.units) (pe_cal C_l_mover (hr.mono (by decide)) (by rfl) (pa_cons (pv 2) (pa_cons (pv 7) pa_nil))) (pe_ix ix_tup (pv 6) pe_int (fun _ _ => rfl)) (nomark _)))))))))))), ?_⟩
    walk_at "go"
    intro E0 nE
    have s1 : L2.Same H (upd H E0 (.dK [])) := same_new nE
    have hE : DictOf RwAt (upd H E0 (.dK [])) E0 ([] : List (Str × List Str)) := ⟨⟨[], upd_same, rfl, fun z a hza => by cases hza⟩⟩
    generalize upd H E0 (.dK []) = H1 at s1 hE
    have fx1 := fx.same s1
    have fe : Fx CW C H1 a s D G lvl E0 st h e l lw wl b [] := ⟨fx1.wk, fx1.wi, fx1.tab, fx1.g, fx1.ts, fx1.hG, fx1.iff, fx1.nw, fx1.wo, fx1.lv, fx1.lo, hE, List.nodup_nil, (fun q hq => by cases hq), fx1.st⟩
    walk_at "go"
    refine ask_breaking fe (fun _ H2 s2 => ?_) (fun i z kb H2 R s2 hR0 hR => ?_)
    · walk_at "go"
      refine x_yes rfl ?_
      walk_at "go"
      exact q _ (s1.trans s2)
    · have s12 := s1.trans s2
      have fx2 := fx.same s12
      have We := fe.ok
      have hwk := way_wlk We.inv i z kb.1
      have hwl := wayTo_len (bfsW lw [] st lw.length) (i + 1) i
      have hil := nm_lt kb.1
      have l1 := We.inv.len
      have l2 := fx.ts.len
      have l3 := fx.g.l2
      generalize wayTo (bfsW lw [] st lw.length) (i + 1) i = run at hwk hwl hR
      obtain ⟨ts, T, hend⟩ := wlk_trail hwk
      have tin := trail_in fx.gw fx.stw T
      walk_at "go"
      refine x_no (by intro z; cases z) ?_
      walk_at "go"
      refine ask_keeps fx2 fun k hk H3 s3 => ?_
      have s13 := s12.trans s3
      walk_at "go"
      cases k with
      | false =>
        walk_at "go"
        exact q _ s13
      | true =>
        have hall := hk.mp rfl
        have fx3 := fx.same s13
        have hR3 := s3 _ _ hR
        walk_at "go"
        refine ⟨a, B, R, h, st, lw, bk, run, ts, rfl, fx3.wk, fx3.gw, fx3.srt, fx3.hB, fx3.nb, fx3.bw, hR3, by omega, T, tin, fun k y sp hks hky hnl hlt H4 T4 s4 hT0 hT4 => ?_, fun hl => ?_⟩
        · have s14 := s13.trans s4
          have fx4 := fx.same s14
          have hR4 := s4 _ _ hR3
          have hki := (List.getElem?_eq_some_iff.mp hks).1
          walk_at "go"
          refine x_isiTup (.tup (SqT.of hT4)) ?_
          walk_at "go"
          refine x_nT ?_
          walk_at "go"
          refine x_lenT (SqT.of hT4) ?_
          walk_at "go"
          refine x_nyes rfl ?_
          walk_at "go"
          obtain ⟨dx, tt, nn, ee, w1, _⟩ := id fx4.wk.ex
          refine x_fld K_Work N1 w1 wkF_start ?_
          walk_at "go"
          refine x_ixt 0 (SqT.of hT4) rfl rfl ?_
          walk_at "go"
          refine x_slL (SqL.of hR4) fun cut hcut => ?_
          rw [cut_to (by omega) (by rw [List.length_map]; omega), Int.toNat_natCast, ← List.map_take]
          have s5 : L2.Same H4 (upd H4 cut (.lst (strsV (run.take k)))) := same_new hcut
          have hc5 : (upd H4 cut (.lst (strsV (run.take k)))) cut = some (.lst (strsV (run.take k))) := upd_same
          generalize upd H4 cut (.lst (strsV (run.take k))) = H5 at s5 hc5
          have s15 := s14.trans s5
          refine lpL (xs := strsV (run.take k)) (fun j σ H' => ∃ (u : Str) (v8 : Option V), σ = [some (.ref a), some (.ref s), some (.ref D), some (.ref lvl), some (.ref B), some (.ref R), some (.ref T4), some (.str u), v8] ∧ L2.Same H5 H' ∧ ts[j]? = some u) (SqL.of hc5) ?_ ?_ ?_ ?_
          · exact ⟨st, _, rfl, L2.Same.refl _, T.at0⟩
          · exact fun j σ H' _ ⟨_, _, _, s6, _⟩ => SqL.of (s6 _ _ hc5)
          · rintro j v σ H6 hv ⟨u, v8, rfl, s6, hu2⟩
            rw [List.getElem?_map] at hv
            cases hs : (run.take k)[j]? with
            | none => rw [hs] at hv; cases hv
            | some sq =>
              rw [hs] at hv
              have ex : V.str sq = v := Option.some.inj hv
              subst ex
              have hjk : j < k := by
                have := (List.getElem?_eq_some_iff.mp hs).1
                rw [List.length_take] at this
                omega
              have hs2 : run[j]? = some sq := by rw [List.getElem?_take_of_lt hjk] at hs; exact hs
              have hin := hlt j u sq hjk hs2 hu2
              obtain ⟨t, h1, h2⟩ := T.step j sq u hs2 hu2
              have hul : u ∈ l.map (·.1) := fx.ts.pm.mem_iff.mp (tin j u hu2)
              obtain ⟨x, hx⟩ := lookup_isSome hul
              have s16 := s15.trans s6
              have fx6 := fx.same s16
              walk_at "go"
              refine ⟨D, B, u, h, l, lw, bk, rfl, TabRd.of fx6.tab, fx.g, fx.ts, fx6.hB, hul, fun H7 p s7 hp hp7 => ?_⟩
              refine x_ninL (ws := letS lw bk u) (SqL.of hp7) ?_
              walk_at "go"
              refine x_nyes hin ?_
              walk_at "go"
              refine ⟨D, u, sq, t, l, x, rfl, TabRd.of (fx6.tab.same s7), hx, by rw [← toAt_w fx.g fx.ts hx]; exact h1, ?_⟩
              walk_at "go"
              exact ⟨t, _, rfl, s6.trans s7, h2⟩
          · rintro σ H6 ⟨u, v8, rfl, s6, hu2⟩
            rw [List.length_map, List.length_take, Nat.min_eq_left (by omega), hky] at hu2
            cases hu2
            have s16 := s15.trans s6
            have fx6 := fx.same s16
            have hT6 := s6 _ _ (s5 _ _ hT4)
            have hR6 := s6 _ _ (s5 _ _ hR4)
            have hul : y ∈ l.map (·.1) := fx.ts.pm.mem_iff.mp (tin k y hky)
            obtain ⟨x, hx⟩ := lookup_isSome hul
            obtain ⟨x', hx', hs'⟩ := tab_look fx.ts hx
            walk_at "go"
            refine x_ixt 0 (SqT.of hT6) rfl rfl ?_
            walk_at "go"
            refine x_ixl k (SqL.of hR6) rfl (v := .str sp) (by rw [List.getElem?_map, hks]; rfl) ?_
            walk_at "go"
            refine ⟨D, B, y, h, l, lw, bk, rfl, TabRd.of fx6.tab, fx.g, fx.ts, fx6.hB, hul, fun H7 p s7 hp hp7 => ?_⟩
            refine x_ninL (ws := letS lw bk y) (SqL.of hp7) ?_
            walk_at "go"
            refine x_nno hnl ?_
            walk_at "go"
            refine ⟨D, y, l, x, rfl, TabRd.of (fx6.tab.same s7), hx, ?_⟩
            walk_at "go"
            refine x_ixt 1 (SqT.of (s7 _ _ hT6)) rfl rfl ?_
            have em : moverAt lw y = moverV x := by
              unfold moverAt
              rw [hx']
              exact sort_mvV hs'
            rw [em]
            obtain ⟨d, hd, hds⟩ := mv_dp (K := K) (H := H7) x
            exact ⟨_, _, hd, hd, hds, hds, by rw [SeqAt.eqv_refl d (SeqAt.canLay_of_shaped hds)]; exact q _ (s16.trans s7)⟩
        · exfalso
          have e1 := trail_wlk T hl
          rw [hend] at e1
          have := hall z (wlk_rch .at0 e1)
          rw [kb.2.1] at this
          cases this
end
/-! ### k70: turned tables -/
def reL {α : Type} (l : List (Str × α)) (d : α) (ys : List Str) : List (Str × α) := ys.map fun z => (z, (l.lookup z).getD d)
theorem re_keys {α : Type} {l : List (Str × α)} {d : α} {ys : List Str} : (reL l d ys).map (·.1) = ys := by
  unfold reL
  rw [List.map_map]
  exact (List.map_congr_left fun _ _ => rfl).trans (List.map_id _)
theorem re_perm {α : Type} {l : List (Str × α)} {d : α} {ys : List Str} (h : ys.Perm (l.map (·.1))) (nd : (l.map (·.1)).Nodup) : (reL l d ys).Perm l := by
  have e : (l.map (·.1)).map (fun z => (z, (l.lookup z).getD d)) = l := by
    rw [List.map_map]
    refine (List.map_congr_left fun q hq => ?_).trans (List.map_id _)
    show (q.1, (l.lookup q.1).getD d) = q
    rw [lookup_of nd (z := q.1) (x := q.2) hq]
    rfl
  have := h.map (fun z => (z, (l.lookup z).getD d))
  rw [e] at this
  exact this
theorem look_map {α β : Type} (f : α → β) : ∀ (l : List (Str × α)) (z : Str), (l.map fun q => (q.1, f q.2)).lookup z = (l.lookup z).map f
  | [], _ => rfl
  | (k, x) :: r, z => by
    show (match z == k with | true => some (f x) | false => (r.map fun q => (q.1, f q.2)).lookup z) = (match z == k with | true => some x | false => r.lookup z).map f
    cases z == k with
    | true => rfl
    | false => exact look_map f r z
theorem strK_id {α : Type} (f : α → V) (l : List (Str × α)) : strK f l = strK id (l.map fun q => (q.1, f q.2)) := by
  unfold strK
  rw [List.map_map]
  rfl
theorem strK_re {α : Type} (f : α → V) {l : List (Str × α)} {d : α} {ys : List Str} (h : ys.Perm (l.map (·.1))) : strK id (reL (l.map fun q => (q.1, f q.2)) V.non ys) = strK f (reL l d ys) := by
  unfold strK reL
  rw [List.map_map, List.map_map]
  refine List.map_congr_left fun z hz => ?_
  obtain ⟨x, hx⟩ := lookup_isSome (h.mem_iff.mp hz)
  show ((Sum.inr z : Key), id (((l.map fun q => (q.1, f q.2)).lookup z).getD V.non)) = (Sum.inr z, f ((l.lookup z).getD d))
  rw [look_map, hx]
  rfl
theorem re_snoc {α : Type} {l : List (Str × α)} {d : α} {ys : List Str} {i : Nat} {z : Str} {x : α} (h : ys[i]? = some z) (hx : l.lookup z = some x) : reL l d (ys.take (i + 1)) = reL l d (ys.take i) ++ [(z, x)] := by
  unfold reL
  rw [take_succ_get h, List.map_append]
  show _ ++ [(z, (l.lookup z).getD d)] = _
  rw [hx]
  rfl
theorem take_not {ys : List Str} (nd : ys.Nodup) {i : Nat} {z : Str} (h : ys[i]? = some z) : z ∉ ys.take i := fun hm => by
  obtain ⟨j, hj, e⟩ := List.getElem_of_mem hm
  have hj2 : j < i := by simp at hj; omega
  have h5 : ys[j]? = some z := by
    rw [List.getElem_take] at e
    rw [List.getElem?_eq_getElem (by simp at hj ⊢; omega), e]
  have := L2.nd_ix nd h5 h
  omega
/-- the same stand, its steps in any order -/
def SdPm : Sd → Sd → Prop
  | .fin, .fin => True
  | .chance l, .chance l' => l'.Perm l
  | .hand k l, .hand k' l' => k' = k ∧ l'.Perm l
  | _, _ => False
structure TurnT (l l2 : List (Str × Sd)) : Prop where
  pm : (l2.map (·.1)).Perm (l.map (·.1))
  sd : ∀ z x2, l2.lookup z = some x2 → ∃ x, l.lookup z = some x ∧ SdPm x x2
theorem TurnT.good {h : Int} {l l2 : List (Str × Sd)} (g : GoodT h l) (T : TurnT l l2) : GoodT h l2 := by
  have hl := T.pm.length_eq
  rw [List.length_map, List.length_map] at hl
  refine ⟨(T.pm.nodup_iff).mpr g.nd, by have := g.l1; omega, by have := g.l2; omega, fun z hz => g.nm z (T.pm.mem_iff.mp hz), fun z x2 hx2 => ?_⟩
  obtain ⟨x, hx, hp⟩ := T.sd z x2 hx2
  have gx := g.sd z x hx
  cases x with
  | fin => cases x2 with
    | fin => trivial
    | chance _ => cases hp
    | hand _ _ => cases hp
  | chance a => cases x2 with
    | fin => cases hp
    | hand _ _ => cases hp
    | chance c =>
      have hp : c.Perm a := hp
      obtain ⟨g1, g2, g3, g4⟩ := gx
      exact ⟨((hp.map (·.1)).nodup_iff).mpr g1, by rw [hp.length_eq]; exact g2, by rw [hp.length_eq]; exact g3, fun q hq => ⟨(g4 q (hp.mem_iff.mp hq)).1, T.pm.mem_iff.mpr (g4 q (hp.mem_iff.mp hq)).2.1, (g4 q (hp.mem_iff.mp hq)).2.2⟩⟩
  | hand k a => cases x2 with
    | fin => cases hp
    | chance _ => cases hp
    | hand k' c =>
      obtain ⟨rfl, hp⟩ : k' = k ∧ c.Perm a := hp
      obtain ⟨g0, g00, g1, g2, g3, g4⟩ := gx
      exact ⟨g0, g00, ((hp.map (·.1)).nodup_iff).mpr g1, by rw [hp.length_eq]; exact g2, by rw [hp.length_eq]; exact g3, fun q hq => ⟨(g4 q (hp.mem_iff.mp hq)).1, T.pm.mem_iff.mpr (g4 q (hp.mem_iff.mp hq)).2⟩⟩
theorem assoc_one {α : Type} {l l' : List (Str × α)} (hp : l.Perm l') (hk : l.map (·.1) = l'.map (·.1)) (nd : (l'.map (·.1)).Nodup) : l = l' := by
  refine List.ext_getElem? fun i => ?_
  cases e : l[i]? with
  | none =>
    have := List.getElem?_eq_none_iff.mp e
    exact (List.getElem?_eq_none (by rw [← hp.length_eq]; exact this)).symm
  | some q =>
    have hm : q ∈ l' := hp.mem_iff.mp (List.mem_of_getElem? e)
    obtain ⟨j, hj, e2⟩ := List.getElem_of_mem hm
    have e3 : l'[j]? = some q := by rw [List.getElem?_eq_getElem hj, e2]
    have k1 : (l'.map (·.1))[i]? = some q.1 := by rw [← hk, List.getElem?_map, e]; rfl
    have k2 : (l'.map (·.1))[j]? = some q.1 := by rw [List.getElem?_map, e3]; rfl
    have := L2.nd_ix nd k1 k2
    rw [this, e3]
theorem assoc_ext {α : Type} {l l' : List (Str × α)} (hk : l.map (·.1) = l'.map (·.1)) (nd : (l'.map (·.1)).Nodup) (hv : ∀ z, l.lookup z = l'.lookup z) : l = l' := by
  have nl : (l.map (·.1)).Nodup := by rw [hk]; exact nd
  have hlen : l.length = l'.length := by
    have := congrArg List.length hk
    rwa [List.length_map, List.length_map] at this
  refine List.ext_getElem? fun i => ?_
  cases e : l[i]? with
  | none =>
    have := List.getElem?_eq_none_iff.mp e
    exact (List.getElem?_eq_none (by omega)).symm
  | some q =>
    have hi := (List.getElem?_eq_some_iff.mp e).1
    have e2 : l'[i]? = some (l'[i]'(by omega)) := List.getElem?_eq_getElem _
    generalize (l'[i]'(by omega)) = r at e2
    have k1 : (l.map (·.1))[i]? = some q.1 := by rw [List.getElem?_map, e]; rfl
    have k2 : (l'.map (·.1))[i]? = some r.1 := by rw [List.getElem?_map, e2]; rfl
    rw [hk, k2] at k1
    have er : r.1 = q.1 := Option.some.inj k1
    have h1 := lookup_of nl (z := q.1) (x := q.2) (List.mem_of_getElem? e)
    have h2 := lookup_of nd (z := r.1) (x := r.2) (List.mem_of_getElem? e2)
    rw [hv, ← er, h2] at h1
    rw [e2]
    exact congrArg some (Prod.ext er (Option.some.inj h1)).symm
theorem srt_same {x x2 x' x2' : Sd} {h : Int} {ns : List Str} (g : GoodSd h ns x) (p : SdPm x x2) (s : SdSort x x') (s2 : SdSort x2 x2') : x2' = x' := by
  cases x with
  | fin =>
    cases x2 with
    | fin =>
      cases x' with
      | fin =>
        cases x2' with
        | fin => rfl
        | chance _ => cases s2
        | hand _ _ => cases s2
      | chance _ => cases s
      | hand _ _ => cases s
    | chance _ => cases p
    | hand _ _ => cases p
  | chance a =>
    cases x2 with
    | fin => cases p
    | hand _ _ => cases p
    | chance b =>
      cases x' with
      | fin => cases s
      | hand _ _ => cases s
      | chance c =>
        cases x2' with
        | fin => cases s2
        | hand _ _ => cases s2
        | chance d =>
          have p : b.Perm a := p
          have hd : d.Perm c := (s2.1.trans p).trans s.1.symm
          have nc : (c.map (·.1)).Nodup := ((s.1.map (·.1)).nodup_iff).mpr g.1
          rw [assoc_one hd (sorted_one s2.2 s.2 (hd.map (·.1))) nc]
  | hand k a =>
    cases x2 with
    | fin => cases p
    | chance _ => cases p
    | hand k2 b =>
      cases x' with
      | fin => cases s
      | chance _ => cases s
      | hand k3 c =>
        cases x2' with
        | fin => cases s2
        | chance _ => cases s2
        | hand k4 d =>
          obtain ⟨rfl, p⟩ : k2 = k ∧ b.Perm a := p
          obtain ⟨rfl, s1, s1b⟩ := s
          obtain ⟨rfl, s2, s2b⟩ := s2
          have hd : d.Perm c := (s2.trans p).trans s1.symm
          have nc : (c.map (·.1)).Nodup := ((s1.map (·.1)).nodup_iff).mpr g.2.2.1
          rw [assoc_one hd (sorted_one s2b s1b (hd.map (·.1))) nc]
theorem turn_one {h : Int} {l l2 lw lw2 : List (Str × Sd)} (g : GoodT h l) (T : TurnT l l2) (S : TabSort l lw) (S2 : TabSort l2 lw2) : lw2 = lw := by
  have nw := (S.good g).nd
  refine assoc_ext (sorted_one S2.so S.so ((S2.pm.trans T.pm).trans S.pm.symm)) nw fun z => ?_
  have hkeys : ∀ z, z ∈ lw2.map (·.1) ↔ z ∈ lw.map (·.1) := fun z => by rw [S2.pm.mem_iff, T.pm.mem_iff, S.pm.mem_iff]
  cases e : lw.lookup z with
  | none =>
    refine lookup_none fun hm => ?_
    obtain ⟨x, hx⟩ := lookup_isSome ((hkeys z).mp hm)
    rw [e] at hx
    cases hx
  | some x' =>
    obtain ⟨x, hx, s⟩ := S.sd z x' e
    obtain ⟨x2', hx2'⟩ := lookup_isSome ((hkeys z).mpr (List.mem_map.mpr ⟨_, lookup_mem e, rfl⟩))
    obtain ⟨x2, hx2, s2⟩ := S2.sd z x2' hx2'
    obtain ⟨x0, hx0, p⟩ := T.sd z x2 hx2
    rw [hx] at hx0
    cases hx0
    rw [hx2', srt_same (g.sd z x hx) p s s2]
theorem strK_refs {l l' : List (Str × Addr)} (h : HO.dK (strK V.ref l) = HO.dK (strK V.ref l')) : l = l' := by
  have h2 : strK V.ref l = strK V.ref l' := HO.dK.inj h
  clear h
  induction l generalizing l' with
  | nil => cases l' with
    | nil => rfl
    | cons _ _ => cases h2
  | cons q r ih => cases l' with
    | nil => cases h2
    | cons q' r' =>
      have h3 : ((Sum.inr q.1 : Key), V.ref q.2) :: strK V.ref r = ((Sum.inr q'.1 : Key), V.ref q'.2) :: strK V.ref r' := h2
      injection h3 with e1 e2
      injection e1 with e3 e4
      injection e3 with e5
      injection e4 with e6
      rw [ih e2]
      exact congrArg (· :: r') (Prod.ext e5 e6)
def spTurned : Sp := fun vs H Q _ => ∃ (T : Addr) (m : List (Str × V)), vs = [.ref T] ∧ H T = some (.dK (strK id m)) ∧ (m.map (·.1)).Nodup ∧ m.length ≤ 1000 ∧ ∀ H' R ys, L2.Same H H' → H R = none → ys.Perm (m.map (·.1)) → H' R = some (.dK (strK id (reL m V.non ys))) → Q (.ref R) H'
def spTurnS : Sp := fun vs H Q _ => ∃ (D : Addr) (h : Int) (l : List (Str × Sd)), vs = [.ref D] ∧ DictOf SdAt H D l ∧ GoodT h l ∧ ∀ H' D2 l2, L2.Same H H' → H D2 = none → DictOf SdAt H' D2 l2 → TurnT l l2 → Q (.ref D2) H'
theorem same_wo0 {H H' : Hp} {D : Addr} (hD : H D = none) (s : L2.Same H H') : L2.Same H (wo H' D) := fun b o e => by
  rw [wo_ne (fun z => by rw [z, hD] at e; cases e)]
  exact s b o e
section
variable {P : Program} {w : World} {K : PySem.W.Frag} {mg : Str → Option Value} {base : Heap}
theorem ok_l_turned {f : Addr} {fd : FuncData} (F : Fun K "_law_turned" "_law_turned" s_l_turned f fd) (Z_sorted : mg "sorted" = none) : FnOk P w K mg base CX0 1 f fd ["_law_table"] spTurned := by
  refine F.ok sc_l_turned (fun vs H Q E h => ?_) (fun cdv A outer s H vs Q E hr h => ?_)
  · obtain ⟨_, _, rfl, _⟩ := h
    rfl
  · obtain ⟨T, m, rfl, hT, nd, hl, q⟩ := h
    have hu := hu_of hr
    refine ⟨_, (pss_cons (ps_set (i := 1) sc_l_turned.nd rfl (Or.inl rfl) pe_dnewK)
      (pss_cons (ps_for PassesOwn.never rfl (pi_list (pe_callBK (call_sortRev rfl) (by rfl) Z_sorted (by decide +kernel) (pa_cons (pv 0) pa_nil) (pk_cons pe_bl pk_nil))) (pg_name (i := 2) sc_l_turned.nd rfl (Or.inl rfl))
      (pss_one (ps_dput hu (pv 1) (pv 2) (pe_dget hu (pv 0) (pv 2) (fun _ _ => rfl)) rfl)))
      (pss_one (ps_ret (pv 1))))), ?_⟩
    walk_at "go"
    intro R nR
    have nTR : T ≠ R := ne_of_none hT nR
    have s1 : L2.Same H (upd H R (.dK [])) := same_new nR
    have hR1 : (upd H R (.dK [])) R = some (.dK (strK id ([] : List (Str × V)))) := upd_same
    generalize upd H R (.dK []) = H1 at s1 hR1
    have ek : (strK id m).map (·.1) = (m.map (·.1)).map Sum.inr := by rw [List.map_map, List.map_map]; rfl
    walk_at "go"
    refine x_ckw ?_
    walk_at "go"
    refine ⟨T, _, m.map (·.1), rfl, rfl, .inl (s1 _ _ hT), ek, by rw [List.length_map]; omega, fun ys c hperm hc => ?_⟩
    have nRc : R ≠ c := ne_of_none hR1 hc
    have s2 : L2.Same H (upd H1 c (.lst (ys.map V.str))) := s1.trans (same_new hc)
    have hR2 : (upd H1 c (.lst (ys.map V.str))) R = some (.dK (strK id ([] : List (Str × V)))) := by rw [upd_ne nRc]; exact hR1
    have hc2 : (upd H1 c (.lst (ys.map V.str))) c = some (.lst (strsV ys)) := upd_same
    generalize upd H1 c (.lst (ys.map V.str)) = H2 at s2 hR2 hc2
    have ynd : ys.Nodup := (hperm.nodup_iff).mpr nd
    have yl : ys.length ≤ 1000 := by rw [hperm.length_eq, List.length_map]; exact hl
    refine lpL (xs := strsV ys) (fun i σ H' => ∃ v2, σ = [some (.ref T), some (.ref R), v2] ∧ L2.Same H H' ∧ H' c = some (.lst (strsV ys)) ∧ H' R = some (.dK (strK id (reL m V.non (ys.take i))))) (SqL.of hc2) ?_ ?_ ?_ ?_
    · exact ⟨_, rfl, s2, hc2, by rw [List.take_zero]; exact hR2⟩
    · exact fun i σ H' _ ⟨_, _, _, h, _⟩ => SqL.of h
    · rintro i v σ H3 hv ⟨v2, rfl, s3, hc3, hR3⟩
      rw [List.getElem?_map] at hv
      cases hz : ys[i]? with
      | none => rw [hz] at hv; cases hv
      | some z =>
        rw [hz] at hv
        have ex : V.str z = v := Option.some.inj hv
        subst ex
        obtain ⟨x, hx⟩ := lookup_isSome (hperm.mem_iff.mp (List.mem_of_getElem? hz))
        have hn : z ∉ (reL m V.non (ys.take i)).map (·.1) := by rw [re_keys]; exact take_not ynd hz
        walk_at "go"
        refine x_getL (l := m) (f := id) (.inl (s3 _ _ hT)) hx ?_
        walk_at "go"
        refine x_putL (l := reL m V.non (ys.take i)) (f := id) (x := x) hR3 (by
          have : (reL m V.non (ys.take i)).length = (ys.take i).length := by unfold reL; rw [List.length_map]
          rw [this, List.length_take]
          omega) rfl ?_
        have ncR : c ≠ R := nRc.symm
        refine ⟨_, rfl, same_upd s3 nR, by rw [upd_ne ncR]; exact hc3, ?_⟩
        rw [upd_same, putL_new _ hn, re_snoc hz hx]
    · rintro σ H3 ⟨v2, rfl, s3, hc3, hR3⟩
      rw [List.length_map, List.take_length] at hR3
      walk_at "go"
      exact q H3 R ys s3 nR hperm hR3
set_option maxHeartbeats 20000000 in
theorem ok_l_turned_stands {f : Addr} {fd : FuncData} (F : Fun K "_law_turned_stands" "_law_turned_stands" s_l_turned_stands f fd) (Z_list : mg "list" = none) (Z_len : mg "len" = none) (C_l_turned : Cal P w K mg base 1 "_law_turned" ["_law_table"] spTurned) : FnOk P w K mg base CX0 2 f fd ["_law_stands_here"] spTurnS := by
  refine F.ok sc_l_turned_stands (fun vs H Q E h => ?_) (fun cdv A outer s H vs Q E hr h => ?_)
  · obtain ⟨_, _, _, rfl, _⟩ := h
    rfl
  · obtain ⟨D, h, l, rfl, hT, g, q⟩ := h
    have hu := hu_of hr
    have g2 := g.l2
    obtain ⟨mD, hD, hmk, hm⟩ := id hT.ex
    refine ⟨_, (pss_cons (ps_set (i := 1) sc_l_turned_stands.nd rfl (Or.inl rfl) pe_dnewK)
      (pss_cons (ps_for PassesOwn.never rfl (pi_list (pe_revL (pe_callTy (call_list_dK rfl) (by rfl) Z_list (by decide +kernel) (pa_cons (pv 0) pa_nil)))) (pg_name (i := 2) sc_l_turned_stands.nd rfl (Or.inl rfl))
      (pss_cons (ps_set (i := 3) sc_l_turned_stands.nd rfl (Or.inl rfl) (pe_dget hu (pv 0) (pv 2) (fun _ _ => rfl)))
      (pss_cons (ps_dput hu (pv 1) (pv 2) (pv 3) rfl)
      (pss_one (ps_if (pt_cmpR op_ne (pe_ix ix_tup (pv 3) pe_int (fun _ _ => rfl)) pe_str (nomark _))
      (pss_one (ps_dput hu (pv 1) (pv 2) (pe_op op_catA (pe_slice sl_tup (pv 3) po_none (po_some (pe_op op_sub (pe_callB call_lenA (by rfl) Z_len (by decide +kernel) (pa_cons (pv 3) pa_nil)) pe_int))) (pe_tup (pa_cons (pe_cal C_l_turned (hr.mono (by decide)) (by rfl) (pa_cons (pe_ix ix_tup (pv 3) (pe_op op_sub (pe_callB call_lenA (by rfl) Z_len (by decide +kernel) (pa_cons (pv 3) pa_nil)) pe_int) (fun _ _ => rfl)) pa_nil)) pa_nil))) rfl))
      pss_nil)))))
      (pss_one (ps_ret (pv 1))))), ?_⟩
    walk_at "go"
    intro R nR
    have nDR : D ≠ R := ne_of_none hD nR
    have s1 : L2.Same H (upd H R (.dK [])) := same_new nR
    have hR1 : (upd H R (.dK [])) R = some (.dK []) := upd_same
    generalize upd H R (.dK []) = H1 at s1 hR1
    walk_at "go"
    refine ⟨D, _, rfl, s1 _ _ hD, fun c1 hc1 => ?_⟩
    have nRc1 : R ≠ c1 := ne_of_none hR1 hc1
    have ekk : (strK V.ref mD).map (fun kv => kV kv.1) = strsV (l.map (·.1)) := by
      rw [← hmk, List.map_map]
      show _ = List.map V.str (List.map _ mD)
      rw [List.map_map]
      rfl
    rw [ekk]
    have s2 : L2.Same H (upd H1 c1 (.lst (strsV (l.map (·.1))))) := s1.trans (same_new hc1)
    have hR2 : (upd H1 c1 (.lst (strsV (l.map (·.1))))) R = some (.dK []) := by rw [upd_ne nRc1]; exact hR1
    have hc12 : (upd H1 c1 (.lst (strsV (l.map (·.1))))) c1 = some (.lst (strsV (l.map (·.1)))) := upd_same
    generalize upd H1 c1 (.lst (strsV (l.map (·.1)))) = H2 at s2 hR2 hc12
    refine x_rev (SqL.of hc12) fun c hc => ?_
    rw [show (strsV (l.map (·.1))).reverse = strsV (l.map (·.1)).reverse from (List.map_reverse ..).symm]
    have nRc : R ≠ c := ne_of_none hR2 hc
    have s3 : L2.Same H (upd H2 c (.lst (strsV (l.map (·.1)).reverse))) := s2.trans (same_new hc)
    have hR3 : (upd H2 c (.lst (strsV (l.map (·.1)).reverse))) R = some (.dK []) := by rw [upd_ne nRc]; exact hR2
    have hc3 : (upd H2 c (.lst (strsV (l.map (·.1)).reverse))) c = some (.lst (strsV (l.map (·.1)).reverse)) := upd_same
    generalize upd H2 c (.lst (strsV (l.map (·.1)).reverse)) = H3 at s3 hR3 hc3
    have hperm : ((l.map (·.1)).reverse).Perm (l.map (·.1)) := List.reverse_perm _
    have yl : ((l.map (·.1)).reverse).length = l.length := by rw [List.length_reverse, List.length_map]
    generalize (l.map (·.1)).reverse = ys at hperm yl hc3
    have ynd : ys.Nodup := (hperm.nodup_iff).mpr g.nd
    refine lpL (xs := strsV ys) (fun i σ H' => ∃ (v2 v3 : Option V) (acc : List (Str × Sd)), σ = [some (.ref D), some (.ref R), v2, v3] ∧ L2.Same H H' ∧ H' c = some (.lst (strsV ys)) ∧ DictW SdAt H' R acc ∧ acc.map (·.1) = ys.take i ∧ ∀ z x2, acc.lookup z = some x2 → ∃ x, l.lookup z = some x ∧ SdPm x x2) (SqL.of hc3) ?_ ?_ ?_ ?_
    · exact ⟨_, _, [], rfl, s3, hc3, .nil hR3, by rw [List.take_zero]; rfl, fun z x2 hx => by cases hx⟩
    · exact fun i σ H' _ ⟨_, _, _, _, _, h, _⟩ => SqL.of h
    · rintro i v σ H4 hv ⟨v2, v3, acc, rfl, s4, hc4, hW, ak, av⟩
      rw [List.getElem?_map] at hv
      cases hz : ys[i]? with
      | none => rw [hz] at hv; cases hv
      | some z =>
        rw [hz] at hv
        have ex : V.str z = v := Option.some.inj hv
        subst ex
        have hzl : z ∈ l.map (·.1) := hperm.mem_iff.mp (List.mem_of_getElem? hz)
        have hzn : z ∉ acc.map (·.1) := by rw [ak]; exact take_not ynd hz
        have hal : acc.length ≤ 100 := by
          have := congrArg List.length ak
          rw [List.length_map, List.length_take] at this
          omega
        obtain ⟨ra, hra⟩ := lookup_isSome (l := mD) (z := z) (by rw [hmk]; exact hzl)
        obtain ⟨x, hx, hxa⟩ := hm z ra (lookup_mem hra)
        have gx := g.sd z x hx
        obtain ⟨mR, hmR, hmRk, hmRv⟩ := id hW.ex
        have hmRl : mR.length ≤ 100 := by
          have := congrArg List.length hmRk
          rw [List.length_map, List.length_map] at this
          omega
        have ncR : c ≠ R := nRc.symm
        have keys1 : ∀ x2 : Sd, (putL acc z x2).map (·.1) = ys.take (i + 1) := fun x2 => by
          rw [putL_new _ hzn, List.map_append, ak, take_succ_get hz]
          rfl
        have vals1 : ∀ x2 : Sd, SdPm x x2 → ∀ y w, (putL acc z x2).lookup y = some w → ∃ x, l.lookup y = some x ∧ SdPm x w := fun x2 hp y w hy => by
          rw [lookup_putL] at hy
          by_cases e : y = z
          · rw [if_pos e] at hy
            cases hy
            exact ⟨x, by rw [e]; exact hx, hp⟩
          · rw [if_neg e] at hy
            exact av y w hy
        walk_at "go"
        refine x_getL (l := mD) (f := V.ref) (.inl (s4 _ _ hD)) hra ?_
        walk_at "go"
        refine x_putL (l := mR) (f := V.ref) (x := ra) hmR (by omega) rfl ?_
        have hp0 : SdAt (wo H4 R) ra x := hxa.same (same_wo0 nR s4)
        have hW5 : DictW SdAt (upd H4 R (.dK (strK V.ref (putL mR z ra)))) R (putL acc z x) := DictW.put hmRk hmRv hp0
        have s5 : L2.Same H (upd H4 R (.dK (strK V.ref (putL mR z ra)))) := same_upd s4 nR
        have hc5 : (upd H4 R (.dK (strK V.ref (putL mR z ra)))) c = some (.lst (strsV ys)) := by rw [upd_ne ncR]; exact hc4
        generalize upd H4 R (.dK (strK V.ref (putL mR z ra))) = H5 at hW5 s5 hc5
        have hx5 : SdAt H5 ra x := hxa.same s5
        walk_at "go"
        -- the second laying, of a row that is made anew
        have lay : ∀ (H6 : Hp) (V0 : Addr) (x2 : Sd), L2.Same H5 H6 → SdAt (wo H6 R) V0 x2 → ∀ N : Hp → Prop, (∀ H', L2.Same H H' → H' c = some (.lst (strsV ys)) → DictW SdAt H' R (putL acc z x2) → N H') → rDputA (.ref R) (.str z) (.ref V0) H6 N := by
          intro H6 V0 x2 s6 hVw N k
          obtain ⟨mR6, hmR6, hk6, hv6⟩ := (DictW.same monoS hW5 s6).ex
          have hl6 : mR6.length ≤ 101 := by
            have e1 := congrArg List.length hk6
            rw [List.length_map, List.length_map] at e1
            have e2 := putL_len acc z x
            omega
          refine x_putL (l := mR6) (f := V.ref) (x := V0) hmR6 (by omega) rfl ?_
          have e3 := DictW.put (R := SdAt) hk6 hv6 (z := z) hVw
          rw [putL_putL] at e3
          exact k _ (same_upd (s5.trans s6) nR) (by rw [upd_ne ncR]; exact s6 _ _ hc5) e3
        have hxw : SdAt (wo H5 R) ra x := hxa.same (same_wo0 nR s5)
        obtain ⟨mR5, hR5, _⟩ := hW5.ex
        cases x with
        | fin =>
          have hb : H5 ra = some (.tup [.str "end"]) := hx5
          refine x_ixt 0 (SqT.of hb) rfl rfl ?_
          walk_at "go"
          refine x_nyes rfl ?_
          walk_at "go"
          exact ⟨_, _, _, rfl, s5, hc5, hW5, keys1 _, vals1 _ trivial⟩
        | hand k2 l2 =>
          obtain ⟨d2, hb, hd⟩ := hx5
          obtain ⟨g0, g00, gn, gl1, gl4, gm⟩ := gx
          refine x_ixt 0 (SqT.of hb) rfl rfl ?_
          walk_at "go"
          refine x_nno (by decide +kernel) ?_
          walk_at "go"
          refine x_lenT (SqT.of hb) ?_
          walk_at "go"
          refine ⟨ra, _, rfl, SqT.of hb, (show ¬ (HT.sIx 3 0 none = 0 ∧ HT.sIx 3 3 (some (((3 : Nat) : Int) - 1)) = 3) by decide), fun T1 nT1 => ?_⟩
          have ec : cutV [V.str "hand", V.int k2, V.ref d2] none (some ((([V.str "hand", V.int k2, V.ref d2] : List V).length : Int) - 1)) = [V.str "hand", V.int k2] := rfl
          rw [ec]
          have s6 : L2.Same H5 (upd H5 T1 (.tup [V.str "hand", V.int k2])) := same_new nT1
          have hT1 : (upd H5 T1 (.tup [V.str "hand", V.int k2])) T1 = some (.tup [V.str "hand", V.int k2]) := upd_same
          generalize upd H5 T1 (.tup [V.str "hand", V.int k2]) = H6 at s6 hT1
          walk_at "go"
          refine x_lenT (SqT.of (s6 _ _ hb)) ?_
          walk_at "go"
          refine x_ixt 2 (SqT.of (s6 _ _ hb)) rfl rfl ?_
          walk_at "go"
          have em : (l2.map fun q => (q.1, V.str q.2)).map (·.1) = l2.map (·.1) := by rw [List.map_map]; rfl
          refine ⟨d2, l2.map fun q => (q.1, V.str q.2), rfl, by rw [← strK_id]; exact s6 _ _ hd, by rw [em]; exact gn, by rw [List.length_map]; omega, fun H7 U zs s7 hU0 hp hU => ?_⟩
          rw [em] at hp
          walk_at "go"
          refine ⟨sz_le (by simp), fun V1 nV1 => ?_⟩
          have s8 : L2.Same H7 (upd H7 V1 (.tup [.ref U])) := same_new nV1
          have hV1 : (upd H7 V1 (.tup [.ref U])) V1 = some (.tup [.ref U]) := upd_same
          generalize upd H7 V1 (.tup [.ref U]) = H8 at s8 hV1
          walk_at "go"
          refine x_catA (SqT.of (s8 _ _ (s7 _ _ hT1))) hV1 (by simp) (by simp) fun V2 H9 s9 hV2 => ?_
          have s59 : L2.Same H5 H9 := (s6.trans s7).trans (s8.trans s9)
          have R9 := s59 _ _ hR5
          have nUR : U ≠ R := fun e => by
            have := s6 _ _ hR5
            rw [← e, hU0] at this
            cases this
          have nVR : V2 ≠ R := ne_of hV2 R9 (by intro z; cases z)
          walk_at "go"
          refine lay H9 V2 (.hand k2 (reL l2 "" zs)) s59 ⟨U, by rw [wo_ne nVR]; exact hV2, ?_⟩ _ fun H' a1 a2 a3 => ?_
          · rw [wo_ne nUR, s9 _ _ (s8 _ _ hU), strK_re V.str hp]
          · exact ⟨_, _, _, rfl, a1, a2, a3, keys1 _, vals1 _ ⟨rfl, re_perm hp gn⟩⟩
        | chance l2 =>
          obtain ⟨d2, hb, hdD⟩ := hx5
          obtain ⟨d2', hb', hdW⟩ := hxw
          have e2 : d2' = d2 := by
            have := (wo_some hb').1
            rw [hb] at this
            cases this
            rfl
          subst e2
          obtain ⟨gn, gl1, gl4, gm⟩ := gx
          obtain ⟨m2, hd, hk2, hv2⟩ := hdD.ex
          obtain ⟨m2', hd', hk2', hv2'⟩ := hdW.ex
          have e3 : m2' = m2 := by
            have := (wo_some hd').1
            rw [hd] at this
            exact (strK_refs (Option.some.inj this)).symm
          subst e3
          have gm2 : (m2'.map (·.1)).Nodup := by rw [hk2]; exact gn
          refine x_ixt 0 (SqT.of hb) rfl rfl ?_
          walk_at "go"
          refine x_nno (by decide +kernel) ?_
          walk_at "go"
          refine x_lenT (SqT.of hb) ?_
          walk_at "go"
          refine ⟨ra, _, rfl, SqT.of hb, (show ¬ (HT.sIx 2 0 none = 0 ∧ HT.sIx 2 2 (some (((2 : Nat) : Int) - 1)) = 2) by decide), fun T1 nT1 => ?_⟩
          have ec : cutV [V.str "chance", V.ref d2'] none (some ((([V.str "chance", V.ref d2'] : List V).length : Int) - 1)) = [V.str "chance"] := rfl
          rw [ec]
          have s6 : L2.Same H5 (upd H5 T1 (.tup [V.str "chance"])) := same_new nT1
          have hT1 : (upd H5 T1 (.tup [V.str "chance"])) T1 = some (.tup [V.str "chance"]) := upd_same
          generalize upd H5 T1 (.tup [V.str "chance"]) = H6 at s6 hT1
          walk_at "go"
          refine x_lenT (SqT.of (s6 _ _ hb)) ?_
          walk_at "go"
          refine x_ixt 1 (SqT.of (s6 _ _ hb)) rfl rfl ?_
          walk_at "go"
          have em : (m2'.map fun q => (q.1, V.ref q.2)).map (·.1) = m2'.map (·.1) := by rw [List.map_map]; rfl
          have ml2 : m2'.length = l2.length := by
            have := congrArg List.length hk2
            rwa [List.length_map, List.length_map] at this
          refine ⟨d2', m2'.map fun q => (q.1, V.ref q.2), rfl, by rw [← strK_id]; exact s6 _ _ hd, by rw [em]; exact gm2, by rw [List.length_map]; omega, fun H7 U zs s7 hU0 hp hU => ?_⟩
          rw [em] at hp
          have hpl : zs.Perm (l2.map (·.1)) := by rw [← hk2]; exact hp
          walk_at "go"
          refine ⟨sz_le (by simp), fun V1 nV1 => ?_⟩
          have s8 : L2.Same H7 (upd H7 V1 (.tup [.ref U])) := same_new nV1
          have hV1 : (upd H7 V1 (.tup [.ref U])) V1 = some (.tup [.ref U]) := upd_same
          generalize upd H7 V1 (.tup [.ref U]) = H8 at s8 hV1
          walk_at "go"
          refine x_catA (SqT.of (s8 _ _ (s7 _ _ hT1))) hV1 (by simp) (by simp) fun V2 H9 s9 hV2 => ?_
          have s59 : L2.Same H5 H9 := (s6.trans s7).trans (s8.trans s9)
          have R9 := s59 _ _ hR5
          have nUR : U ≠ R := fun e => by
            have := s6 _ _ hR5
            rw [← e, hU0] at this
            cases this
          have nVR : V2 ≠ R := ne_of hV2 R9 (by intro z; cases z)
          walk_at "go"
          refine lay H9 V2 (.chance (reL l2 ("", 0) zs)) s59 ⟨U, by rw [wo_ne nVR]; exact hV2, ⟨⟨reL m2' 0 zs, ?_, ?_, fun y a hya => ?_⟩⟩⟩ _ fun H' a1 a2 a3 => ?_
          · rw [wo_ne nUR, s9 _ _ (s8 _ _ hU), strK_re V.ref hp]
          · rw [re_keys, re_keys]
          · obtain ⟨y', hy', e4⟩ := List.mem_map.mp (show (y, a) ∈ zs.map fun z => (z, (m2'.lookup z).getD 0) from hya)
            cases e4
            obtain ⟨a0, ha0⟩ := lookup_isSome (hp.mem_iff.mp hy')
            obtain ⟨w, hw, hpw⟩ := hv2' y a0 (lookup_mem ha0)
            refine ⟨w, by rw [lookup_perm (re_perm hpl gn) gn]; exact hw, ?_⟩
            rw [ha0]
            exact wo_mono s59 _ _ hpw
          · exact ⟨_, _, _, rfl, a1, a2, a3, keys1 _, vals1 _ (show (reL l2 ("", 0) zs).Perm l2 from re_perm hpl gn)⟩
    · rintro σ H4 ⟨v2, v3, acc, rfl, s4, hc4, hW, ak, av⟩
      rw [List.length_map, List.take_length] at ak
      walk_at "go"
      exact q H4 R acc s4 nR (DictW.of monoS hW) ⟨by rw [ak]; exact hperm, av⟩
end
/-! ### k70: a book shown; what was told is changed -/
theorem hu100 {k : Nat} {A : Around} (r : Room k A) : A.units + 100 < cLine := by have := r.un; omega
theorem NameS.signs {z : Str} (g : NameS z) : ∀ c ∈ z.cps.toList, c < 123 := by
  obtain ⟨d, r, e, h1, _, h3⟩ := g
  rw [e]
  intro c hc
  rcases List.mem_cons.mp hc with rfl | hc
  · obtain ⟨_, h⟩ := h1
    omega
  · rcases h3 c hc with ⟨_, h⟩ | ⟨_, h⟩ <;> omega
theorem NameS.shown {z : Str} (g : NameS z) : (PyData.str z).shown.length ≤ 82 := by
  have h1 : (PyData.str z).shown.length ≤ 10 * z.length + 2 := PySem.StrLaws.reprText_len z fun c hc => Nat.lt_of_lt_of_le (g.signs c hc) (by decide)
  have := g.len
  omega
theorem strs_shw {H : Hp} : ∀ {ss : List Str}, (∀ s ∈ ss, NameS s) → ∃ ds, ShwA H (strsV ss) ds ∧ PyData.showableAll ds = true ∧ PyData.depthAll ds ≤ 0 ∧ ((PyData.shownAll ds).map (·.length)).sum ≤ ss.length * 82 ∧ (PyData.shownAll ds).length = ss.length
  | [], _ => ⟨[], .nil, rfl, Nat.zero_le _, Nat.zero_le _, rfl⟩
  | s :: r, h => by
    obtain ⟨ds, g1, g2, g3, g4, g5⟩ := strs_shw (H := H) fun z hz => h z (List.mem_cons_of_mem s hz)
    have h1 := (h s List.mem_cons_self).shown
    refine ⟨.str s :: ds, .cons (.str s) g1, g2, ?_, ?_, ?_⟩
    · show max 0 (PyData.depthAll ds) ≤ 0
      omega
    · show (((PyData.str s).shown :: PyData.shownAll ds).map (·.length)).sum ≤ (r.length + 1) * 82
      rw [List.map_cons, List.sum_cons, Nat.succ_mul]
      omega
    · show ((PyData.str s).shown :: PyData.shownAll ds).length = _
      rw [List.length_cons, List.length_cons, g5]
theorem row_shw2 {H : Hp} {a : Addr} {ss : List Str} (ha : H a = some (.tup (strsV ss))) (hs : ∀ s ∈ ss, NameS s) (hl : ss.length ≤ 4) : ∃ d, Shw H (.ref a) d ∧ d.showable = true ∧ d.depth ≤ 1 ∧ d.shown.length ≤ 400 := by
  obtain ⟨ds, g1, g2, g3, g4, g5⟩ := strs_shw (H := H) hs
  refine ⟨_, .tup ha g1, g2, by show PyData.depthAll ds + 1 ≤ 1; omega, Nat.le_trans (tupleText_len_le _) ?_⟩
  omega
theorem len_app (a b : Str) : (a ++ b).length = a.length + b.length := by
  rw [str_len, tl_app, List.length_append, ← str_len, ← str_len]
theorem kv_shw {H : Hp} : ∀ {m : List (Str × Addr)}, (∀ q ∈ m, NameS q.1 ∧ ∃ d, Shw H (.ref q.2) d ∧ d.showable = true ∧ d.depth ≤ 1 ∧ d.shown.length ≤ 400) → ∃ ds, ShwA H ((strK V.ref m).map (·.2)) ds ∧ PyData.showableKv (zipK (strK V.ref m) ds) = true ∧ PyData.depthKv (zipK (strK V.ref m) ds) ≤ 1 ∧
    ((PyData.shownKv (zipK (strK V.ref m) ds)).map (·.length)).sum ≤ m.length * 500 ∧ (PyData.shownKv (zipK (strK V.ref m) ds)).length = m.length
  | [], _ => ⟨[], .nil, rfl, Nat.zero_le _, Nat.zero_le _, rfl⟩
  | (z, a) :: r, h => by
    obtain ⟨ds, g1, g2, g3, g4, g5⟩ := kv_shw (H := H) (m := r) fun q hq => h q (List.mem_cons_of_mem _ hq)
    obtain ⟨hz, d, d1, d2, d3, d4⟩ := h (z, a) List.mem_cons_self
    have h1 : (PyData.str z).shown.length ≤ 82 := NameS.shown (z := z) hz
    refine ⟨d :: ds, .cons d1 g1, ?_, ?_, ?_, ?_⟩
    · show ((PyData.str z).showable && d.showable && PyData.showableKv (zipK (strK V.ref r) ds)) = true
      rw [d2, g2]
      rfl
    · show PyData.depthKv ((PyData.str z, d) :: zipK (strK V.ref r) ds) ≤ 1
      simp only [PyData.depthKv, PyData.depth]
      omega
    · show ((((PyData.str z).shown ++ ": " ++ d.shown) :: PyData.shownKv (zipK (strK V.ref r) ds)).map (·.length)).sum ≤ (r.length + 1) * 500
      rw [List.map_cons, List.sum_cons, Nat.succ_mul, len_app, len_app]
      have : (": " : Str).length = 2 := rfl
      omega
    · show (_ :: PyData.shownKv (zipK (strK V.ref r) ds)).length = _
      rw [List.length_cons, List.length_cons, g5]
theorem book_shw {H : Hp} {B : Addr} {bk : List (Str × List Str)} (hB : DictOf RwAt H B bk) (hn : ∀ q ∈ bk, NameS q.1 ∧ (∀ s ∈ q.2, NameS s) ∧ q.2.length ≤ 4) (hl : bk.length ≤ 8) : ∃ d, Shw H (.ref B) d ∧ d.showable = true ∧ d.depth ≤ 64 ∧ d.shown.length ≤ sizeLine := by
  obtain ⟨m, h1, h2, h3⟩ := hB.ex
  have hml : m.length ≤ 8 := by
    have := congrArg List.length h2
    rw [List.length_map, List.length_map] at this
    omega
  obtain ⟨ds, g1, g2, g3, g4, g5⟩ := kv_shw (H := H) (m := m) fun q hq => by
    obtain ⟨r, hr, ha⟩ := h3 q.1 q.2 hq
    obtain ⟨n1, n2, n3⟩ := hn (q.1, r) (lookup_mem hr)
    exact ⟨n1, row_shw2 ha n2 n3⟩
  refine ⟨_, .dK (.inl h1) g1, g2, ?_, ?_⟩
  · show PyData.depthKv (zipK (strK V.ref m) ds) + 1 ≤ 64
    omega
  · refine Nat.le_trans (dictText_len_le _) (sz_le ?_)
    omega
/-- a list that was told and may be changed, or none -/
def ToldV (H0 H : Hp) (n : Nat) (v : V) : Prop := v = .non ∨ ∃ a xs, v = .ref a ∧ H0 a = none ∧ H a = some (.lst xs) ∧ xs.length ≤ n
theorem ToldV.same {H0 H H' : Hp} {n : Nat} {v : V} (h : ToldV H0 H n v) (s : L2.Same H H') : ToldV H0 H' n v :=
  h.imp id fun ⟨a, xs, h1, h2, h3, h4⟩ => ⟨a, xs, h1, h2, s _ _ h3, h4⟩
theorem ToldV.app {H0 H : Hp} {n : Nat} {v y : V} {a : Addr} {xs : List V} (h : ToldV H0 H n v) (ha : H a = some (.lst xs)) (hl : xs.length ≤ n) : ToldV H0 (upd H a (.lst (xs ++ [y]))) (n + 1) v := by
  refine h.imp id fun ⟨b, ys, h1, h2, h3, h4⟩ => ?_
  by_cases e : b = a
  · subst e
    exact ⟨b, xs ++ [y], h1, h2, upd_same, by rw [List.length_append]; simp; omega⟩
  · exact ⟨b, ys, h1, h2, by rw [upd_ne e]; exact h3, by omega⟩
theorem steps_nm {h : Int} {ns : List Str} {x : Sd} (g : GoodSd h ns x) : ∀ s ∈ stepsL x, NameS s := by
  intro s hs
  cases x with
  | fin => cases hs
  | chance l =>
    obtain ⟨q, hq, rfl⟩ := List.mem_map.mp (show s ∈ l.map (·.1) from hs)
    exact (g.2.2.2 q hq).1
  | hand k l =>
    obtain ⟨q, hq, rfl⟩ := List.mem_map.mp (show s ∈ l.map (·.1) from hs)
    exact (g.2.2.2.2.2 q hq).1
theorem wlk_nm {h : Int} {l : List (Str × Sd)} {bk : List (Str × List Str)} (g : GoodT h l) (ok : BookOk l bk) {run : List Str} {st y : Str} (w : wlk l bk st run = some y) : ∀ s ∈ run, NameS s := fun s hs => by
  obtain ⟨i, hi, e⟩ := List.getElem_of_mem hs
  have h1 : run[i]? = some s := by rw [List.getElem?_eq_getElem hi, e]
  obtain ⟨z, t, _, g2, g3, _⟩ := wlk_at i s w h1
  obtain ⟨x, hx, _⟩ := toAt_some g3
  exact steps_nm (g.sd z x hx) s (let_sub ok hx g2)
theorem brk_one {lw : List (Str × Sd)} {bk : List (Str × List Str)} {st : Str} {wl : List (Str × Int)} {b : Int × Int} {i i' : Nat} {z z' : Str} (k : Brk lw bk st wl b i z) (k' : Brk lw bk st wl b i' z') : i = i' := by
  rcases Nat.lt_trichotomy i i' with c | c | c
  · have := k'.2.2 i z c k.1
    rw [k.2.1] at this
    cases this
  · exact c
  · have := k.2.2 i' z' c k'.1
    rw [k'.2.1] at this
    cases this
theorem bookok_nm {h : Int} {l : List (Str × Sd)} {bk : List (Str × List Str)} (g : GoodT h l) (ok : BookOk l bk) : ∀ q ∈ bk, NameS q.1 ∧ (∀ s ∈ q.2, NameS s) ∧ q.2.length ≤ 4 := fun q hq => by
  obtain ⟨k, l2, hx, rk⟩ := ok q hq
  have gx := g.sd _ _ hx
  refine ⟨g.nm _ (List.mem_map.mpr ⟨_, lookup_mem hx, rfl⟩), fun s hs => steps_nm gx s (rk.sub s hs), ?_⟩
  have := List.Nodup.length_le_of_subset rk.nd (l₂ := stepsL (.hand k l2)) fun s hs => rk.sub s hs
  have := steps_le gx
  omega
theorem ToldV.mono {H0 H : Hp} {n m : Nat} {v : V} (h : ToldV H0 H n v) (hm : n ≤ m) : ToldV H0 H m v := h.imp id fun ⟨a, xs, h1, h2, h3, h4⟩ => ⟨a, xs, h1, h2, h3, Nat.le_trans h4 hm⟩
theorem ToldV.base {H0 H1 H : Hp} {n : Nat} {v : V} (h : ToldV H1 H n v) (s : L2.Same H0 H1) : ToldV H0 H n v := h.imp id fun ⟨a, xs, h1, h2, h3, h4⟩ => ⟨a, xs, h1, s.free h2, h3, h4⟩
theorem ask_breaking_any {CW C : Addr} {H : Hp} {Q : VK} {E : XK} {a s D G lvl B : Addr} {st : Str} {h e : Int} {l lw : List (Str × Sd)} {wl : List (Str × Int)} {b : Int × Int} {bk : List (Str × List Str)} (f : Fx CW C H a s D G lvl B st h e l lw wl b bk)
    (q : ∀ v H', L2.Same H H' → ToldV H H' 1000 v → Q v H') : spBreaking CW C [.ref a, .ref s, .ref lvl, .ref B] H Q E := by
  refine ask_breaking f (fun _ H' s' => q .non H' s' (.inl rfl)) fun i z kb H' p s' hp hp' => q (.ref p) H' s' (.inr ⟨p, _, rfl, hp, hp', ?_⟩)
  have h1 := wayTo_len (bfsW lw bk st lw.length) (i + 1) i
  have h2 := nm_lt kb.1
  have h3 := f.ok.inv.len
  have h4 := f.ts.len
  have h5 := f.g.l2
  rw [List.length_map]
  omega
theorem ask_kept_any {CW C : Addr} {H : Hp} {Q : VK} {E : XK} {a s D G lvl B : Addr} {st : Str} {h e : Int} {l lw : List (Str × Sd)} {wl : List (Str × Int)} {b : Int × Int} {bk : List (Str × List Str)} (f : Fx CW C H a s D G lvl B st h e l lw wl b bk)
    (q : ∀ v H', L2.Same H H' → ToldV H H' 1000 v → Q v H') : spKept CW C [.ref a, .ref s, .ref lvl, .ref B] H Q E := by
  refine ask_kept f (fun _ H' s' => q .non H' s' (.inl rfl)) fun _ H' p ys s' hp hp' hi hn _ => q (.ref p) H' s' (.inr ⟨p, _, rfl, hp, hp', ?_⟩)
  have h1 := List.Nodup.length_le_of_subset hn (l₂ := lw.map (·.1)) fun z hz => f.ok.inv.sub z ((ways_iff f.ok z).mpr ((hi z).mp hz))
  have h4 := f.ts.len
  have h5 := f.g.l2
  rw [List.length_map] at h1 ⊢
  omega
/-! ### k70: the law -/
def spLaw (K : PySem.W.Frag) : Sp := fun vs H Q _ => ∃ (a : Addr) (ns : List Int), vs = [.ref a] ∧ SqL K H a (intsV ns) ∧ ns.length ≤ 63 ∧ ∀ H', Q (.bl true) H'
theorem x_asgL {te : TE} {K : PySem.W.Frag} {k : Nat} {gs : TGs} {σ : L2.St} {H : Hp} {n : L2.St → Hp → Prop} {r : VK} {b c : L2.St → Hp → Prop} (h : te σ H fun v H1 => gLst K k gs v σ H1 n) : tAsg te (gLst K k gs) ⟨n, r, b, c⟩ σ H := h
theorem x_gl3 {K : PySem.W.Frag} {σ : L2.St} {H : Hp} {T : Addr} {v w u : V} {i j k : Nat} {N : L2.St → Hp → Prop} (ht : SqL K H T [v, w, u]) (h : N (((σ.set i (some v)).set j (some w)).set k (some u)) H) : gLst K 3 (gCons (gName i) (gCons (gName j) (gCons (gName k) gNil))) (.ref T) σ H N :=
  ⟨T, [v, w, u], rfl, ht, rfl, v, [w, u], rfl, w, [u], rfl, u, [], rfl, rfl, h⟩
theorem same_woN {H H' : Hp} {p : Addr} (s : L2.Same H H') (h : H p = none) : L2.Same H (wo H' p) := fun b o e => by
  have n : b ≠ p := fun q => by rw [q, h] at e; cases e
  rw [wo_ne n]
  exact s b o e
/-- a table without a list's place -/
theorem tab_woL {H : Hp} {D t : Addr} {xs : List V} {l : List (Str × Sd)} {h : Int} (hd : H D = some (.lst xs)) (hT : DictOf SdAt H t l) (hg : GoodT h l) : DictOf SdAt (wo H D) t l := by
  obtain ⟨m, h1, h2, h3⟩ := hT.ex
  have n1 : t ≠ D := ne_of h1 hd (by intro z; cases z)
  refine ⟨m, by rw [wo_ne n1]; exact h1, h2, fun z a hza => ?_⟩
  obtain ⟨x, hx, hs⟩ := h3 _ _ hza
  refine ⟨x, hx, sd_wo (fun xs e => ?_) (fun l hl e => ?_) (fun l hl hD => ?_) hs (hg.sd z x hx)⟩
  · rw [hd] at e
    cases e
  · rw [hd] at e
    cases e
  · obtain ⟨m2, g1, _⟩ := hD.ex
    rw [hd] at g1
    cases g1
theorem tab_ne {H : Hp} {D t : Addr} {xs : List V} {l : List (Str × Sd)} (hd : H D = some (.lst xs)) (hT : DictOf SdAt H t l) : t ≠ D := by
  obtain ⟨m, h1, _⟩ := hT.ex
  exact ne_of h1 hd (by intro z; cases z)
theorem x_slots {t : TS} {D : Ends} {σ σ' : L2.St} {H : Hp} (e : σ = σ') (q : t D σ' H) : t D σ H := by
  rw [e]
  exact q
theorem same_but {H H' H'' : Hp} {p : Addr} (s : L2.Same H H') (hp : H p = none) (b : But p H' H'') : L2.Same H H'' := fun x o e => b _ _ (s _ _ e) (ne_of_none e hp)
section
variable {P : Program} {w : World} {K : PySem.W.Frag} {mg : Str → Option Value} {base : Heap} {CW C : Addr}
set_option maxHeartbeats 40000000 in
theorem ok_law {f : Addr} {fd : FuncData} (F : Fun K "law" "law" s_law f fd) (Z_list : mg "list" = none) (Z_repr : mg "repr" = none) (Z_sys : (K.lookup sysModules).isSome = true)
    (C_l_build : Cal P w K mg base 5 "_law_build" ["_law_script"] (spBuild K)) (C_l_open : Cal P w K mg base 1 "_law_open" ["_law_script", "_law_k"] (spOpen K)) (C_l_worths : Cal P w K mg base 2 "_law_worths" ["_law_drawer", "_law_stands_here"] spWorthsC)
    (C_endless : Cal P w K mg base 2 "_law_endless" ["_law_drawer", "_law_worths_here"] spEndlessC) (C_l_level : Cal P w K mg base 2 "_law_level" ["_law_drawer", "_law_worths_here", "_law_endless_here"] spLevelC) (C_l_book : Cal P w K mg base 2 "_law_book" ["_law_drawer", "_law_stands_here"] spBookL)
    (M_Work : Mkc P w K mg base CW 5 "Work" ["self", "hands", "start", "stands"] (spWorkInit CW)) (M_Wish : Mkc P w K mg base C 4 "Wish" ["self", "worths", "endless"] (spWishInit C)) (C_l_asked : Cal P w K mg base 8 "_law_asked" ["_law_work", "_law_wish", "_law_stands_here", "_law_worths_here", "_law_level_here", "_law_book_here", "_law_start"] (spAsked CW C))
    (C_l_turned : Cal P w K mg base 1 "_law_turned" ["_law_table"] spTurned) (C_l_turned_stands : Cal P w K mg base 2 "_law_turned_stands" ["_law_stands_here"] spTurnS) (C_breaking : Cal P w K mg base 5 "breaking" ["work", "wish", "level", "book"] (spBreaking CW C)) (C_kept_stands : Cal P w K mg base 7 "kept_stands" ["work", "wish", "level", "book"] (spKept CW C))
    (C_l_known_breach : Cal P w K mg base 7 "_law_known_breach" ["_law_work", "_law_wish", "_law_stands_here", "_law_level_here", "_law_book_here"] (spKnown CW C)) : FnL P w K mg base f fd ["_law_script"] (spLaw K) := by
  refine Fun.okL (k := 8) ⟨rfl, by decide, by decide⟩ F sc_law (fun vs H Q E h => ?_) (fun cdv s H vs Q hr h => ?_)
  · obtain ⟨_, _, rfl, _⟩ := h
    rfl
  · obtain ⟨sa, sc, rfl, hS, hlen, k⟩ := h
    have hu := hu_of hr
    refine ⟨_, (pss_cons (ps_asg (pe_cal C_l_build (hr.mono (by decide)) (by rfl) (pa_cons (pv 0) pa_nil)) (pg_lst (n := 3) rfl (pgs_cons (pg_name (i := 1) sc_law.nd rfl (Or.inl rfl)) (pgs_cons (pg_name (i := 2) sc_law.nd rfl (Or.inl rfl)) (pgs_cons (pg_name (i := 3) sc_law.nd rfl (Or.inl rfl)) pgs_nil)))))
      (pss_cons (ps_set (i := 4) sc_law.nd rfl (Or.inl rfl) (pe_cal C_l_open (hr.mono (by decide)) (by rfl) (pa_cons (pv 0) (pa_cons pe_int pa_nil))))
      (pss_cons (ps_set (i := 5) sc_law.nd rfl (Or.inl rfl) (pe_cal C_l_worths (hr.mono (by decide)) (by rfl) (pa_cons (pv 4) (pa_cons (pv 3) pa_nil))))
      (pss_cons (ps_set (i := 6) sc_law.nd rfl (Or.inl rfl) (pe_cal C_endless (hr.mono (by decide)) (by rfl) (pa_cons (pv 4) (pa_cons (pv 5) pa_nil))))
      (pss_cons (ps_set (i := 7) sc_law.nd rfl (Or.inl rfl) (pe_cal C_l_level (hr.mono (by decide)) (by rfl) (pa_cons (pv 4) (pa_cons (pv 5) (pa_cons (pv 6) pa_nil)))))
      (pss_cons (ps_set (i := 8) sc_law.nd rfl (Or.inl rfl) (pe_cal C_l_book (hr.mono (by decide)) (by rfl) (pa_cons (pe_cal C_l_open (hr.mono (by decide)) (by rfl) (pa_cons (pv 0) (pa_cons pe_int pa_nil))) (pa_cons (pv 3) pa_nil))))
      (pss_cons (ps_set (i := 9) sc_law.nd rfl (Or.inl rfl) (pe_mk M_Work (hr.mono (by decide)) (by rfl) (pa_cons (pv 1) (pa_cons (pe_ix ix_list (pv 2) pe_int (fun _ _ => rfl)) (pa_cons (pv 3) pa_nil)))))
      (pss_cons (ps_set (i := 10) sc_law.nd rfl (Or.inl rfl) (pe_mk M_Wish (hr.mono (by decide)) (by rfl) (pa_cons (pv 5) (pa_cons (pv 6) pa_nil))))
      (pss_cons (ps_set (i := 11) sc_law.nd rfl (Or.inl rfl) (pe_callB (call_repr rfl (hu100 hr) Z_sys) (by rfl) Z_repr (by decide +kernel) (pa_cons (pv 8) pa_nil)))
      (pss_cons (ps_if (pt_not (pt_val (pe_cal C_l_asked (hr.mono (by decide)) (by rfl) (pa_cons (pv 9) (pa_cons (pv 10) (pa_cons (pv 3) (pa_cons (pv 5) (pa_cons (pv 7) (pa_cons (pv 8) (pa_cons (pe_ix ix_list (pv 2) pe_int (fun _ _ => rfl)) pa_nil))))))))))
      (pss_one (ps_ret pe_bl))
      pss_nil)
      (pss_cons (ps_set (i := 12) sc_law.nd rfl (Or.inl rfl) (pe_mk M_Work (hr.mono (by decide)) (by rfl) (pa_cons (pv 1) (pa_cons (pe_ix ix_list (pv 2) pe_int (fun _ _ => rfl)) (pa_cons (pe_cal C_l_turned_stands (hr.mono (by decide)) (by rfl) (pa_cons (pv 3) pa_nil)) pa_nil)))))
      (pss_cons (ps_set (i := 13) sc_law.nd rfl (Or.inl rfl) (pe_mk M_Wish (hr.mono (by decide)) (by rfl) (pa_cons (pe_cal C_l_turned (hr.mono (by decide)) (by rfl) (pa_cons (pv 5) pa_nil)) (pa_cons (pv 6) pa_nil))))
      (pss_cons (ps_set (i := 14) sc_law.nd rfl (Or.inl rfl) pe_dnewK)
      (pss_cons (ps_for PassesOwn.never rfl (pi_list (pe_revL (pe_callTy (call_list_dK rfl) (by rfl) Z_list (by decide +kernel) (pa_cons (pv 8) pa_nil)))) (pg_name (i := 15) sc_law.nd rfl (Or.inl rfl))
      (pss_one (ps_dput hu (pv 14) (pv 15) (pe_dget hu (pv 8) (pv 15) (fun _ _ => rfl)) rfl)))
      (pss_cons (ps_if (pt_cmpR (op_neD hr.units) (pe_cal C_breaking (hr.mono (by decide)) (by rfl) (pa_cons (pv 12) (pa_cons (pv 13) (pa_cons (pv 7) (pa_cons (pv 14) pa_nil))))) (pe_cal C_breaking (hr.mono (by decide)) (by rfl) (pa_cons (pv 9) (pa_cons (pv 10) (pa_cons (pv 7) (pa_cons (pv 8) pa_nil))))) (nomark _))
      (pss_one (ps_ret pe_bl))
      pss_nil)
      (pss_cons (ps_for PassesOwn.never rfl (pi_tup (pe_tup (pa_cons (pe_cal C_breaking (hr.mono (by decide)) (by rfl) (pa_cons (pv 9) (pa_cons (pv 10) (pa_cons (pv 7) (pa_cons (pv 8) pa_nil))))) (pa_cons (pe_cal C_kept_stands (hr.mono (by decide)) (by rfl) (pa_cons (pv 9) (pa_cons (pv 10) (pa_cons (pv 7) (pa_cons (pv 8) pa_nil))))) pa_nil)))) (pg_name (i := 16) sc_law.nd rfl (Or.inl rfl))
      (pss_one (ps_if (pt_cmpR op_notNA (pv 16) pe_non (nomark _))
      (pss_one (ps_expr (pe_bm PySem.F.plainAttrs_list PySem.F.slot_list_append PySem.F.type_list_append mt_append (pv 16) (pa_cons pe_str pa_nil))))
      pss_nil)))
      (pss_cons (ps_if (PW.pt (pw_or (pt_not (pt_val (pe_cal C_l_asked (hr.mono (by decide)) (by rfl) (pa_cons (pv 9) (pa_cons (pv 10) (pa_cons (pv 3) (pa_cons (pv 5) (pa_cons (pv 7) (pa_cons (pv 8) (pa_cons (pe_ix ix_list (pv 2) pe_int (fun _ _ => rfl)) pa_nil)))))))))) (pw_or1 (pt_cmpR op_ne (pe_callB (call_repr rfl (hu100 hr) Z_sys) (by rfl) Z_repr (by decide +kernel) (pa_cons (pv 8) pa_nil)) (pv 11) (nomark _)))))
      (pss_one (ps_ret pe_bl))
      pss_nil)
      (pss_cons (ps_if (pt_not (pt_val (pe_cal C_l_asked (hr.mono (by decide)) (by rfl) (pa_cons (pv 9) (pa_cons (pv 10) (pa_cons (pv 3) (pa_cons (pv 5) (pa_cons (pv 7) (pa_cons pe_dnewK (pa_cons (pe_ix ix_list (pv 2) pe_int (fun _ _ => rfl)) pa_nil))))))))))
      (pss_one (ps_ret pe_bl))
      pss_nil)
      (pss_one (ps_ret (pe_cal C_l_known_breach (hr.mono (by decide)) (by rfl) (pa_cons (pv 9) (pa_cons (pv 10) (pa_cons (pv 3) (pa_cons (pv 7) (pa_cons (pv 8) pa_nil)))))))))))))))))))))))))), ?_⟩
    refine x_seq ?_
    refine x_asgL ?_
    walk_at "go"
    refine ⟨sa, sc, rfl, hS, hlen, fun H1 r q D h ns l s1 hr1 hq1 hT g hkeys h1 h4 hl8 hfin nzz => ?_⟩
    refine x_gl3 (SqL.of hr1) ?_
    try dsimp only
    refine x_slots (σ' := [some (.ref sa), some (.int h), some (.ref q), some (.ref D), none, none, none, none, none, none, none, none, none, none, none, none, none]) rfl ?_
    obtain ⟨n0, nt, en⟩ : ∃ a t, ns = a :: t := by
      have := g.l1
      cases ns with
      | nil =>
        have e := congrArg List.length hkeys
        rw [List.length_map] at e
        simp at e
        rw [e] at this
        simp at this
      | cons a t => exact ⟨a, t, rfl⟩
    have hn0 : n0 ∈ l.map (·.1) := by rw [hkeys, en]; exact List.mem_cons_self
    have hns0 : (strsV ns)[0]? = some (V.str n0) := by rw [en]; rfl
    walk_at "go"
    refine ⟨sa, sc, 2, rfl, s1.seq hS, hlen, by decide, by decide, fun H2 p s2 hp1 hp2 => ?_⟩
    have w2 : L2.Same H1 (wo H2 p) := same_woN s2 hp1
    have hp0 : H p = none := s1.free hp1
    have hq4 : (wo H2 p) q = some (.lst (strsV ns)) := w2 _ _ hq1
    have nD : D ≠ p := by obtain ⟨c1, c2, c3, c4, e⟩ := hp2; exact tab_ne e (hT.same s2)
    have hT4 : DictOf SdAt (wo H2 p) D l := by obtain ⟨c1, c2, c3, c4, e⟩ := hp2; exact tab_woL e (hT.same s2) g
    walk_at "go"
    refine ⟨p, D, l, h, rfl, hp2, hT4, nD, g, fun H5 G wl b5 hp5 hG0 nG hG5 wnd wiff wbd => ?_⟩
    have v5 := but_wo b5
    have wlen : wl.length ≤ 8 := by
      have := List.Nodup.length_le_of_subset wnd (l₂ := l.map (·.1)) fun z hz => List.mem_map.mpr ⟨_, lookup_mem ((wiff z).mp hz), rfl⟩
      rw [List.length_map, List.length_map] at this
      omega
    have wpos : 1 ≤ wl.length := by
      obtain ⟨z, hz⟩ := hfin
      have hz2 := (wiff z).mpr hz
      cases wl with
      | nil => cases hz2
      | cons _ _ => simp
    walk_at "go"
    refine ⟨p, G, wl, rfl, hp5, hG5, nG, wnd, wpos, by omega, wbd, fun H6 e b6 hp6 e1 e2 eside => ?_⟩
    have hG6 := b6 _ _ hG5 nG
    walk_at "go"
    refine ⟨p, G, e, wl, rfl, hp6, hG6, nG, wnd, by omega, wbd, e1, e2, fun H7 lv b b7 hp7 hlv0 nlv hlv7 lvok => ?_⟩
    have v27 : L2.Same (wo H2 p) H7 := ((v5.trans (but_wo b6)).trans (but_wo b7)).trans wo_same
    have s07 : L2.Same H H7 := (same_woN (s1.trans s2) hp0).trans v27
    have hT7 := hT4.same v27
    have hq7 := v27 _ _ hq4
    have hG7 : H7 G = some (.dK (strK V.int wl)) := b7 _ _ hG6 nG
    clear hT4 hq4 w2
    try dsimp only
    refine x_slots (σ' := [some (.ref sa), some (.int h), some (.ref q), some (.ref D), some (.ref p), some (.ref G), some (.int e), some (.ref lv), none, none, none, none, none, none, none, none, none]) rfl ?_
    walk_at "go"
    refine ⟨sa, sc, 3, rfl, s07.seq hS, hlen, by decide, by decide, fun H8 p3 s8 hp37 hp38 => ?_⟩
    have nD3 : D ≠ p3 := by obtain ⟨c1, c2, c3, c4, e⟩ := hp38; exact tab_ne e (hT7.same s8)
    have hT83 : DictOf SdAt (wo H8 p3) D l := by obtain ⟨c1, c2, c3, c4, e⟩ := hp38; exact tab_woL e (hT7.same s8) g
    walk_at "go"
    refine ⟨p3, D, h, l, rfl, hp38, hT83, nD3, g, fun H9 B bk b9 _ hB08 nB0 hB9 bnd bok => ?_⟩
    have s79 : L2.Same H7 H9 := same_but s8 hp37 b9
    have hT9 := hT7.same s79
    have hq9 := s79 _ _ hq7
    have hG9 := s79 _ _ hG7
    have hlv9 := s79 _ _ hlv7
    walk_at "go"
    refine x_ixl 0 (SqL.of hq9) rfl hns0 ?_
    walk_at "go"
    intro W dW nW ndW nn
    have hTm : DictOf SdAt (upd (upd H9 dW (.own W)) W (.ins CW dW [])) D l := hT9.same ((same_new ndW).trans (same_new (by rw [upd_ne (Ne.symm nn)]; exact nW)))
    refine ⟨W, D, dW, h, n0, l, rfl, upd_same, hTm, g, h1, h4, hn0, fun H10 lw kW Tw wa => ⟨rfl, ?_⟩⟩
    have s10 : L2.Same H9 H10 := same_made (L2.Same.refl _) nW ndW kW
    have gw : GoodW wl e := ⟨wnd, by omega, fun q hq => g.nm q.1 (List.mem_map.mpr ⟨_, lookup_mem ((wiff q.1).mp (List.mem_map.mpr ⟨q, hq, rfl⟩)), rfl⟩), fun q hq => by have := wbd q hq; omega, by omega, eside⟩
    have wok : WorthsOk wl := ⟨gw.lo, by have := gw.len; omega⟩
    walk_at "go"
    intro I dI nI ndI nn2
    have sI : L2.Same H10 (upd (upd H10 dI (.own I)) I (.ins C dI [])) := (same_new ndI).trans (same_new (by rw [upd_ne (Ne.symm nn2)]; exact nI))
    refine ⟨I, G, dI, e, wl, rfl, upd_same, sI _ _ (s10 _ _ hG9), gw, fun H11 kI wi => ⟨rfl, ?_⟩⟩
    have s11 : L2.Same H10 H11 := same_made (L2.Same.refl _) nI ndI kI
    have s911 := s10.trans s11
    have fx : Fx CW C H11 W I D G lv B n0 h e l lw wl b bk := ⟨wa.same s11, wi, hT9.same s911, g, Tw, s911 _ _ hG9, wiff, wnd, wok, s911 _ _ hlv9, lvok, hB9.imp s911 fun _ _ h => s911 _ _ h, bnd, bok, hn0⟩
    have hq11 := s911 _ _ hq9
    have bl8 : bk.length ≤ 8 := by
      have := List.Nodup.length_le_of_subset bnd (l₂ := l.map (·.1)) fun z hz => by
        obtain ⟨q, hq, rfl⟩ := List.mem_map.mp hz
        obtain ⟨_, _, hx, _⟩ := bok q hq
        exact List.mem_map.mpr ⟨_, lookup_mem hx, rfl⟩
      rw [List.length_map, List.length_map] at this
      omega
    obtain ⟨d, sh, d1, d2, d3⟩ := book_shw fx.hB (bookok_nm g bok) bl8
    clear hTm hT83 hT9 hT7
    try dsimp only
    refine x_slots (σ' := [some (.ref sa), some (.int h), some (.ref q), some (.ref D), some (.ref p), some (.ref G), some (.int e), some (.ref lv), some (.ref B), some (.ref W), some (.ref I), none, none, none, none, none, none]) rfl ?_
    walk_at "go"
    refine ⟨.ref B, d, rfl, sh, d1, d2, d3, ?_⟩
    walk_at "go"
    refine x_ixl 0 (SqL.of hq11) rfl hns0 ?_
    walk_at "go"
    refine ⟨W, I, D, G, lv, B, n0, h, e, l, lw, wl, b, bk, rfl, fx, fun H12 s12 => ?_⟩
    have fx12 := fx.same s12
    have hq12 := s12 _ _ hq11
    walk_at "go"
    refine x_ixl 0 (SqL.of hq12) rfl hns0 ?_
    walk_at "go"
    refine ⟨D, h, l, rfl, fx12.tab, g, fun H13 D2 l2 s13 hD20 hD2 TT => ?_⟩
    walk_at "go"
    intro W2 dW2 nW2 ndW2 nn3
    have hTm2 : DictOf SdAt (upd (upd H13 dW2 (.own W2)) W2 (.ins CW dW2 [])) D2 l2 := hD2.same ((same_new ndW2).trans (same_new (by rw [upd_ne (Ne.symm nn3)]; exact nW2)))
    refine ⟨W2, D2, dW2, h, n0, l2, rfl, upd_same, hTm2, TT.good g, h1, h4, TT.pm.mem_iff.mpr hn0, fun H14 lw2 kW2 Tw2 wa2 => ⟨rfl, ?_⟩⟩
    have e2w : lw2 = lw := turn_one g TT Tw Tw2
    subst e2w
    have s14 : L2.Same H13 H14 := same_made (L2.Same.refl _) nW2 ndW2 kW2
    have s1114 := (s12.trans s13).trans s14
    have fx14 := fx.same s1114
    clear hTm2 hD2
    try dsimp only
    refine x_slots (σ' := [some (.ref sa), some (.int h), some (.ref q), some (.ref D), some (.ref p), some (.ref G), some (.int e), some (.ref lv), some (.ref B), some (.ref W), some (.ref I), some (.str d.shown), some (.ref W2), none, none, none, none]) rfl ?_
    walk_at "go"
    have em : (wl.map fun q => (q.1, V.int q.2)).map (·.1) = wl.map (·.1) := by rw [List.map_map]; rfl
    refine ⟨G, wl.map fun q => (q.1, V.int q.2), rfl, by rw [← strK_id]; exact fx14.hG, by rw [em]; exact wnd, by rw [List.length_map]; omega, fun H15 G2 zs s15 hG20 hzp hG2 => ?_⟩
    rw [em] at hzp
    rw [strK_re V.int hzp] at hG2
    have wp : (reL wl 0 zs).Perm wl := re_perm hzp wnd
    have wnd2 : ((reL wl 0 zs).map (·.1)).Nodup := by rw [re_keys]; exact (hzp.nodup_iff).mpr wnd
    generalize reL wl 0 zs = wl2 at hG2 wp wnd2
    have gw2 : GoodW wl2 e := ⟨wnd2, by rw [wp.length_eq]; exact gw.len, fun q hq => gw.nm q (wp.mem_iff.mp hq), fun q hq => gw.lo q (wp.mem_iff.mp hq), gw.elo, gw.side.imp (fun z q hq => z q (wp.mem_iff.mp hq)) fun z q hq => z q (wp.mem_iff.mp hq)⟩
    walk_at "go"
    intro I2 dI2 nI2 ndI2 nn4
    have sI2 : L2.Same H15 (upd (upd H15 dI2 (.own I2)) I2 (.ins C dI2 [])) := (same_new ndI2).trans (same_new (by rw [upd_ne (Ne.symm nn4)]; exact nI2))
    refine ⟨I2, G2, dI2, e, wl2, rfl, upd_same, sI2 _ _ hG2, gw2, fun H16 kI2 wi2 => ⟨rfl, ?_⟩⟩
    have s16 : L2.Same H15 H16 := same_made (L2.Same.refl _) nI2 ndI2 kI2
    have s1416 := s15.trans s16
    have fx16 := fx14.same s1416
    have wa16 := wa2.same (s14 |> fun _ => s1416)
    have hG16 := s16 _ _ hG2
    clear fx14 hG2
    walk_at "go"
    intro M nM
    have s17 : L2.Same H16 (upd H16 M (.dK [])) := same_new nM
    have hM17 : (upd H16 M (.dK [])) M = some (.dK []) := upd_same
    generalize upd H16 M (.dK []) = H17 at s17 hM17
    obtain ⟨mB, hB16, hBk, hBv⟩ := fx16.hB.ex
    try dsimp only
    refine x_slots (σ' := [some (.ref sa), some (.int h), some (.ref q), some (.ref D), some (.ref p), some (.ref G), some (.int e), some (.ref lv), some (.ref B), some (.ref W), some (.ref I), some (.str d.shown), some (.ref W2), some (.ref I2), some (.ref M), none, none]) rfl ?_
    walk_at "go"
    refine ⟨B, _, rfl, s17 _ _ hB16, fun c1 hc1 => ?_⟩
    have ekk : (strK V.ref mB).map (fun kv => kV kv.1) = strsV (bk.map (·.1)) := by
      rw [← hBk, List.map_map]
      show _ = List.map V.str (List.map _ mB)
      rw [List.map_map]
      rfl
    rw [ekk]
    have s18 : L2.Same H16 (upd H17 c1 (.lst (strsV (bk.map (·.1))))) := s17.trans (same_new hc1)
    have hM18 : (upd H17 c1 (.lst (strsV (bk.map (·.1))))) M = some (.dK []) := by rw [upd_ne (ne_of_none hM17 hc1)]; exact hM17
    have hc18 : (upd H17 c1 (.lst (strsV (bk.map (·.1))))) c1 = some (.lst (strsV (bk.map (·.1)))) := upd_same
    generalize upd H17 c1 (.lst (strsV (bk.map (·.1)))) = H18 at s18 hM18 hc18
    refine x_rev (SqL.of hc18) fun c hc => ?_
    rw [show (strsV (bk.map (·.1))).reverse = strsV (bk.map (·.1)).reverse from (List.map_reverse ..).symm]
    have nMc : M ≠ c := ne_of_none hM18 hc
    have s19 : L2.Same H16 (upd H18 c (.lst (strsV (bk.map (·.1)).reverse))) := s18.trans (same_new hc)
    have hM19 : (upd H18 c (.lst (strsV (bk.map (·.1)).reverse))) M = some (.dK []) := by rw [upd_ne nMc]; exact hM18
    have hc19 : (upd H18 c (.lst (strsV (bk.map (·.1)).reverse))) c = some (.lst (strsV (bk.map (·.1)).reverse)) := upd_same
    generalize upd H18 c (.lst (strsV (bk.map (·.1)).reverse)) = H19 at s19 hM19 hc19
    have hyp : ((bk.map (·.1)).reverse).Perm (bk.map (·.1)) := List.reverse_perm _
    generalize (bk.map (·.1)).reverse = ys at hyp hc19
    have ynd : ys.Nodup := (hyp.nodup_iff).mpr bnd
    have yl : ys.length ≤ 8 := by rw [hyp.length_eq, List.length_map]; exact bl8
    have hypB : ys.Perm (mB.map (·.1)) := by rw [hBk]; exact hyp
    refine lpL (xs := strsV ys) (fun i σ H' => ∃ v15, σ = [some (.ref sa), some (.int h), some (.ref q), some (.ref D), some (.ref p), some (.ref G), some (.int e), some (.ref lv), some (.ref B), some (.ref W), some (.ref I), some (.str d.shown), some (.ref W2), some (.ref I2), some (.ref M), v15, none] ∧ L2.Same H16 H' ∧ H' c = some (.lst (strsV ys)) ∧ H' M = some (.dK (strK V.ref (reL mB 0 (ys.take i))))) (SqL.of hc19) ?_ ?_ ?_ ?_
    · exact ⟨_, rfl, s19, hc19, by rw [List.take_zero]; exact hM19⟩
    · exact fun i σ H' _ ⟨_, _, _, h, _⟩ => SqL.of h
    · rintro i v σ H20 hv ⟨v15, rfl, s20, hc20, hM20⟩
      rw [List.getElem?_map] at hv
      cases hz : ys[i]? with
      | none => rw [hz] at hv; cases hv
      | some z =>
        rw [hz] at hv
        have ex : V.str z = v := Option.some.inj hv
        subst ex
        obtain ⟨x, hx⟩ := lookup_isSome (hypB.mem_iff.mp (List.mem_of_getElem? hz))
        have hn : z ∉ (reL mB 0 (ys.take i)).map (·.1) := by rw [re_keys]; exact take_not ynd hz
        walk_at "go"
        refine x_getL (l := mB) (f := V.ref) (.inl (s20 _ _ hB16)) hx ?_
        walk_at "go"
        refine x_putL (l := reL mB 0 (ys.take i)) (f := V.ref) (x := x) hM20 (by
          have : (reL mB 0 (ys.take i)).length = (ys.take i).length := by unfold reL; rw [List.length_map]
          rw [this, List.length_take]
          omega) rfl ?_
        refine ⟨_, rfl, same_upd s20 nM, by rw [upd_ne nMc.symm]; exact hc20, ?_⟩
        rw [upd_same, putL_new _ hn, re_snoc hz hx]
    · rintro σ H20 ⟨v15, rfl, s20, hc20, hM20⟩
      rw [List.length_map, List.take_length] at hM20
      have bp : (reL bk [] ys).Perm bk := re_perm hyp bnd
      have lk : ∀ z, (reL bk [] ys).lookup z = bk.lookup z := lookup_perm bp bnd
      have hMD : DictOf RwAt H20 M (reL bk [] ys) := by
        refine ⟨reL mB 0 ys, hM20, by rw [re_keys, re_keys], fun y a hya => ?_⟩
        obtain ⟨y', hy', e4⟩ := List.mem_map.mp (show (y, a) ∈ ys.map fun z => (z, (mB.lookup z).getD 0) from hya)
        cases e4
        obtain ⟨a0, ha0⟩ := lookup_isSome (hypB.mem_iff.mp hy')
        obtain ⟨x, hx, hxa⟩ := hBv y a0 (lookup_mem ha0)
        refine ⟨x, by rw [lk]; exact hx, ?_⟩
        rw [ha0]
        exact s20 _ _ hxa
      have bnd2 : ((reL bk [] ys).map (·.1)).Nodup := by rw [re_keys]; exact ynd
      have bok2 : BookOk l (reL bk [] ys) := fun q hq => bok q (bp.mem_iff.mp hq)
      generalize reL bk [] ys = bk2 at lk hMD bnd2 bok2
      have fx20 := fx16.same s20
      have wiff2 : ∀ z, z ∈ wl2.map (·.1) ↔ l.lookup z = some .fin := fun z => by rw [(wp.map (·.1)).mem_iff]; exact wiff z
      have fy : Fx CW C H20 W2 I2 D G2 lv M n0 h e l lw2 wl2 b bk2 := ⟨wa16.same s20, wi2.same s20, fx20.tab, g, Tw, s20 _ _ hG16, wiff2, wnd2, ⟨gw2.lo, by have := gw2.len; omega⟩, fx20.lv, lvok, hMD, bnd2, bok2, hn0⟩
      have eb : ∀ z, belowB wl2 b z = belowB wl b z := fun z => by
        unfold belowB
        rw [lookup_perm wp wnd]
      have elet : ∀ z, letS lw2 bk2 z = letS lw2 bk z := fun z => by
        unfold letS
        rw [lk]
      have ebfs : bfsW lw2 bk2 n0 lw2.length = bfsW lw2 bk n0 lw2.length := bfs_congr elet _
      have brkT : ∀ i z, Brk lw2 bk2 n0 wl2 b i z → Brk lw2 bk n0 wl b i z := fun i z ⟨a1, a2, a3⟩ => ⟨by rw [← ebfs]; exact a1, by rw [← eb]; exact a2, fun j y hj hy => by rw [← eb]; exact a3 j y hj (by rw [ebfs]; exact hy)⟩
      have upT : allUp lw2 bk2 n0 wl2 b → allUp lw2 bk n0 wl b := fun hall z hz => by
        rw [← eb]
        refine hall z ((ways_iff fy.ok z).mp ?_)
        rw [ebfs]
        exact (ways_iff fx20.ok z).mpr hz
      refine x_seq ?_
      refine if_joinH (α := Unit) (fun _ H' => L2.Same H20 H') (fun _ => [some (.ref sa), some (.int h), some (.ref q), some (.ref D), some (.ref p), some (.ref G), some (.int e), some (.ref lv), some (.ref B), some (.ref W), some (.ref I), some (.str d.shown), some (.ref W2), some (.ref I2), some (.ref M), v15, none]) (fun n' hn' => ?_) ?_
      · walk_at "go"
        refine ask_breaking fy (fun hall H21 s21 => ?_) (fun i z kb H21 R2 s21 hR20 hR2 => ?_)
        · walk_at "go"
          refine ask_breaking (fx20.same s21) (fun _ H22 s22 => ?_) (fun i' z' kb' _ _ _ _ _ => absurd (upT hall) (brk_not fx20.ok kb'))
          walk_at "go"
          refine ⟨_, _, .non, .non, rfl, rfl, ?_⟩
          rw [SeqAt.eqv_refl PyData.none rfl]
          walk_at "go"
          exact hn' () _ (s21.trans s22)
        · walk_at "go"
          refine ask_breaking (fx20.same s21) (fun hall' _ _ => absurd hall' (brk_not fx20.ok (brkT i z kb))) (fun i' z' kb' H22 R1 s22 hR10 hR1 => ?_)
          have ei : i = i' := brk_one (brkT i z kb) kb'
          subst ei
          rw [ebfs] at hR2
          have hwk := way_wlk fx20.ok.inv i z (brkT i z kb).1
          have nms := wlk_nm fx20.gw fx20.bw hwk
          walk_at "go"
          refine x_neLS (SqL.of (s22 _ _ hR2)) (SqL.of hR1) (fun z hz => NameS.ok (nms z hz)) (fun z hz => NameS.ok (nms z hz)) ?_
          rw [decide_eq_true rfl]
          walk_at "go"
          exact hn' () _ (s21.trans s22)
      · rintro ⟨⟩ H22 s22
        have fx22 := fx20.same s22
        have hq22 : H22 q = some (.lst (strsV ns)) := s22 _ _ (s20 _ _ (s1416 _ _ (s14 _ _ (s13 _ _ hq12))))
        clear fx20 fx16 fx12 hMD hM20 hc20
        walk_at "go"
        refine ask_breaking_any fx22 fun v1 H23 s23 tv1 => ?_
        walk_at "go"
        refine ask_kept_any (fx22.same s23) fun v2 H24 s24 tv2 => ?_
        walk_at "go"
        refine ⟨sz_le (by simp), fun T nT => ?_⟩
        have s25 : L2.Same H24 (upd H24 T (.tup [v1, v2])) := same_new nT
        have hT25 : (upd H24 T (.tup [v1, v2])) T = some (.tup [v1, v2]) := upd_same
        generalize upd H24 T (.tup [v1, v2]) = H25 at s25 hT25
        have u1 : ToldV H22 H25 1000 v1 := tv1.same (s24.trans s25)
        have u2 : ToldV H22 H25 1000 v2 := (tv2.base s23).same s25
        walk_at "go"
        refine lpT (xs := [v1, v2]) (fun i σ H' => ∃ v16, σ = [some (.ref sa), some (.int h), some (.ref q), some (.ref D), some (.ref p), some (.ref G), some (.int e), some (.ref lv), some (.ref B), some (.ref W), some (.ref I), some (.str d.shown), some (.ref W2), some (.ref I2), some (.ref M), v15, v16] ∧ L2.Same H22 H' ∧ H' T = some (.tup [v1, v2]) ∧ ToldV H22 H' (1000 + i) v1 ∧ ToldV H22 H' (1000 + i) v2) (SqT.of hT25) ?_ ?_ ?_ ?_
        · exact ⟨_, rfl, (s23.trans s24).trans s25, hT25, u1, u2⟩
        · exact fun i σ H' _ ⟨_, _, _, h, _⟩ => SqT.of h
        · rintro i x σ H26 hx ⟨v16, rfl, s26, hT26, t1, t2⟩
          have hi : i < 2 := (List.getElem?_eq_some_iff.mp hx).1
          have tx : ToldV H22 H26 (1000 + i) x := by
            rcases List.mem_cons.mp (List.mem_of_getElem? hx) with rfl | hm
            · exact t1
            · rw [List.mem_singleton.mp hm]; exact t2
          walk_at "go"
          rcases tx with rfl | ⟨a, xs, rfl, ha0, ha, hl⟩
          · refine x_nyes rfl ?_
            walk_at "go"
            exact ⟨_, rfl, s26, hT26, t1.mono (by omega), t2.mono (by omega)⟩
          · refine x_nno (fun z => by cases z) ?_
            walk_at "go"
            refine x_app ha (sz_lt (by omega)) ?_
            walk_at "go"
            refine ⟨_, rfl, same_upd s26 ha0, by rw [upd_ne (ne_of hT26 ha (by intro z; cases z))]; exact hT26, t1.app ha hl, t2.app ha hl⟩
        · rintro σ H26 ⟨v16, rfl, s26, hT26, t1, t2⟩
          have fx26 := fx22.same s26
          have hq26 := s26 _ _ hq22
          walk_at "go"
          refine x_ixl 0 (SqL.of hq26) rfl hns0 ?_
          walk_at "go"
          refine ⟨W, I, D, G, lv, B, n0, h, e, l, lw2, wl, b, bk, rfl, fx26, fun H27 s27 => ?_⟩
          have s1127 : L2.Same H11 H27 := (((s1114.trans s1416).trans s20).trans s22).trans (s26.trans s27)
          have fx27 := fx26.same s27
          walk_at "go"
          refine ⟨.ref B, d, rfl, sh.same s1127, d1, d2, d3, ?_⟩
          walk_at "go"
          refine x_nyes rfl ?_
          walk_at "go"
          intro E0 nE
          have s28 : L2.Same H27 (upd H27 E0 (.dK [])) := same_new nE
          have hE : DictOf RwAt (upd H27 E0 (.dK [])) E0 ([] : List (Str × List Str)) := ⟨⟨[], upd_same, rfl, fun z a hza => by cases hza⟩⟩
          generalize upd H27 E0 (.dK []) = H28 at s28 hE
          have f28 := fx27.same s28
          have fe : Fx CW C H28 W I D G lv E0 n0 h e l lw2 wl b [] := ⟨f28.wk, f28.wi, f28.tab, f28.g, f28.ts, f28.hG, f28.iff, f28.nw, f28.wo, f28.lv, f28.lo, hE, List.nodup_nil, (fun q hq => by cases hq), f28.st⟩
          walk_at "go"
          refine x_ixl 0 (SqL.of (s28 _ _ (s27 _ _ hq26))) rfl hns0 ?_
          walk_at "go"
          refine ⟨W, I, D, G, lv, E0, n0, h, e, l, lw2, wl, b, [], rfl, fe, fun H29 s29 => ?_⟩
          walk_at "go"
          exact ⟨W, I, D, G, lv, B, n0, h, e, l, lw2, wl, b, bk, rfl, f28.same s29, fun H' _ => k _⟩
end
end Law
namespace Law
open PySem PySem.Spec PyProof.Rows L2 Ox
theorem facts {P : Program} {w : World} {K : PySem.W.Frag} {h : Heap} {mg : Str → Option Value} {f : Addr} (X : K.In h) (G : h.Ns mainGlobals mg) (hfa : mg ("law" : Str) = some (.ref f)) (hPf : ((P.main.file : Str) == "/claim/cut.py") = true) (hPt : (P.main.scope.names.lookup ("super" : Str)).isSome = false) (c2 : Oh.Told2 "/claim/cut.py" faA dsA ssA K) :
    ∃ fd : FuncData, (∀ (s : Shared) (v : Value), BindsTo s fd ⟨[v], []⟩ [("_law_script", v)]) ∧ ∀ base : Heap, K.In base → base.Ns mainGlobals mg → FnL P w K mg base f fd ["_law_script"] ((spLaw K)) := by
  have c := c2.told
  obtain ⟨_, F_law⟩ := c.def_ 0 (d := d_law) rfl
  have e := hfa.symm.trans (He.glo_ok X G (c.fact 0 (f := Oh.fo (.glo "law")) rfl))
  cases e
  have b := Oh.bindsA (ps := ["_law_script"]) F_law fun _ _ _ _ _ _ us hl => match us, hl with | [_], _ => rfl
  refine ⟨_, fun s v => b s [v] rfl, fun base _ _ => ?_⟩
  have x1 : mg "list" = none := He.free_ok X G (c.fact 1 (f := Oh.fo (.free "list")) rfl)
  have x2 : mg "repr" = none := He.free_ok X G (c.fact 2 (f := Oh.fo (.free "repr")) rfl)
  have x3 : (K.lookup sysModules).isSome = true := (c.fact 3 (f := fun K => (K.lookup sysModules).isSome) rfl)
  obtain ⟨_, F_l_build⟩ := c.def_ 1 (d := d_l_build) rfl
  obtain ⟨_, F_l_open⟩ := c.def_ 2 (d := d_l_open) rfl
  have x4 : mg "len" = none := He.free_ok X G (c.fact 4 (f := Oh.fo (.free "len")) rfl)
  have x5 : mg "int" = none := He.free_ok X G (c.fact 5 (f := Oh.fo (.free "int")) rfl)
  have x6 : Cal P w K mg base 1 "_law_open" ["_law_script", "_law_k"] (spOpen K) := ⟨_, _, ok_l_open F_l_open x4 x5, He.glo_ok X G (c.fact 6 (f := Oh.fo (.glo "_law_open")) rfl), F_l_open.kp, bd_l_open F_l_open⟩
  obtain ⟨_, F_draw⟩ := c.def_ 3 (d := d_draw) rfl
  have x7 : Cal P w K mg base 1 "_law_draw" ["_law_drawer", "_law_many"] spDraw := ⟨_, _, ok_draw F_draw x5, He.glo_ok X G (c.fact 7 (f := Oh.fo (.glo "_law_draw")) rfl), F_draw.kp, bd_draw F_draw⟩
  obtain ⟨_, F_l_names⟩ := c.def_ 4 (d := d_l_names) rfl
  have x8 : mg "range" = none := He.free_ok X G (c.fact 8 (f := Oh.fo (.free "range")) rfl)
  have x9 : mg "str" = none := He.free_ok X G (c.fact 9 (f := Oh.fo (.free "str")) rfl)
  have x10 : Cal P w K mg base 2 "_law_names" ["_law_drawer", "_law_many"] spNames := ⟨_, _, ok_l_names F_l_names x8 x9 x7, He.glo_ok X G (c.fact 10 (f := Oh.fo (.glo "_law_names")) rfl), F_l_names.kp, bd_l_names F_l_names⟩
  obtain ⟨_, F_l_stands⟩ := c.def_ 5 (d := d_l_stands) rfl
  obtain ⟨_, F_l_menu⟩ := c.def_ 6 (d := d_l_menu) rfl
  have x11 : Cal P w K mg base 2 "_law_menu" ["_law_drawer"] spMenu := ⟨_, _, ok_l_menu F_l_menu x7, He.glo_ok X G (c.fact 11 (f := Oh.fo (.glo "_law_menu")) rfl), F_l_menu.kp, bd_l_menu F_l_menu⟩
  obtain ⟨_, F_l_stand⟩ := c.def_ 7 (d := d_l_stand) rfl
  obtain ⟨_, F_l_target⟩ := c.def_ 8 (d := d_l_target) rfl
  have x12 : Cal P w K mg base 2 "_law_target" ["_law_drawer", "_law_names_here", "_law_k", "_law_rings"] (spTarget K) := ⟨_, _, ok_l_target F_l_target x4 x7, He.glo_ok X G (c.fact 12 (f := Oh.fo (.glo "_law_target")) rfl), F_l_target.kp, bd_l_target F_l_target⟩
  have x13 : Cal P w K mg base 3 "_law_stand" ["_law_drawer", "_law_names_here", "_law_k", "_law_hands", "_law_menu_here", "_law_rings"] spStand := ⟨_, _, ok_l_stand F_l_stand x8 x4 x7 x12, He.glo_ok X G (c.fact 13 (f := Oh.fo (.glo "_law_stand")) rfl), F_l_stand.kp, bd_l_stand F_l_stand⟩
  have x14 : Cal P w K mg base 4 "_law_stands" ["_law_drawer", "_law_names_here", "_law_hands", "_law_rings"] spStands := ⟨_, _, ok_l_stands F_l_stands x8 x4 x11 x13, He.glo_ok X G (c.fact 14 (f := Oh.fo (.glo "_law_stands")) rfl), F_l_stands.kp, bd_l_stands F_l_stands⟩
  have x15 : Cal P w K mg base 5 "_law_build" ["_law_script"] (spBuild K) := ⟨_, _, ok_l_build F_l_build x6 x7 x10 x14, He.glo_ok X G (c.fact 15 (f := Oh.fo (.glo "_law_build")) rfl), F_l_build.kp, bd_l_build F_l_build⟩
  obtain ⟨_, F_l_worths⟩ := c.def_ 9 (d := d_l_worths) rfl
  have x16 : mg "sorted" = none := He.free_ok X G (c.fact 16 (f := Oh.fo (.free "sorted")) rfl)
  have x17 : Cal P w K mg base 2 "_law_worths" ["_law_drawer", "_law_stands_here"] spWorthsC := ⟨_, _, ok_l_worths F_l_worths x16 x7, He.glo_ok X G (c.fact 17 (f := Oh.fo (.glo "_law_worths")) rfl), F_l_worths.kp, bd_l_worths F_l_worths⟩
  obtain ⟨_, F_endless⟩ := c.def_ 10 (d := d_endless) rfl
  have x18 : mg "max" = none := He.free_ok X G (c.fact 18 (f := Oh.fo (.free "max")) rfl)
  have x19 : mg "min" = none := He.free_ok X G (c.fact 19 (f := Oh.fo (.free "min")) rfl)
  have x20 : Cal P w K mg base 2 "_law_endless" ["_law_drawer", "_law_worths_here"] spEndlessC := ⟨_, _, ok_l_endless F_endless x16 x18 x19 x7, He.glo_ok X G (c.fact 20 (f := Oh.fo (.glo "_law_endless")) rfl), F_endless.kp, bd_endless F_endless⟩
  obtain ⟨_, F_l_level⟩ := c.def_ 11 (d := d_l_level) rfl
  have x21 : Cal P w K mg base 2 "_law_level" ["_law_drawer", "_law_worths_here", "_law_endless_here"] spLevelC := ⟨_, _, ok_l_level F_l_level x16 x4 x7, He.glo_ok X G (c.fact 21 (f := Oh.fo (.glo "_law_level")) rfl), F_l_level.kp, bd_l_level F_l_level⟩
  obtain ⟨_, F_l_book⟩ := c.def_ 12 (d := d_l_book) rfl
  have x22 : mg "tuple" = none := He.free_ok X G (c.fact 22 (f := Oh.fo (.free "tuple")) rfl)
  obtain ⟨_, F_l_steps⟩ := c.def_ 13 (d := d_l_steps) rfl
  have x23 : Cal P w K mg base 1 "_law_steps" ["_law_stands_here", "_law_stand_here"] spStepsC := ⟨_, _, ok_l_steps F_l_steps x16 x4, He.glo_ok X G (c.fact 23 (f := Oh.fo (.glo "_law_steps")) rfl), F_l_steps.kp, bd_l_steps F_l_steps⟩
  have x24 : Cal P w K mg base 2 "_law_book" ["_law_drawer", "_law_stands_here"] spBookL := ⟨_, _, ok_l_book F_l_book x8 x4 x16 x22 x7 x23, He.glo_ok X G (c.fact 24 (f := Oh.fo (.glo "_law_book")) rfl), F_l_book.kp, bd_l_book F_l_book⟩
  obtain ⟨_, F_Work_init⟩ := c.def_ 14 (d := d_Work_init) rfl
  have x25 : Cls K (He.ga K "Work") := He.cls_ok (c.fact 25 (f := Oh.fo (.cls "Work")) rfl)
  have x26 : NoAttr K (He.ga K "Work") "hands" := He.noat_ok (c.fact 26 (f := Oh.fo (.noat "Work" "hands")) rfl)
  have x27 : NoAttr K (He.ga K "Work") "start" := He.noat_ok (c.fact 27 (f := Oh.fo (.noat "Work" "start")) rfl)
  have x28 : NoAttr K (He.ga K "Work") "table" := He.noat_ok (c.fact 28 (f := Oh.fo (.noat "Work" "table")) rfl)
  have x29 : NoAttr K (He.ga K "Work") "names" := He.noat_ok (c.fact 29 (f := Oh.fo (.noat "Work" "names")) rfl)
  have x30 : NoAttr K (He.ga K "Work") "ends" := He.noat_ok (c.fact 30 (f := Oh.fo (.noat "Work" "ends")) rfl)
  have x31 : NoAttr K (He.ga K "Work") "ringless" := He.noat_ok (c.fact 31 (f := Oh.fo (.noat "Work" "ringless")) rfl)
  obtain ⟨_, F_is_integer⟩ := c.def_ 15 (d := d_is_integer) rfl
  have x32 : mg "bool" = none := He.free_ok X G (c.fact 32 (f := Oh.fo (.free "bool")) rfl)
  have x33 : mg "isinstance" = none := He.free_ok X G (c.fact 33 (f := Oh.fo (.free "isinstance")) rfl)
  have x34 : Cal P w K mg base 1 "is_integer" ["thing"] (spIsInt K) := ⟨_, _, ok_is_integer F_is_integer x5 x32 x33, He.glo_ok X G (c.fact 34 (f := Oh.fo (.glo "is_integer")) rfl), F_is_integer.kp, bd_is_integer F_is_integer⟩
  obtain ⟨_, F_is_name⟩ := c.def_ 16 (d := d_is_name) rfl
  have x35 : Cal P w K mg base 1 "is_name" ["thing"] (spIsName K) := ⟨_, _, ok_is_name F_is_name x9 x4 x33, He.glo_ok X G (c.fact 35 (f := Oh.fo (.glo "is_name")) rfl), F_is_name.kp, bd_is_name F_is_name⟩
  obtain ⟨_, F_are_stands⟩ := c.def_ 17 (d := d_are_stands) rfl
  have x36 : mg "dict" = none := He.free_ok X G (c.fact 36 (f := Oh.fo (.free "dict")) rfl)
  obtain ⟨_, F_is_stand⟩ := c.def_ 18 (d := d_is_stand) rfl
  obtain ⟨_, F_is_moves⟩ := c.def_ 19 (d := d_is_moves) rfl
  have x37 : Cal P w K mg base 2 "is_moves" ["thing", "names"] spIsMoves := ⟨_, _, ok_is_moves F_is_moves x36 x4 x33 x35, He.glo_ok X G (c.fact 37 (f := Oh.fo (.glo "is_moves")) rfl), F_is_moves.kp, bd_is_moves F_is_moves⟩
  obtain ⟨_, F_is_draws⟩ := c.def_ 20 (d := d_is_draws) rfl
  obtain ⟨_, F_is_pair⟩ := c.def_ 21 (d := d_is_pair) rfl
  have x38 : Cal P w K mg base 1 "is_pair" ["thing"] (spIsPair K) := ⟨_, _, ok_is_pair F_is_pair x22 x4 x33, He.glo_ok X G (c.fact 38 (f := Oh.fo (.glo "is_pair")) rfl), F_is_pair.kp, bd_is_pair F_is_pair⟩
  have x39 : Cal P w K mg base 2 "is_draws" ["thing", "names"] spIsDraws := ⟨_, _, ok_is_draws F_is_draws x36 x4 x33 x35 x38 x34, He.glo_ok X G (c.fact 39 (f := Oh.fo (.glo "is_draws")) rfl), F_is_draws.kp, bd_is_draws F_is_draws⟩
  have x40 : Cal P w K mg base 3 "is_stand" ["thing", "hands", "names"] (spIsStand K) := ⟨_, _, ok_is_stand F_is_stand x22 x9 x4 x33 x37 x39 x34, He.glo_ok X G (c.fact 40 (f := Oh.fo (.glo "is_stand")) rfl), F_is_stand.kp, bd_is_stand F_is_stand⟩
  have x41 : Cal P w K mg base 4 "are_stands" ["thing", "hands"] spAreStands := ⟨_, _, ok_are_stands F_are_stands x36 x4 x33 x35 x40, He.glo_ok X G (c.fact 41 (f := Oh.fo (.glo "are_stands")) rfl), F_are_stands.kp, bd_are_stands F_are_stands⟩
  obtain ⟨_, F_copied⟩ := c.def_ 22 (d := d_copied) rfl
  have x42 : Cal P w K mg base 1 "copied" ["stand"] spCopied := ⟨_, _, ok_copied F_copied x4 x16, He.glo_ok X G (c.fact 42 (f := Oh.fo (.glo "copied")) rfl), F_copied.kp, bd_copied F_copied⟩
  obtain ⟨_, F_is_ringless⟩ := c.def_ 23 (d := d_is_ringless) rfl
  have x43 : mg "all" = none := He.free_ok X G (c.fact 43 (f := Oh.fo (.free "all")) rfl)
  obtain ⟨_, F_leads⟩ := c.def_ 24 (d := d_leads) rfl
  have x44 : Cal P w K mg base 1 "leads" ["work", "stand"] (spLeads (He.ga K "Work")) := ⟨_, _, ok_leads F_leads x25 x28, He.glo_ok X G (c.fact 44 (f := Oh.fo (.glo "leads")) rfl), F_leads.kp, bd_leads F_leads⟩
  have x45 : Cal P w K mg base 2 "is_ringless" ["work"] (spRingless (He.ga K "Work")) := ⟨_, _, ok_is_ringless F_is_ringless x25 x29 x1 x43 x4 x44, He.glo_ok X G (c.fact 45 (f := Oh.fo (.glo "is_ringless")) rfl), F_is_ringless.kp, bd_is_ringless F_is_ringless⟩
  have x46 : Mkc P w K mg base (He.ga K "Work") 5 "Work" ["self", "hands", "start", "stands"] (spWorkInit (He.ga K "Work")) := ⟨_, _, He.mkr_ok (c.fact 46 (f := Oh.fo (.mkr "Work")) rfl), ok_Work_init F_Work_init x25 x26 x27 x28 x29 x30 x31 x16 x22 x34 x35 x41 x42 x45, He.glo_ok X G (c.fact 47 (f := Oh.fo (.glo "Work")) rfl), bd_Work_init F_Work_init⟩
  obtain ⟨_, F_Wish_init⟩ := c.def_ 25 (d := d_Wish_init) rfl
  have x47 : Cls K (He.ga K "Wish") := He.cls_ok (c.fact 48 (f := Oh.fo (.cls "Wish")) rfl)
  have x48 : NoAttr K (He.ga K "Wish") "table" := He.noat_ok (c.fact 49 (f := Oh.fo (.noat "Wish" "table")) rfl)
  have x49 : NoAttr K (He.ga K "Wish") "endless" := He.noat_ok (c.fact 50 (f := Oh.fo (.noat "Wish" "endless")) rfl)
  have x50 : NoAttr K (He.ga K "Wish") "coming" := He.noat_ok (c.fact 51 (f := Oh.fo (.noat "Wish" "coming")) rfl)
  obtain ⟨_, F_are_worths⟩ := c.def_ 26 (d := d_are_worths) rfl
  obtain ⟨_, F_is_value⟩ := c.def_ 27 (d := d_is_value) rfl
  have x51 : Cal P w K mg base 2 "is_value" ["thing"] (spIsValue K) := ⟨_, _, ok_is_value F_is_value x34, He.glo_ok X G (c.fact 52 (f := Oh.fo (.glo "is_value")) rfl), F_is_value.kp, bd_is_value F_is_value⟩
  have x52 : Cal P w K mg base 3 "are_worths" ["thing"] (spAreWorths K) := ⟨_, _, ok_are_worths F_are_worths x36 x4 x33 x35 x51, He.glo_ok X G (c.fact 53 (f := Oh.fo (.glo "are_worths")) rfl), F_are_worths.kp, bd_are_worths F_are_worths⟩
  have x53 : Mkc P w K mg base (He.ga K "Wish") 4 "Wish" ["self", "worths", "endless"] (spWishInit (He.ga K "Wish")) := ⟨_, _, He.mkr_ok (c.fact 54 (f := Oh.fo (.mkr "Wish")) rfl), ok_Wish_init F_Wish_init x47 x48 x49 x50 x1 x43 x16 x52 x51, He.glo_ok X G (c.fact 55 (f := Oh.fo (.glo "Wish")) rfl), bd_Wish_init F_Wish_init⟩
  obtain ⟨_, F_l_asked⟩ := c.def_ 28 (d := d_l_asked) rfl
  obtain ⟨_, F_l_reached⟩ := c.def_ 29 (d := d_l_reached) rfl
  obtain ⟨_, F_l_let⟩ := c.def_ 30 (d := d_l_let) rfl
  have x54 : Cal P w K mg base 2 "_law_let" ["_law_stands_here", "_law_book_here", "_law_stand_here"] spLet := ⟨_, _, ok_l_let F_l_let x1 x23, He.glo_ok X G (c.fact 56 (f := Oh.fo (.glo "_law_let")) rfl), F_l_let.kp, bd_l_let F_l_let⟩
  obtain ⟨_, F_l_to⟩ := c.def_ 31 (d := d_l_to) rfl
  have x55 : Cal P w K mg base 1 "_law_to" ["_law_stands_here", "_law_stand_here", "_law_step"] spToC := ⟨_, _, ok_l_to F_l_to , He.glo_ok X G (c.fact 57 (f := Oh.fo (.glo "_law_to")) rfl), F_l_to.kp, bd_l_to F_l_to⟩
  have x56 : Cal P w K mg base 3 "_law_reached" ["_law_stands_here", "_law_book_here", "_law_start"] spReached := ⟨_, _, ok_l_reached F_l_reached x8 x4 x54 x55, He.glo_ok X G (c.fact 58 (f := Oh.fo (.glo "_law_reached")) rfl), F_l_reached.kp, bd_l_reached F_l_reached⟩
  obtain ⟨_, F_l_same⟩ := c.def_ 32 (d := d_l_same) rfl
  have x57 : Cal P w K mg base 1 "_law_same" ["_law_told", "_law_expected"] spSame := ⟨_, _, ok_l_same F_l_same x33 x32, He.glo_ok X G (c.fact 59 (f := Oh.fo (.glo "_law_same")) rfl), F_l_same.kp, bd_l_same F_l_same⟩
  obtain ⟨_, F_keeps⟩ := c.def_ 33 (d := d_keeps) rfl
  obtain ⟨_, F_breaking⟩ := c.def_ 34 (d := d_breaking) rfl
  obtain ⟨_, F_checked_book⟩ := c.def_ 35 (d := d_checked_book) rfl
  obtain ⟨_, F_suited⟩ := c.def_ 36 (d := d_suited) rfl
  have x58 : Cal P w K mg base 1 "suited" ["work", "wish"] (spSuited (He.ga K "Work") (He.ga K "Wish")) := ⟨_, _, ok_suited F_suited x25 x47 x30 x48 x22, He.glo_ok X G (c.fact 60 (f := Oh.fo (.glo "suited")) rfl), F_suited.kp, bd_suited F_suited⟩
  obtain ⟨_, F_is_fraction⟩ := c.def_ 37 (d := d_is_fraction) rfl
  have x59 : mg "abs" = none := He.free_ok X G (c.fact 61 (f := Oh.fo (.free "abs")) rfl)
  obtain ⟨_, F_common_divisor⟩ := c.def_ 38 (d := d_common_divisor) rfl
  have x60 : Cal P w K mg base 1 "common_divisor" ["one", "other"] spGcd := ⟨_, _, ok_common_divisor F_common_divisor , He.glo_ok X G (c.fact 62 (f := Oh.fo (.glo "common_divisor")) rfl), F_common_divisor.kp, bd_common_divisor F_common_divisor⟩
  have x61 : Cal P w K mg base 2 "is_fraction" ["thing"] spIsFrac := ⟨_, _, ok_is_fraction F_is_fraction x59 x60 x38 x34, He.glo_ok X G (c.fact 63 (f := Oh.fo (.glo "is_fraction")) rfl), F_is_fraction.kp, bd_is_fraction F_is_fraction⟩
  obtain ⟨_, F_is_book⟩ := c.def_ 39 (d := d_is_book) rfl
  obtain ⟨_, F_Work_kind⟩ := c.def_ 40 (d := d_Work_kind) rfl
  obtain ⟨_, F_Work_row⟩ := c.def_ 41 (d := d_Work_row) rfl
  have x62 : Met P w K mg base (He.ga K "Work") 1 "row" ["self", "stand"] (spRow (He.ga K "Work")) := ⟨_, _, He.meth_ok (c.fact 64 (f := Oh.fo (.meth "Work" "row")) rfl), ok_Work_row F_Work_row x25 x28 x9 x33, bd_Work_row F_Work_row⟩
  have x63 : Met P w K mg base (He.ga K "Work") 2 "kind" ["self", "stand"] (spKind (He.ga K "Work")) := ⟨_, _, He.meth_ok (c.fact 65 (f := Oh.fo (.meth "Work" "kind")) rfl), ok_Work_kind F_Work_kind x25 x62, bd_Work_kind F_Work_kind⟩
  obtain ⟨_, F_Work_steps⟩ := c.def_ 42 (d := d_Work_steps) rfl
  have x64 : Met P w K mg base (He.ga K "Work") 2 "steps" ["self", "stand"] (spSteps (He.ga K "Work")) := ⟨_, _, He.meth_ok (c.fact 66 (f := Oh.fo (.meth "Work" "steps")) rfl), ok_Work_steps F_Work_steps x25 x4 x16 x62, bd_Work_steps F_Work_steps⟩
  obtain ⟨_, F_is_entry⟩ := c.def_ 43 (d := d_is_entry) rfl
  have x65 : mg "enumerate" = none := He.free_ok X G (c.fact 67 (f := Oh.fo (.free "enumerate")) rfl)
  have x66 : Cal P w K mg base 1 "is_entry" ["steps", "row"] (spIsEntryB K) := ⟨_, _, ok_is_entry F_is_entry x33 x22 x9 x4 x65, He.glo_ok X G (c.fact 68 (f := Oh.fo (.glo "is_entry")) rfl), F_is_entry.kp, bd_is_entry F_is_entry⟩
  have x67 : Cal P w K mg base 3 "is_book" ["work", "thing"] (spIsBook (He.ga K "Work")) := ⟨_, _, ok_is_book F_is_book x25 x29 x33 x36 x9 x63 x64 x66, He.glo_ok X G (c.fact 69 (f := Oh.fo (.glo "is_book")) rfl), F_is_book.kp, bd_is_book F_is_book⟩
  have x68 : Cal P w K mg base 4 "checked_book" ["work", "wish", "level", "book"] (spCheckedBook (He.ga K "Work") (He.ga K "Wish")) := ⟨_, _, ok_checked_book F_checked_book x58 x61 x67, He.glo_ok X G (c.fact 70 (f := Oh.fo (.glo "checked_book")) rfl), F_checked_book.kp, bd_checked_book F_checked_book⟩
  obtain ⟨_, F_Wish_worths⟩ := c.def_ 44 (d := d_Wish_worths) rfl
  have x69 : Prp P w K mg base (He.ga K "Wish") 1 "worths" (spWorths (He.ga K "Wish")) := ⟨_, _, _, Oh.propB_ok (c.fact 71 (f := Oh.propB "Wish" "worths") rfl), ok_Wish_worths F_Wish_worths x47 x48, bd_Wish_worths F_Wish_worths⟩
  obtain ⟨_, F_let_ways⟩ := c.def_ 45 (d := d_let_ways) rfl
  obtain ⟨_, F_let_steps⟩ := c.def_ 46 (d := d_let_steps) rfl
  have x70 : Cal P w K mg base 3 "let_steps" ["work", "book", "stand"] (spLetSteps (He.ga K "Work")) := ⟨_, _, ok_let_steps F_let_steps x25 x1 x64, He.glo_ok X G (c.fact 72 (f := Oh.fo (.glo "let_steps")) rfl), F_let_steps.kp, bd_let_steps F_let_steps⟩
  obtain ⟨_, F_Work_to⟩ := c.def_ 47 (d := d_Work_to) rfl
  have x71 : Met P w K mg base (He.ga K "Work") 2 "to" ["self", "stand", "step"] (spTo (He.ga K "Work")) := ⟨_, _, He.meth_ok (c.fact 73 (f := Oh.fo (.meth "Work" "to")) rfl), ok_Work_to F_Work_to x25 x4 x9 x33 x62, bd_Work_to F_Work_to⟩
  have x72 : Cal P w K mg base 4 "let_ways" ["work", "book"] (spLetWays (He.ga K "Work")) := ⟨_, _, ok_let_ways F_let_ways x25 x27 x4 x70 x71, He.glo_ok X G (c.fact 74 (f := Oh.fo (.glo "let_ways")) rfl), F_let_ways.kp, bd_let_ways F_let_ways⟩
  obtain ⟨_, F_is_below⟩ := c.def_ 48 (d := d_is_below) rfl
  have x73 : Cal P w K mg base 1 "is_below" ["worth", "level"] spIsBelow := ⟨_, _, ok_is_below F_is_below , He.glo_ok X G (c.fact 75 (f := Oh.fo (.glo "is_below")) rfl), F_is_below.kp, bd_is_below F_is_below⟩
  obtain ⟨_, F_way_to⟩ := c.def_ 49 (d := d_way_to) rfl
  have x74 : Cal P w K mg base 1 "way_to" ["ways", "stand"] spWayTo := ⟨_, _, ok_way_to F_way_to , He.glo_ok X G (c.fact 76 (f := Oh.fo (.glo "way_to")) rfl), F_way_to.kp, bd_way_to F_way_to⟩
  have x75 : Cal P w K mg base 5 "breaking" ["work", "wish", "level", "book"] (spBreaking (He.ga K "Work") (He.ga K "Wish")) := ⟨_, _, ok_breaking F_breaking x47 x68 x69 x72 x73 x74, He.glo_ok X G (c.fact 77 (f := Oh.fo (.glo "breaking")) rfl), F_breaking.kp, bd_breaking F_breaking⟩
  have x76 : Cal P w K mg base 6 "keeps" ["work", "wish", "level", "book"] (spKeeps (He.ga K "Work") (He.ga K "Wish")) := ⟨_, _, ok_keeps F_keeps x75, He.glo_ok X G (c.fact 78 (f := Oh.fo (.glo "keeps")) rfl), F_keeps.kp, bd_keeps F_keeps⟩
  obtain ⟨_, F_kept_stands⟩ := c.def_ 50 (d := d_kept_stands) rfl
  have x77 : Cal P w K mg base 7 "kept_stands" ["work", "wish", "level", "book"] (spKept (He.ga K "Work") (He.ga K "Wish")) := ⟨_, _, ok_kept_stands F_kept_stands x16 x76 x72, He.glo_ok X G (c.fact 79 (f := Oh.fo (.glo "kept_stands")) rfl), F_kept_stands.kp, bd_kept_stands F_kept_stands⟩
  obtain ⟨_, F_l_breaks⟩ := c.def_ 51 (d := d_l_breaks) rfl
  have x78 : Cal P w K mg base 3 "_law_breaks" ["_law_stands_here", "_law_worths_here", "_law_level_here", "_law_book_here", "_law_start", "_law_run", "_law_many"] spBreaks := ⟨_, _, ok_l_breaks F_l_breaks x4 x1 x33 x54 x55, He.glo_ok X G (c.fact 80 (f := Oh.fo (.glo "_law_breaks")) rfl), F_l_breaks.kp, bd_l_breaks F_l_breaks⟩
  have x79 : Cal P w K mg base 8 "_law_asked" ["_law_work", "_law_wish", "_law_stands_here", "_law_worths_here", "_law_level_here", "_law_book_here", "_law_start"] (spAsked (He.ga K "Work") (He.ga K "Wish")) := ⟨_, _, ok_l_asked F_l_asked x4 x1 x19 x16 x33 x56 x57 x76 x75 x77 x78, He.glo_ok X G (c.fact 81 (f := Oh.fo (.glo "_law_asked")) rfl), F_l_asked.kp, bd_l_asked F_l_asked⟩
  obtain ⟨_, F_l_turned⟩ := c.def_ 52 (d := d_l_turned) rfl
  have x80 : Cal P w K mg base 1 "_law_turned" ["_law_table"] spTurned := ⟨_, _, ok_l_turned F_l_turned x16, He.glo_ok X G (c.fact 82 (f := Oh.fo (.glo "_law_turned")) rfl), F_l_turned.kp, bd_l_turned F_l_turned⟩
  obtain ⟨_, F_l_turned_stands⟩ := c.def_ 53 (d := d_l_turned_stands) rfl
  have x81 : Cal P w K mg base 2 "_law_turned_stands" ["_law_stands_here"] spTurnS := ⟨_, _, ok_l_turned_stands F_l_turned_stands x1 x4 x80, He.glo_ok X G (c.fact 83 (f := Oh.fo (.glo "_law_turned_stands")) rfl), F_l_turned_stands.kp, bd_l_turned_stands F_l_turned_stands⟩
  obtain ⟨_, F_l_known_breach⟩ := c.def_ 54 (d := d_l_known_breach) rfl
  obtain ⟨_, F_first_breach⟩ := c.def_ 55 (d := d_first_breach) rfl
  obtain ⟨_, F_passed⟩ := c.def_ 56 (d := d_passed) rfl
  obtain ⟨_, F_is_row⟩ := c.def_ 57 (d := d_is_row) rfl
  have x82 : Cal P w K mg base 1 "is_row" ["thing"] (spIsRow K) := ⟨_, _, ok_is_row F_is_row x1 x22 x33, He.glo_ok X G (c.fact 84 (f := Oh.fo (.glo "is_row")) rfl), F_is_row.kp, bd_is_row F_is_row⟩
  have x83 : Cal P w K mg base 3 "passed" ["work", "run"] (spPassed K (He.ga K "Work")) := ⟨_, _, ok_passed F_passed x25 x27 x65 x9 x33 x82 x64 x71, He.glo_ok X G (c.fact 85 (f := Oh.fo (.glo "passed")) rfl), F_passed.kp, bd_passed F_passed⟩
  obtain ⟨_, F_movers⟩ := c.def_ 58 (d := d_movers) rfl
  obtain ⟨_, F_Work_mover⟩ := c.def_ 59 (d := d_Work_mover) rfl
  have x84 : Met P w K mg base (He.ga K "Work") 2 "mover" ["self", "stand"] (spMover (He.ga K "Work")) := ⟨_, _, He.meth_ok (c.fact 86 (f := Oh.fo (.meth "Work" "mover")) rfl), ok_Work_mover F_Work_mover x25 x62, bd_Work_mover F_Work_mover⟩
  have x85 : Cal P w K mg base 4 "movers" ["work", "run"] (spMovers K (He.ga K "Work")) := ⟨_, _, ok_movers F_movers x25 x83 x84, He.glo_ok X G (c.fact 87 (f := Oh.fo (.glo "movers")) rfl), F_movers.kp, bd_movers F_movers⟩
  have x86 : Cal P w K mg base 5 "first_breach" ["work", "book", "run"] (spFirst K (He.ga K "Work")) := ⟨_, _, ok_first_breach F_first_breach x65 x67 x83 x85 x70, He.glo_ok X G (c.fact 88 (f := Oh.fo (.glo "first_breach")) rfl), F_first_breach.kp, bd_first_breach F_first_breach⟩
  obtain ⟨_, F_l_mover⟩ := c.def_ 60 (d := d_l_mover) rfl
  have x87 : Cal P w K mg base 1 "_law_mover" ["_law_stands_here", "_law_stand_here"] spMoverL := ⟨_, _, ok_l_mover F_l_mover , He.glo_ok X G (c.fact 89 (f := Oh.fo (.glo "_law_mover")) rfl), F_l_mover.kp, bd_l_mover F_l_mover⟩
  have x88 : Cal P w K mg base 7 "_law_known_breach" ["_law_work", "_law_wish", "_law_stands_here", "_law_level_here", "_law_book_here"] (spKnown (He.ga K "Work") (He.ga K "Wish")) := ⟨_, _, ok_l_known_breach F_l_known_breach x25 x27 x4 x22 x33 x75 x76 x86 x54 x55 x87, He.glo_ok X G (c.fact 90 (f := Oh.fo (.glo "_law_known_breach")) rfl), F_l_known_breach.kp, bd_l_known_breach F_l_known_breach⟩
  exact ok_law F_law x1 x2 x3 x15 x6 x17 x20 x21 x24 x46 x53 x79 x80 x81 x75 x77 x88
end Law
open PySem PySem.W PySem.Calls PyProof.Rows
theorem PySem.Challenge.cw_ownslips_k70_whole_keeps_by_all_let_runs_holds : PySem.Challenge.rw_ownslips_k70_whole_keeps_by_all_let_runs.Holds := by
  w_on; o_law
  refine HandSHeadRun.head_any (r := OpenLaw.row PySem.Challenge.rw_ownslips_k70_whole_keeps_by_all_let_runs) (q := view (PySem.W.OpenLaw.row PySem.Challenge.rw_ownslips_k70_whole_keeps_by_all_let_runs).prog [70]) (H := Law.hk) (ob := Law.ob) (M := 6000) (loose := Law.loA) (d := HandSHeadRun.topDef (PySem.W.OpenLaw.row PySem.Challenge.rw_ownslips_k70_whole_keeps_by_all_let_runs).prog 70) (kwd := []) Law.ob_eq
    (by kernel_rfl) (fun s => by kernel_rfl) Law.run (by kernel_rfl) (by kernel_rfl) (by kernel_rfl) (by rfl) (by first | assumption | decide +kernel) (by decide +kernel) ⟨rfl, rfl, rfl, rfl, rfl, by decide +kernel⟩ ?hw ?hc
  case hw => w_witness2
  case hc =>
    refine Ox.walk_ofL (l := PySem.Challenge.rw_ownslips_k70_whole_keeps_by_all_let_runs) (n := 63) (x := "_law_script") rfl (by decide) (by kernel_rfl) ?F
    intro w mg fa h Y G hmg0
    obtain ⟨K, KX, c⟩ := Y
    have hmg : mg ("law" : PySem.Str) = some (.ref fa) := by
      have e : (HandSHeadRun.topDef (PySem.W.OpenLaw.row PySem.Challenge.rw_ownslips_k70_whole_keeps_by_all_let_runs).prog 70).name = ("law" : PySem.Str) := by kernel_rfl
      rw [← e]
      exact hmg0
    obtain ⟨fd, hb, hF⟩ := Law.facts (P := (PySem.Challenge.rw_ownslips_k70_whole_keeps_by_all_let_runs).prog) (w := w) KX G hmg (by kernel_rfl) (by kernel_rfl) c
    exact ⟨K, fd, Law.spLaw K, KX, hb, fun H a ns hl _ hS => ⟨a, ns, rfl, hS, hl, fun _ => rfl⟩, hF⟩
