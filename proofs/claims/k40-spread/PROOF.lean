import PyProof.Rows.All
import Wide.All
import OpenK.AllK
import Wide.FinOn
import HandS.ForExc
import HandS.Comp
import HandS.Iter
import HandS.Zip
import HandS.Wide
import HandS.SortInts
import HandS.IsInst
import HandS.EndBits
import HandS.Style
import HandS.TupMul
import HandS.TupAny
import HandS.Flow
import HandS.ExcCtx
import HandS.HotCalls
import HandS.ExcIs
import HandS.List
import HandS.Remove
import HandS.Walk
import HandS.Dict
import PyProof.DictWalks
import HandS.Small
import HandS.DictSubView
import HandS.NoneIn
import PyProof.EnumMake
import PyProof.Draws
import KE.GoesMore
import PySem.Challenge.RW_strewn_k40_spread
set_option Elab.async false
set_option linter.all false
set_option maxRecDepth 100000
set_option maxHeartbeats 4000000
set_option exponentiation.threshold 5000
/-! Lg: a small logic over the readings: what is known of the heap is a part of it, and every continuation is kept by extension. -/
namespace Lg
open PySem PySem.Spec PyProof.Rows L2
abbrev Sg := List (Option V)
def Ex (H H' : Hp) : Prop := ∀ a o, H a = some o → H' a = some o
theorem Ex.rf {H : Hp} : Ex H H := fun _ _ h => h
theorem Ex.tr {H H1 H2 : Hp} (a : Ex H H1) (b : Ex H1 H2) : Ex H H2 := fun x o h => b x o (a x o h)
theorem Ex.fresh {H H' : Hp} (e : Ex H H') {p : Addr} (h : H' p = none) : H p = none := by
  cases q : H p with
  | none => rfl
  | some o =>
    have z := e p o q
    rw [h] at z
    cases z
theorem Ex.ups {H H' : Hp} (e : Ex H H') (p : Addr) (o : HO) : Ex (upd H p o) (upd H' p o) := fun a u h => by
  by_cases q : a = p
  · subst q
    rw [upd_same] at h ⊢
    exact h
  · rw [upd_ne q] at h ⊢
    exact e a u h
theorem Ex.news {H : Hp} {p : Addr} {o : HO} (h : H p = none) : Ex H (L2.upd H p o) := fun a u e => by
  rw [upd_ne (ne_of_none e h)]
  exact e
theorem Ex.newr {H H' : Hp} {p : Addr} {o : HO} (e : Ex H H') (h : H' p = none) : Ex H (L2.upd H' p o) := e.tr (Ex.news h)
/-- what H does not know may be changed -/
theorem Ex.mutr {H H' : Hp} {p : Addr} {o : HO} (e : Ex H H') (h : H p = none) : Ex H (L2.upd H' p o) := fun a u ha => by
  rw [upd_ne (ne_of_none ha h)]
  exact e a u ha
theorem Ex.get {H H' : Hp} (e : Ex H H') {a : Addr} {o : HO} (h : H a = some o) : H' a = some o := e a o h
theorem rd_ex {H H' : Hp} (e : Ex H H') {a : Addr} {o : HO} (h : Rd H a o) : Rd H' a o := by
  rcases h with h | ⟨u, h⟩
  · exact .inl (e _ _ h)
  · exact .inr ⟨u, e _ _ h⟩
theorem Ex.sl {K : PySem.W.Frag} {H H' : Hp} (e : Ex H H') {a : Addr} {xs : List V} (h : SqL K H a xs) : SqL K H' a xs := by
  rcases h with h | h
  · exact .inl (rd_ex e h)
  · exact .inr h
theorem Ex.st {K : PySem.W.Frag} {H H' : Hp} (e : Ex H H') {a : Addr} {xs : List V} (h : SqT K H a xs) : SqT K H' a xs := by
  rcases h with h | h
  · exact .inl (rd_ex e h)
  · exact .inr h

abbrev PV := V → Hp → Prop
abbrev PS' := Sg → Hp → Prop
/-! ### the judgements -/
def kE (te : TE) (σ : Sg) (H : Hp) (Q : PV) : Prop := ∀ H1, Ex H H1 → ∀ Q1 : VK, (∀ v H0 H2, Q v H0 → Ex H0 H2 → Q1 v H2) → te σ H1 Q1
def kT (tt : TT) (σ : Sg) (H : Hp) (Q : Bool → Hp → Prop) : Prop := ∀ H1, Ex H H1 → ∀ Q1 : Bool → Hp → Prop, (∀ v H0 H2, Q v H0 → Ex H0 H2 → Q1 v H2) → tt σ H1 Q1
def kA (ta : TA) (σ : Sg) (H : Hp) (Q : List V → Hp → Prop) : Prop := ∀ H1, Ex H H1 → ∀ Q1 : List V → Hp → Prop, (∀ v H0 H2, Q v H0 → Ex H0 H2 → Q1 v H2) → ta σ H1 Q1
def kO (to : TO) (σ : Sg) (H : Hp) (Q : Option Int → Hp → Prop) : Prop := ∀ H1, Ex H H1 → ∀ Q1 : Option Int → Hp → Prop, (∀ v H0 H2, Q v H0 → Ex H0 H2 → Q1 v H2) → to σ H1 Q1
def kR (r : R2) (x y : V) (H : Hp) (Q : PV) : Prop := ∀ H1, Ex H H1 → ∀ Q1 : VK, (∀ v H0 H2, Q v H0 → Ex H0 H2 → Q1 v H2) → r x y H1 Q1
def kU (r : V → Hp → VK → Prop) (x : V) (H : Hp) (Q : PV) : Prop := ∀ H1, Ex H H1 → ∀ Q1 : VK, (∀ v H0 H2, Q v H0 → Ex H0 H2 → Q1 v H2) → r x H1 Q1
def kC (r : List V → Hp → VK → Prop) (vs : List V) (H : Hp) (Q : PV) : Prop := ∀ H1, Ex H H1 → ∀ Q1 : VK, (∀ v H0 H2, Q v H0 → Ex H0 H2 → Q1 v H2) → r vs H1 Q1
def kM (r : V → List V → Hp → VK → Prop) (x : V) (vs : List V) (H : Hp) (Q : PV) : Prop := ∀ H1, Ex H H1 → ∀ Q1 : VK, (∀ v H0 H2, Q v H0 → Ex H0 H2 → Q1 v H2) → r x vs H1 Q1
def kG (g : TG) (v : V) (σ : Sg) (H : Hp) (Q : PS') : Prop := ∀ H1, Ex H H1 → ∀ Q1 : PS', (∀ v H0 H2, Q v H0 → Ex H0 H2 → Q1 v H2) → g v σ H1 Q1
def kGs (g : TGs) (vs : List V) (σ : Sg) (H : Hp) (Q : PS') : Prop := ∀ H1, Ex H H1 → ∀ Q1 : PS', (∀ v H0 H2, Q v H0 → Ex H0 H2 → Q1 v H2) → g vs σ H1 Q1
def kS (ts : TS) (N : PS') (R : PV) (B C : PS') (σ : Sg) (H : Hp) : Prop := ∀ H1, Ex H H1 → ∀ D : Ends, (∀ s H0 H2, N s H0 → Ex H0 H2 → D.nx s H2) → (∀ v H0 H2, R v H0 → Ex H0 H2 → D.rt v H2) →
  (∀ s H0 H2, B s H0 → Ex H0 H2 → D.bk s H2) → (∀ s H0 H2, C s H0 → Ex H0 H2 → D.ct s H2) → ts D σ H1
/-- wanted of every extension -/
def upR (Q : VK) : PV := fun v H0 => ∀ H2, Ex H0 H2 → Q v H2
abbrev noS : PS' := fun _ _ => False
theorem fin {ts : TS} {Q : VK} {σ : Sg} {H : Hp} (h : kS ts (fun _ H0 => upR Q .non H0) (upR Q) noS noS σ H) : ts { nx := fun _ H' => Q .non H', rt := Q } σ H :=
  h H Ex.rf _ (fun _ _ _ r e => r _ e) (fun _ _ _ r e => r _ e) (fun _ _ _ r _ => r.elim) (fun _ _ _ r _ => r.elim)

variable {K : PySem.W.Frag} {σ σ' : Sg} {H H' : Hp} {ta tb tc te : TE} {tt tu : TT} {t u : TA} {Q : PV} {QB : Bool → Hp → Prop} {QA : List V → Hp → Prop} {N B C : PS'} {R : PV} {ts us : TS} {x y v : V} {i j : Int} {r r' : R2} {g : TG} {gs : TGs}
/-! ### expressions -/
theorem e_var {n : Nat} (h : σ[n]? = some (some v)) (k : Q v H) : kE (tVar n) σ H Q := fun H1 e _ q => ⟨v, h, q v H H1 k e⟩
theorem e_c (k : Q v H) : kE (tC v) σ H Q := fun H1 e _ q => q v H H1 k e
theorem e_op (k : kE ta σ H fun x H1 => kE tb σ H1 fun y H2 => kR r x y H2 Q) : kE (tOp r ta tb) σ H Q := fun H1 e _ q =>
  k H1 e _ fun _ _ H2 hx e2 => hx H2 e2 _ fun _ _ H3 hy e3 => hy H3 e3 _ q
theorem e_un {r : V → Hp → VK → Prop} (k : kE ta σ H fun x H1 => kU r x H1 Q) : kE (tUn r ta) σ H Q := fun H1 e _ q => k H1 e _ fun _ _ H2 hx e2 => hx H2 e2 _ q
theorem e_cb {r : List V → Hp → VK → Prop} (k : kA t σ H fun vs H1 => kC r vs H1 Q) : kE (tCB r t) σ H Q := fun H1 e _ q => k H1 e _ fun _ _ H2 hx e2 => hx H2 e2 _ q
theorem e_call {sp : Sp} {E : XK} (k : kA t σ H fun vs H1 => kC (fun ws H Q => sp ws H Q E) vs H1 Q) : kE (tCall sp [] E t) σ H Q := fun H1 e _ q => k H1 e _ fun vs _ H2 hx e2 => by
  rw [List.append_nil]
  exact hx H2 e2 _ q
theorem e_callS {sp : Sp} {E : Sg → XK} (k : kA t σ H fun vs H1 => kC (fun ws H Q => sp ws H Q (E σ)) vs H1 Q) : kE (tCallS sp E t) σ H Q := fun H1 e _ q => k H1 e _ fun _ _ H2 hx e2 => hx H2 e2 _ q
theorem a_nil (k : QA [] H) : kA tNil σ H QA := fun H1 e _ q => q [] H H1 k e
theorem a_cons (k : kE ta σ H fun x H1 => kA t σ H1 fun xs H2 => QA (x :: xs) H2) : kA (tCons ta t) σ H QA := fun H1 e _ q => k H1 e _ fun _ _ H2 hx e2 => hx H2 e2 _ fun _ H0 H3 hy e3 => q _ H0 H3 hy e3
theorem e_tup (k : kA t σ H fun xs H1 => xs.length ≤ sizeLine ∧ ∀ p, H1 p = none → Q (.ref p) (upd H1 p (.tup xs))) : kE (tTup t) σ H Q := fun H1 e _ q => k H1 e _ fun _ _ H2 hx e2 =>
  ⟨hx.1, fun p hp => q _ _ _ (hx.2 p (e2.fresh hp)) (e2.ups p _)⟩
theorem e_lst (k : kA t σ H fun xs H1 => xs.length ≤ sizeLine ∧ ∀ p, H1 p = none → Q (.ref p) (upd H1 p (.lst xs))) : kE (tLst t) σ H Q := fun H1 e _ q => k H1 e _ fun _ _ H2 hx e2 =>
  ⟨hx.1, fun p hp => q _ _ _ (hx.2 p (e2.fresh hp)) (e2.ups p _)⟩
theorem e_if (k : kT tt σ H fun b H1 => (b = true → kE ta σ H1 Q) ∧ (b = false → kE tb σ H1 Q)) : kE (tIf tt ta tb) σ H Q := fun H1 e Q1 q => k H1 e _ fun b _ H2 hx e2 => by
  cases b with
  | true =>
    show ta σ H2 Q1
    exact hx.1 rfl H2 e2 _ q
  | false =>
    show tb σ H2 Q1
    exact hx.2 rfl H2 e2 _ q
theorem e_andV (k : kE ta σ H fun x H1 => ∃ b, x = .bl b ∧ (b = true → kE tb σ H1 Q) ∧ (b = false → Q (.bl false) H1)) : kE (tAndV ta tb) σ H Q := fun H1 e Q1 q => k H1 e _ fun x H0 H2 hx e2 => by
  obtain ⟨b, eb, h1, h2⟩ := hx
  refine ⟨b, eb, ?_⟩
  cases b with
  | true =>
    show tb σ H2 Q1
    exact h1 rfl H2 e2 _ q
  | false =>
    show Q1 (.bl false) H2
    exact q _ _ _ (h2 rfl) e2
theorem e_orV (k : kE ta σ H fun x H1 => ∃ b, x = .bl b ∧ (b = true → Q (.bl true) H1) ∧ (b = false → kE tb σ H1 Q)) : kE (tOrV ta tb) σ H Q := fun H1 e Q1 q => k H1 e _ fun x H0 H2 hx e2 => by
  obtain ⟨b, eb, h1, h2⟩ := hx
  refine ⟨b, eb, ?_⟩
  cases b with
  | true =>
    show Q1 (.bl true) H2
    exact q _ _ _ (h1 rfl) e2
  | false =>
    show tb σ H2 Q1
    exact h2 rfl H2 e2 _ q
theorem e_notV (k : kE ta σ H fun x H1 => ∃ b, x = .bl b ∧ Q (.bl (!b)) H1) : kE (tNotV ta) σ H Q := fun H1 e Q1 q => k H1 e _ fun x H0 H2 hx e2 => by
  obtain ⟨b, eb, h1⟩ := hx
  exact ⟨b, eb, q _ _ _ h1 e2⟩
theorem e_chain (k : kE ta σ H fun x H1 => kE tb σ H1 fun y H2 => kR r x y H2 fun z H3 => ∃ b, z = .bl b ∧ (b = true → kE tc σ H3 fun w H4 => kR r' y w H4 Q) ∧ (b = false → Q (.bl false) H3)) : kE (tChain r r' ta tb tc) σ H Q := fun H1 e Q1 q =>
  k H1 e _ fun x _ H2 hx e2 => hx H2 e2 _ fun y _ H3 hy e3 => hy H3 e3 _ fun z _ H4 hz e4 => by
    obtain ⟨b, eb, h1, h2⟩ := hz
    refine ⟨b, eb, ?_⟩
    cases b with
    | true =>
      show tc σ H4 fun w H5 => r' y w H5 Q1
      exact h1 rfl H4 e4 _ fun w _ H5 hw e5 => hw H5 e5 _ q
    | false =>
      show Q1 (.bl false) H4
      exact q _ _ _ (h2 rfl) e4
/-! ### tests -/
theorem t_test (k : kE te σ H fun x H1 => ∃ b, x = .bl b ∧ QB b H1) : kT (tTest te) σ H QB := fun H1 e _ q => k H1 e _ fun _ H0 H2 ⟨b, eb, hb⟩ e2 => ⟨b, eb, q b H0 H2 hb e2⟩
theorem t_B (k : kE te σ H fun x H1 => ∃ b, x = .bl b ∧ QB b H1) : kT (tB te) σ H QB := fun H1 e _ q => k H1 e _ fun _ H0 H2 ⟨b, eb, hb⟩ e2 => ⟨b, eb, q b H0 H2 hb e2⟩
theorem t_not (k : kT tt σ H fun b H1 => QB (!b) H1) : kT (tNot tt) σ H QB := fun H1 e _ q => k H1 e _ fun b H0 H2 hb e2 => q _ H0 H2 hb e2
theorem t_and (k : kT tt σ H fun b H1 => (b = true → kT tu σ H1 QB) ∧ (b = false → QB false H1)) : kT (tAnd tt tu) σ H QB := fun H1 e Q1 q => k H1 e _ fun b H0 H2 hb e2 => by
  cases b with
  | true =>
    show tu σ H2 Q1
    exact hb.1 rfl H2 e2 _ q
  | false =>
    show Q1 false H2
    exact q _ _ _ (hb.2 rfl) e2
theorem t_or (k : kT tt σ H fun b H1 => (b = true → QB true H1) ∧ (b = false → kT tu σ H1 QB)) : kT (tOr tt tu) σ H QB := fun H1 e Q1 q => k H1 e _ fun b H0 H2 hb e2 => by
  cases b with
  | true =>
    show Q1 true H2
    exact q _ _ _ (hb.1 rfl) e2
  | false =>
    show tu σ H2 Q1
    exact hb.2 rfl H2 e2 _ q
/-! ### operators -/
theorem r_I0 {f : Int → Int → V} (k : Q (f i j) H) : kR (rI0 f) (.int i) (.int j) H Q := fun H1 e _ q => ⟨i, j, rfl, rfl, q _ _ _ k e⟩
theorem r_I {c : Int → Int → Prop} {f : Int → Int → V} (hc : c i j) (k : Q (f i j) H) : kR (rI c f) (.int i) (.int j) H Q := fun H1 e _ q => ⟨i, j, rfl, rfl, hc, q _ _ _ k e⟩
theorem r_eq (h : scal x y = true) (k : Q (.bl (decide (x = y))) H) : kR rEq x y H Q := fun H1 e _ q => ⟨h, q _ _ _ k e⟩
theorem r_ne (h : scal x y = true) (k : Q (.bl (!decide (x = y))) H) : kR rNe x y H Q := fun H1 e _ q => ⟨h, q _ _ _ k e⟩
theorem dInt : decide (V.int i = V.int j) = decide (i = j) := by
  rw [Bool.eq_iff_iff]
  simp
theorem r_eqI (k : Q (.bl (decide (i = j))) H) : kR rEq (.int i) (.int j) H Q := r_eq rfl (by rw [dInt]; exact k)
theorem r_neI (k : Q (.bl (!decide (i = j))) H) : kR rNe (.int i) (.int j) H Q := r_ne rfl (by rw [dInt]; exact k)
theorem r_ixL {p : Addr} {xs : List V} (h : SqL K H p xs) (ha : atI xs i = some v) (k : Q v H) : kR (rIxL K) (.ref p) (.int i) H Q := fun H1 e _ q => ⟨p, xs, i, v, rfl, rfl, e.sl h, ha, q _ _ _ k e⟩
theorem r_ixT {p : Addr} {xs : List V} (h : SqT K H p xs) (ha : atI xs i = some v) (k : Q v H) : kR (rIxT K) (.ref p) (.int i) H Q := fun H1 e _ q => ⟨p, xs, i, v, rfl, rfl, e.st h, ha, q _ _ _ k e⟩
theorem u_U {f : Int → V} (k : Q (f i) H) : kU (rU f) (.int i) H Q := fun H1 e _ q => ⟨i, rfl, q _ _ _ k e⟩
/-! ### statements -/
theorem s_next (k : N σ H) : kS tNext N R B C σ H := fun H1 e D hn _ _ _ => hn _ _ _ k e
theorem s_seq (k : kS ts (fun s H1 => kS us N R B C s H1) R B C σ H) : kS (tSeq ts us) N R B C σ H := fun H1 e D hn hr hb hc => k H1 e { D with nx := us D } (fun s H0 H2 h e2 => h H2 e2 D hn hr hb hc) hr hb hc
theorem s_asg {n : Nat} (k : kE te σ H fun v H1 => N (σ.set n (some v)) H1) : kS (tAsg te (gName n)) N R B C σ H := fun H1 e D hn _ _ _ => k H1 e _ fun v H0 H2 h e2 => hn _ _ _ h e2
theorem s_asgG (k : kE te σ H fun v H1 => kG g v σ H1 N) : kS (tAsg te g) N R B C σ H := fun H1 e D hn _ _ _ => k H1 e _ fun v H0 H2 h e2 => h H2 e2 _ hn
theorem s_ret (k : kE te σ H R) : kS (tRet te) N R B C σ H := fun H1 e D _ hr _ _ => k H1 e _ hr
theorem s_drop (k : kE te σ H fun _ H1 => N σ H1) : kS (tDrop te) N R B C σ H := fun H1 e D hn _ _ _ => k H1 e _ fun _ H0 H2 h e2 => hn _ _ _ h e2
theorem s_if (k : kT tt σ H fun b H1 => (b = true → kS ts N R B C σ H1) ∧ (b = false → kS us N R B C σ H1)) : kS (tIfS tt ts us) N R B C σ H := fun H1 e D hn hr hb hc => k H1 e _ fun b H0 H2 h e2 => by
  cases b with
  | true =>
    show ts D σ H2
    exact h.1 rfl H2 e2 D hn hr hb hc
  | false =>
    show us D σ H2
    exact h.2 rfl H2 e2 D hn hr hb hc
theorem s_brk (k : B σ H) : kS tBreak N R B C σ H := fun H1 e D _ _ hb _ => hb _ _ _ k e
theorem s_cont (k : C σ H) : kS tCont N R B C σ H := fun H1 e D _ _ _ hc => hc _ _ _ k e
theorem s_par {m n : Nat} (k : kA t σ H fun vs H1 => ∃ v w, vs = [v, w] ∧ N ((σ.set m (some v)).set n (some w)) H1) : kS (tPar m n t) N R B C σ H := fun H1 e D hn _ _ _ => k H1 e _ fun vs H0 H2 ⟨v, w, ev, h⟩ e2 => ⟨v, w, ev, hn _ _ _ h e2⟩
def tRaise (E : XK) (c : Addr) : TS := fun _ σ H => E (.ref c) none H
theorem s_raise {E : XK} {c : Addr} (k : ∀ H1, Ex H H1 → E (.ref c) none H1) : kS (tRaise E c) N R B C σ H := fun H1 e _ _ _ _ _ => k H1 e
/-- a while by an invariant and a measure of it -/
theorem s_while (W : Nat → PS') (m : Nat) (h0 : W m σ H)
    (hs : ∀ m s H1, W m s H1 → kT tt s H1 fun b H2 => (b = true → kS ts (fun s' H3 => ∃ m' H4, m' < m ∧ W m' s' H4 ∧ Ex H4 H3) R N (fun s' H3 => ∃ m' H4, m' < m ∧ W m' s' H4 ∧ Ex H4 H3) s H2) ∧ (b = false → N s H2)) : kS (tWhile tt ts) N R B C σ H := fun H1 e D hn hr hb hc =>
  ⟨fun m s H2 => ∃ H0, W m s H0 ∧ Ex H0 H2, ⟨m, H, h0, e⟩, fun m s H2 ⟨H0, w, e0⟩ => hs m s H0 w H2 e0 _ fun b H3 H4 h e4 => by
    cases b with
    | true =>
      show ∃ Nx : PS', _
      refine ⟨fun s' H5 => ∃ m' H6, m' < m ∧ W m' s' H6 ∧ Ex H6 H5, fun s' H5 ⟨m', H6, l, w', e6⟩ => ⟨m', l, H6, w', e6⟩, ?_⟩
      exact h.1 rfl H4 e4 _ (fun s' H5 H7 ⟨m', H6, l, w', e6⟩ e7 => ⟨m', H6, l, w', e6.tr e7⟩) hr hn (fun s' H5 H7 ⟨m', H6, l, w', e6⟩ e7 => ⟨m', H6, l, w', e6.tr e7⟩)
    | false =>
      show D.nx s H4
      exact hn _ _ _ (h.2 rfl) e4⟩
abbrev nxt (W : Nat → PS') (n : Nat) : PS' := fun s H => ∃ H0, W n s H0 ∧ Ex H0 H
theorem nxt_up {W : Nat → PS'} {n : Nat} : ∀ s H0 H2, nxt W n s H0 → Ex H0 H2 → nxt W n s H2 := fun _ _ _ ⟨H1, w, e1⟩ e => ⟨H1, w, e1.tr e⟩
/-- for i in range(n) -/
theorem s_for1 (n : Nat) (W : Nat → PS') (k : kA t σ H fun vs H1 => vs = [.int (n : Int)] ∧ n < 2 ^ 61 ∧ W 0 σ H1 ∧ (∀ i s H2, i < n → W i s H2 → kG g (.int (i : Int)) s H2 fun s' H3 => kS ts (nxt W (i + 1)) R N (nxt W (i + 1)) s' H3) ∧ ∀ s H2, W n s H2 → N s H2) :
    kS (tFor (iRng1 t) g ts) N R B C σ H := fun H1 e D hn hr hb hc => k H1 e _ fun vs H0 H2 ⟨ev, hl, h0, hs, hd⟩ e2 => by
  subst ev
  refine ⟨(n : Int), rfl, by omega, by omega, ?_⟩
  have z := for_range (lo := 0) (n := (n : Int).toNat) (g := g) (tb := ts) (D := D) (σ := σ) (H := H2) (nxt W) ⟨H0, h0, e2⟩ (fun i s H3 hi p => ?_) (fun s H3 p => ?_)
  · exact z
  · obtain ⟨H4, w, e4⟩ := p
    have e0 : (0 : Int) + (i : Int) = (i : Int) := Int.zero_add _
    rw [e0]
    exact hs i s H4 (by omega) w H3 e4 _ fun s' H5 H6 q e6 => q H6 e6 _ nxt_up hr hn nxt_up
  · obtain ⟨H4, w, e4⟩ := p
    have e0 : (n : Int).toNat = n := by omega
    rw [e0] at w
    exact hn _ _ _ (hd s H4 w) e4
theorem g_name {n : Nat} {QS : PS'} (k : QS (σ.set n (some v)) H) : kG (gName n) v σ H QS := fun H1 e _ q => q _ _ _ k e
theorem g_tup {n : Nat} {p : Addr} {xs : List V} {QS : PS'} (h : SqT K H p xs) (hl : xs.length = n) (k : kGs gs xs σ H QS) : kG (gTup K n gs) (.ref p) σ H QS := fun H1 e _ q => ⟨p, xs, rfl, e.st h, hl, k H1 e _ q⟩
theorem g_nil {QS : PS'} (k : QS σ H) : kGs gNil [] σ H QS := fun H1 e _ q => ⟨rfl, q _ _ _ k e⟩
theorem g_cons {xs : List V} {QS : PS'} (k : kG g v σ H fun s H1 => kGs gs xs s H1 QS) : kGs (gCons g gs) (v :: xs) σ H QS := fun H1 e _ q => ⟨v, xs, rfl, k H1 e _ fun s H0 H2 h e2 => h H2 e2 _ q⟩
/-! ### facts of heaps in steps -/
theorem st_new {p a : Addr} {o : HO} {xs : List V} (hn : H p = none) (h : SqT K H a xs) : SqT K (upd H p o) a xs := (Ex.news hn).st h
theorem sl_new {p a : Addr} {o : HO} {xs : List V} (hn : H p = none) (h : SqL K H a xs) : SqL K (upd H p o) a xs := (Ex.news hn).sl h
theorem at_new {p a : Addr} {o u : HO} (hn : H p = none) (h : H a = some u) : upd H p o a = some u := (Ex.news hn).get h
theorem szl {n : Nat} (h : n ≤ 1000) : n ≤ sizeLine := Nat.le_trans h (by decide)
/-! ### built-in calls -/
theorem c_abs (k : Q (.int (if i < 0 then -i else i)) H) : kC (fun xs H Q => ∃ i, xs = [V.int i] ∧ Q (.int (if i < 0 then -i else i)) H) [.int i] H Q := fun H1 e _ q => ⟨i, rfl, q _ _ _ k e⟩
theorem c_max2 (k : Q (.int (if j > i then j else i)) H) : kC (fun xs H Q => ∃ i j, xs = [V.int i, .int j] ∧ Q (.int (if j > i then j else i)) H) [.int i, .int j] H Q := fun H1 e _ q => ⟨i, j, rfl, q _ _ _ k e⟩
theorem c_min2 (k : Q (.int (if j < i then j else i)) H) : kC (fun xs H Q => ∃ i j, xs = [V.int i, .int j] ∧ Q (.int (if j < i then j else i)) H) [.int i, .int j] H Q := fun H1 e _ q => ⟨i, j, rfl, q _ _ _ k e⟩
theorem c_lenL {p : Addr} {ys : List V} (h : SqL K H p ys) (k : Q (.int ys.length) H) : kC (fun xs H Q => ∃ p ys, xs = [V.ref p] ∧ (SqL K H p ys ∨ SqT K H p ys) ∧ Q (.int ys.length) H) [.ref p] H Q := fun H1 e _ q => ⟨p, ys, rfl, .inl (e.sl h), q _ _ _ k e⟩
theorem c_lenT {p : Addr} {ys : List V} (h : SqT K H p ys) (k : Q (.int ys.length) H) : kC (fun xs H Q => ∃ p ys, xs = [V.ref p] ∧ (SqL K H p ys ∨ SqT K H p ys) ∧ Q (.int ys.length) H) [.ref p] H Q := fun H1 e _ q => ⟨p, ys, rfl, .inr (e.st h), q _ _ _ k e⟩

/-! ### types -/
inductive Ty5 (K : PySem.W.Frag) (H : Hp) : V → String → Prop where
  | int (i : Int) : Ty5 K H (.int i) "int"
  | bl (b : Bool) : Ty5 K H (.bl b) "bool"
  | non : Ty5 K H .non "NoneType"
  | str (z : Str) : Ty5 K H (.str z) "str"
  | lst {a : Addr} {xs : List V} (h : H a = some (.lst xs)) : Ty5 K H (.ref a) "list"
  | tup {a : Addr} {xs : List V} (h : H a = some (.tup xs)) : Ty5 K H (.ref a) "tuple"
theorem Ty5.up {x : V} {T : String} (h : Ty5 K H x T) (e : Ex H H') : Ty5 K H' x T := by
  cases h with
  | int i => exact .int i
  | bl b => exact .bl b
  | non => exact .non
  | str z => exact .str z
  | lst h => exact .lst (e _ _ h)
  | tup h => exact .tup (e _ _ h)
theorem Ty5.tyx {x : V} {T : String} (h : Ty5 K H x T) : TyX K H x (.type T) := by
  cases h with
  | int i => exact .base (.int i)
  | bl b => exact .base (.bl b)
  | non => exact .base .non
  | str z => exact .base (.str z)
  | lst h => exact .base (.lst h)
  | tup h => exact .base (.tup h)
theorem c_isi {T T' : String} {b : Bool} (h : Ty5 K H x T) (hb : kitB T T' = some b) (k : Q (.bl b) H) : kC (rIsi K) [x, .ty T'] H Q := fun H1 e _ q => ⟨x, .ty T', .type T, .type T', b, rfl, .ty T', (h.up e).tyx, kit_ty hb, q _ _ _ k e⟩
/-! ### what a caller knows of a def -/
def Cal (P : Program) (w : World) (K : PySem.W.Frag) (mg : Str → Option Value) (base : Heap) (CX : CXT) (k : Nat) (x : Str) (ps : List Str) (sp : Sp) : Prop :=
  ∃ f fd, FnOk P w K mg base CX k f fd ps sp ∧ mg x = some (.ref f) ∧ PySem.W.keepIn K (.ref f) = true ∧ Binds K fd ps []
def Dn (K : PySem.W.Frag) (mg : Str → Option Value) (x : Str) (st : Stmt) (ps : List Str) : Prop := ∃ f fd, Fun K x x st f fd ∧ mg x = some (.ref f) ∧ Binds K fd ps []
section
variable {P : Program} {w : World} {mg : Str → Option Value} {base : Heap} {CX : CXT} {k k' : Nat} {st : Stmt} {ps Ns : List Str} {sp : Sp} {X : Cx} {E : XK} {z : Str} {p pos : Pos} {e : Expr} {es : List Expr}
theorem pe_cal (c : Cal X.prog X.w X.K X.mg X.base CX k z ps sp) (hr : Room k' X.A) (hk : k ≤ k') (hg : Gl X z) (hx : Passes CX X E) (ha : PA X (e :: es) t) (hdb : (z == ("__debug__" : Str)) = false := by decide)
    (he : starEach (e :: es) X.env = (false, eval e X.env) :: starEach es X.env := by rfl) (hpl : (backTo pos (starEach es X.env)).any (·.1) = false := by rfl) : PE X (.Call (.Name z p) (e :: es) [] pos) (tCall sp [] E t) := by
  obtain ⟨f, fd, F, hm, hkp, hb⟩ := c
  exact pe_call F (hr.mono hk) hg hm hkp hb .nil hx ha hdb he hpl
theorem pe_gI {n : Int} (hg : Gl X z) (hm : ∃ t, X.mg z = some (.int n t)) (hd : (z == ("__debug__" : Str)) = false := by decide) : PE X (.Name z p) (tC (.int n)) := by
  obtain ⟨t, hm⟩ := hm
  exact pe_glob hg hm ⟨t, rfl⟩ hd
/-- a def, by its reading -/
theorem cal_mk (D : Dn K mg z st ps) (S : FnScope Ns ps (defScope st)) (len : ∀ vs H Q E, sp vs H Q E → vs.length = ps.length)
    (hbody : ∀ (f : Addr) (cdv : Value) (A : Around) (outer : List Env) (s : Shared) (H : Hp) (vs : List V) (Q : VK) (E : XK), Room k (A.deeper (envOfC z (defScope st) s.heap.objs.size f cdv)) → sp vs H Q E →
      ∃ t, PSs (cxOf (L2N.CX P w) P w K mg base Ns z (defScope st) f cdv A outer s H E) (defBody st) t ∧ t { nx := fun _ H' => Q .non H', rt := Q } (start Ns vs) H) : Cal P w K mg base (L2N.CX P w) (k + 1) z ps sp := by
  obtain ⟨f, fd, F, hm, hb⟩ := D
  obtain ⟨oc, od, kV, doc, pm, an, cdv, ct, osl, rfl, look, code⟩ := F.ex
  exact ⟨f, _, fn_of look code S len fun A outer s H vs Q E hr h => hbody f cdv A outer s H vs Q E hr h, hm, F.kp, hb⟩
theorem fn_mk {f : Addr} {fd : FuncData} {qual : Str} (F : Fun K z qual st f fd) (S : FnScope Ns ps (defScope st)) (len : ∀ vs H Q E, sp vs H Q E → vs.length = ps.length)
    (hbody : ∀ (cdv : Value) (A : Around) (outer : List Env) (s : Shared) (H : Hp) (vs : List V) (Q : VK) (E : XK), Room k (A.deeper (envOfC qual (defScope st) s.heap.objs.size f cdv)) → sp vs H Q E →
      ∃ t, PSs (cxOf (L2N.CX P w) P w K mg base Ns qual (defScope st) f cdv A outer s H E) (defBody st) t ∧ t { nx := fun _ H' => Q .non H', rt := Q } (start Ns vs) H) : FnOk P w K mg base (L2N.CX P w) (k + 1) f fd ps sp := by
  obtain ⟨oc, od, kV, doc, pm, an, cdv, ct, osl, rfl, look, code⟩ := F.ex
  exact fn_of look code S len fun A outer s H vs Q E hr h => hbody cdv A outer s H vs Q E hr h
/-- an own class of error -/
structure ExcT (K : PySem.W.Frag) (mg : Str → Option Value) (z : Str) (c : Addr) : Prop where
  g : mg z = some (.ref c)
  k : PySem.W.keepIn K (.ref c) = true
  x : PySem.W.excIn K c [.type "ValueError", .type "Exception", .type "BaseException", .type "object"] "ValueError.__new__" = true
  b : PySem.W.subIn K (.ref c) (.type "BaseException") = some true
  t : PySem.W.typeIn K (.ref c) = some (.type "type")
theorem ps_raiseT {c : Addr} {m : Str} {j : Nat} {p2 : Pos} {W : WX} {pos' : Pos} (T : ExcT X.K X.mg z c) (hc : X.calm = true) (tk : L2N.Takes X W) (hg : Gl X z) (hdb : (z == ("__debug__" : Str)) = false := by decide) :
    PS X (.Raise (some (.Call (.Name z p) [.Constant (.str m) j p2] [] pos)) none pos') (fun _ σ H => W (.ref c) none σ H) :=
  L2N.ps_raise hc tk (L2N.pmk_own PySem.F.excBase_ValueError T.x T.g T.k (raises_own T.b T.t) hg hdb)
end
theorem kb_int_int : kitB "int" "int" = some true := by decide +kernel
theorem kb_int_bool : kitB "int" "bool" = some false := by decide +kernel
theorem kb_int_tuple : kitB "int" "tuple" = some false := by decide +kernel
theorem kb_int_list : kitB "int" "list" = some false := by decide +kernel
theorem kb_bool_int : kitB "bool" "int" = some true := by decide +kernel
theorem kb_bool_bool : kitB "bool" "bool" = some true := by decide +kernel
theorem kb_bool_tuple : kitB "bool" "tuple" = some false := by decide +kernel
theorem kb_bool_list : kitB "bool" "list" = some false := by decide +kernel
theorem kb_NoneType_int : kitB "NoneType" "int" = some false := by decide +kernel
theorem kb_NoneType_bool : kitB "NoneType" "bool" = some false := by decide +kernel
theorem kb_NoneType_tuple : kitB "NoneType" "tuple" = some false := by decide +kernel
theorem kb_NoneType_list : kitB "NoneType" "list" = some false := by decide +kernel
theorem kb_str_int : kitB "str" "int" = some false := by decide +kernel
theorem kb_str_bool : kitB "str" "bool" = some false := by decide +kernel
theorem kb_str_tuple : kitB "str" "tuple" = some false := by decide +kernel
theorem kb_str_list : kitB "str" "list" = some false := by decide +kernel
theorem kb_list_int : kitB "list" "int" = some false := by decide +kernel
theorem kb_list_bool : kitB "list" "bool" = some false := by decide +kernel
theorem kb_list_tuple : kitB "list" "tuple" = some false := by decide +kernel
theorem kb_list_list : kitB "list" "list" = some true := by decide +kernel
theorem kb_tuple_int : kitB "tuple" "int" = some false := by decide +kernel
theorem kb_tuple_bool : kitB "tuple" "bool" = some false := by decide +kernel
theorem kb_tuple_tuple : kitB "tuple" "tuple" = some true := by decide +kernel
theorem kb_tuple_list : kitB "tuple" "list" = some false := by decide +kernel
/-- the classes' addresses -/
structure Cs where
  BadRule : Addr
  BadKey : Addr
  BadSize : Addr
  Full : Addr
  TooMany : Addr
  StrewError : Addr
  Ring : Addr
  Row : Addr
  Growing : Addr
theorem upE {Q : VK} {v w : V} {H : Hp} (q : upR Q v H) (e : v = w) : upR Q w H := e ▸ q
theorem upX {Q : VK} {v : V} {H H' : Hp} (q : upR Q v H) (e : Ex H H') : upR Q v H' := fun H2 e2 => q H2 (e.tr e2)
/-- what is counted: an int, or what is none -/
def cnt : V → Int → Int → Bool
  | .int i, lo, hi => decide (lo ≤ i) && decide (i ≤ hi)
  | _, _, _ => false
/-! ### more of numbers -/
theorem op_mulX {X : Cx} : OpR X (binaryOp .Mult) (rI IntMulOk fun i j => .int (i * j)) := opI fun _ _ _ _ _ _ _ hc q => mul_int q hc
theorem mulxR {i j : Int} (h1 : -(2 ^ 64) < j) (h2 : j < 2 ^ 64) : IntMulOk i j := .of_right (intBits_le_64 h1 h2)
theorem mulxL {i j : Int} (h1 : -(2 ^ 64) < i) (h2 : i < 2 ^ 64) : IntMulOk i j := .of_left (intBits_le_64 h1 h2)
theorem mulw {m n : Nat} {a b : Nat} (ha : m < 2 ^ a) (hb : n < 2 ^ b) (h0 : 0 < a) (h1 : 0 < b) (h : a + b ≤ 1000000) : IntMulOk (m : Int) (n : Int) := (wide_mul (a := a) (b := b) (by simpa using ha) (by simpa using hb) h0 h1 h).ok
theorem divw {i : Int} {n b : Nat} (h : 0 < n) (hb : n < 2 ^ b) (h0 : 0 < b) (h9 : b ≤ 9000) : CDivW i (n : Int) := wide_div (b := b) (by omega) (by simpa using hb) h0 h9
theorem cdivL {i j : Int} (h0 : 0 < j) (h1 : j < 2 ^ 64) : CDivW i j := wide_div (b := 64) h0 (by omega) (by decide) (by decide)
theorem abs_nat (m : Nat) : (if ((m : Nat) : Int) < 0 then -((m : Nat) : Int) else ((m : Nat) : Int)) = ((m : Nat) : Int) := if_neg (by omega)
/-! ### data compared -/
mutual
theorem dpUp (e : Ex H H') : ∀ {v : V} {d : PyData}, Dp K H v d → Dp K H' v d
  | _, _, .non => .non
  | _, _, .bl b => .bl b
  | _, _, .int i => .int i
  | _, _, .str x => .str x
  | _, _, .lst h a => .lst (e.sl h) (dpAllUp e a)
  | _, _, .tup h a => .tup (e.st h) (dpAllUp e a)
theorem dpAllUp (e : Ex H H') : ∀ {vs : List V} {ds : List PyData}, DpAll K H vs ds → DpAll K H' vs ds
  | _, _, .nil => .nil
  | _, _, .cons h a => .cons (dpUp e h) (dpAllUp e a)
end
theorem r_eqD {d e : PyData} {b : Bool} (h1 : Dp K H x d) (h2 : Dp K H y e) (s1 : SeqAt.shaped d = true) (s2 : SeqAt.shaped e = true) (hb : PyData.eqv d e = b) (k : Q (.bl b) H) : kR (rEqD K) x y H Q := fun H1 ex _ q => ⟨d, e, dpUp ex h1, dpUp ex h2, s1, s2, by rw [hb]; exact q _ _ _ k ex⟩
theorem r_neD {d e : PyData} {b : Bool} (h1 : Dp K H x d) (h2 : Dp K H y e) (s1 : SeqAt.shaped d = true) (s2 : SeqAt.shaped e = true) (hb : PyData.eqv d e = b) (k : Q (.bl (!b)) H) : kR (rNeD K) x y H Q := fun H1 ex _ q => ⟨d, e, dpUp ex h1, dpUp ex h2, s1, s2, by rw [hb]; exact q _ _ _ k ex⟩
theorem dp_ints : ∀ ns : List Int, DpAll K H (ns.map V.int) (ns.map PyData.int)
  | [] => .nil
  | n :: ns => .cons (.int n) (dp_ints ns)
theorem eqv_ints : ∀ ns ms : List Int, PyData.eqv (.list (ns.map PyData.int)) (.list (ms.map PyData.int)) = decide (ns = ms)
  | [], [] => by simp [PyData.eqv, PyData.eqvAll]
  | [], _ :: _ => by simp [PyData.eqv, PyData.eqvAll]
  | _ :: _, [] => by simp [PyData.eqv, PyData.eqvAll]
  | a :: r, b :: t => by
    have ih := eqv_ints r t
    simp only [PyData.eqv] at ih
    simp only [List.map_cons, PyData.eqv, PyData.eqvAll, ih]
    by_cases h : a = b <;> by_cases h' : r = t <;> simp [h, h']
theorem r_eqIs {p q : Addr} {ns ms : List Int} (h1 : SqL K H p (ns.map V.int)) (h2 : SqL K H q (ms.map V.int)) (k : Q (.bl (decide (ns = ms))) H) : kR (rEqD K) (.ref p) (.ref q) H Q :=
  r_eqD (.lst h1 (dp_ints ns)) (.lst h2 (dp_ints ms)) (PySem.W.ke_shaped_ints ns) (PySem.W.ke_shaped_ints ms) (eqv_ints ns ms) k
theorem r_neIs {p q : Addr} {ns ms : List Int} (h1 : SqL K H p (ns.map V.int)) (h2 : SqL K H q (ms.map V.int)) (k : Q (.bl (!decide (ns = ms))) H) : kR (rNeD K) (.ref p) (.ref q) H Q :=
  r_neD (.lst h1 (dp_ints ns)) (.lst h2 (dp_ints ms)) (PySem.W.ke_shaped_ints ns) (PySem.W.ke_shaped_ints ms) (eqv_ints ns ms) k
theorem eqv_pair (a b c d : Int) : PyData.eqv (.tuple [.int a, .int b]) (.tuple [.int c, .int d]) = decide (a = c ∧ b = d) := by
  simp only [PyData.eqv, PyData.eqvAll]
  by_cases h : a = c <;> by_cases h' : b = d <;> simp [h, h']
theorem r_neP {p q : Addr} {a b c d : Int} (h1 : SqT K H p [.int a, .int b]) (h2 : SqT K H q [.int c, .int d]) (k : Q (.bl (!decide (a = c ∧ b = d))) H) : kR (rNeD K) (.ref p) (.ref q) H Q :=
  r_neD (.tup h1 (.cons (.int a) (.cons (.int b) .nil))) (.tup h2 (.cons (.int c) (.cons (.int d) .nil))) rfl rfl (eqv_pair a b c d) k
/-! ### places of a written list -/
theorem atI_mod {α : Type} {xs : List α} {r n : Nat} {v : α} (h : xs[r % n]? = some v) : atI xs ((r : Int) % (n : Int)) = some v := by
  have e : (r : Int) % (n : Int) = ((r % n : Nat) : Int) := by rw [Int.natCast_emod]
  rw [e]
  exact atI_nat h
/-- behind a test -/
theorem dec2 {p : Prop} [Decidable p] {A B : Prop} (h1 : p → A) (h2 : ¬ p → B) : (decide p = true → A) ∧ (decide p = false → B) := ⟨fun h => h1 (of_decide_eq_true h), fun h => h2 (of_decide_eq_false h)⟩
theorem ndec2 {p : Prop} [Decidable p] {A B : Prop} (h1 : ¬ p → A) (h2 : p → B) : ((!decide p) = true → A) ∧ ((!decide p) = false → B) := ⟨fun h => h1 (by simpa using h), fun h => h2 (by simpa using h)⟩
/-- for i in range(a, b, -1) -/
theorem s_forDn (a b : Int) (n : Nat) (W : Nat → PS') (k : kA t σ H fun vs H1 => vs = [.int a, .int b, .int (-1)] ∧ (-(2 ^ 62) ≤ a ∧ a < 2 ^ 62 ∧ -(2 ^ 62) ≤ b ∧ b < 2 ^ 62) ∧ (a - b).toNat = n ∧ W 0 σ H1 ∧ (∀ i s H2, i < n → W i s H2 → kG g (.int (a - (i : Int))) s H2 fun s' H3 => kS ts (nxt W (i + 1)) R N (nxt W (i + 1)) s' H3) ∧ ∀ s H2, W n s H2 → N s H2) :
    kS (tFor (iRng3 t) g ts) N R B C σ H := fun H1 e D hn hr hb hc => k H1 e _ fun vs H0 H2 ⟨ev, ⟨l1, l2, l3, l4⟩, en, h0, hs, hd⟩ e2 => by
  subst ev
  subst en
  refine ⟨a, b, -1, (a - b).toNat, rfl, RgC.neg l1 l2 l3 l4, ?_⟩
  have z := for_rangeC (lo := a) (c := -1) (n := (a - b).toNat) (g := g) (tb := ts) (D := D) (σ := σ) (H := H2) (nxt W) ⟨H0, h0, e2⟩ (fun i s H3 hi p => ?_) (fun s H3 p => ?_)
  · exact z
  · obtain ⟨H4, w, e4⟩ := p
    have e0 : a + (i : Int) * (-1) = a - (i : Int) := by omega
    rw [e0]
    exact hs i s H4 hi w H3 e4 _ fun s' H5 H6 q e6 => q H6 e6 _ nxt_up hr hn nxt_up
  · obtain ⟨H4, w, e4⟩ := p
    exact hn _ _ _ (hd s H4 w) e4
theorem cnt_ok {i lo hi : Int} (h1 : lo ≤ i) (h2 : i ≤ hi) : cnt (.int i) lo hi = true := by simp [cnt, h1, h2]
/-- a whole number among few, as a natural -/
theorem nat_of {z : Int} {b : Nat} (h0 : 0 ≤ z) (h1 : z ≤ b) : ∃ n : Nat, z = (n : Int) ∧ n ≤ b := ⟨z.toNat, by omega, by omega⟩
/-- an item of a written list at a rest -/
theorem pick {xs : List V} {z m : Int} {P : V → Prop} (hm : (xs.length : Int) = m) (h0 : 0 < m) (h : ∀ x ∈ xs, P x) : ∃ v, atI xs (z % m) = some v ∧ P v := by
  subst hm
  have h1 : 0 ≤ z % (xs.length : Int) := Int.emod_nonneg _ (by omega)
  have h2 : z % (xs.length : Int) < xs.length := Int.emod_lt_of_pos _ h0
  obtain ⟨n, hn⟩ := Int.eq_ofNat_of_zero_le h1
  have h3 : n < xs.length := by omega
  refine ⟨xs[n], ?_, h _ (List.getElem_mem h3)⟩
  rw [hn]
  exact atI_nat (List.getElem?_eq_getElem h3)
/-- the law's promise -/
def spLaw (K : PySem.W.Frag) : Sp := fun vs H Q _ => ∃ (a : Addr) (ns : List Int), vs = [.ref a] ∧ SqL K H a (ns.map V.int) ∧ ns.length ≤ 63 ∧ ∀ H', Q (.bl true) H'
end Lg

/-! HotW: lists walked while an exception is handled: the end of a walk, sum, a comprehension of int(x) over truths, isinstance of the exception. -/
namespace LgH
open PySem PySem.Spec PyProof.Rows L2 HotX L2H
section
variable {prog : Program} {w : World} {A : Around} {E : Value → Shared → Prop} {s : Shared}
def NoCtx (h : Heap) (x1 : Addr) : Prop := ∃ (o : Obj) (vs : Array Value), h.get? x1 = some o ∧ o.data = .fields vs ∧ vs[2]? = some .none
theorem end_hot {ia la x1 : Addr} {j : Nat} {its : Array Value} {Q : Option Value → Shared → Prop} (hd : A.handled = some (.ref x1)) (ct : NoCtx s.heap x1) (iter : s.heap.IsListIter ia la j) (lst : s.heap.IsList la its) (past : its[j]? = none) (ne : x1 ≠ ia)
    (fin : ∀ h', Heap.ExtBut ia s.heap h' → Q none { s with heap := h' }) : wpAny (model prog w) A (pyNext (.ref ia)) Q E s := by
  obtain ⟨oi, gi, ci, di⟩ := id iter
  obtain ⟨ol, gl, _, nl, dl⟩ := lst
  obtain ⟨o1, v1, g1, d1, c1⟩ := ct
  unfold pyNext
  apply wpAny_bind
  apply wpAny_attempt
  refine wpAny_callSpecial?_slot (name := Str.ofString "__next__") iter.typeIs slot_listiter_next (wpAny_call_entry slot_listiter_next iter.typeIs entry_listiter_next ?_ (args_listiter_next _))
  show wpAny _ _ (field (.ref ia) 0 >>= _) _ _ s
  apply wpAny_bind
  refine wpAny_field gi di (x := .ref la) rfl ?_
  show wpAny _ _ (if (Value.ref la == Value.none) = true then _ else _) _ _ s
  rw [if_neg (fun z : (Value.ref la == Value.none) = true => Bool.false_ne_true z)]
  show wpAny _ _ (field (.ref ia) 1 >>= _) _ _ s
  apply wpAny_bind
  refine wpAny_field gi di (x := .int j 0) rfl ?_
  show wpAny _ _ (seqItems? (.ref la) >>= _) _ _ s
  apply wpAny_bind
  refine wpAny_seqItems gl dl ?_
  simp only [Int.toNat_natCast, past]
  apply wpAny_bind
  apply wpAny_rule
  apply wpAny_bind
  refine wpAny_setField gi di (by simp) ?_
  show wpAny _ _ (newExc (.type "StopIteration") [] >>= _) _ _ _
  apply wpAny_bind
  simp only [newExc, newTuple]
  apply wpAny_bind
  refine wpAny_newObj_type ?_ (by size_fits)
  refine wpAny_bind (m := firstArgMember _ _) (wpAny_of_eq (a := Value.none) (by first | rfl | (simp only [firstArgMember]; rfl)) ?_)
  refine wpAny_newObj_type ?_ (by size_fits)
  have g1' : (s.heap.update ia (Obj.mapFields (·.setIfInBounds 0 Value.none))).get? x1 = some o1 := by
    rw [Heap.get?_update_other _ _ (Ne.symm ne)]
    exact g1
  refine raiseNew_hot (x1 := x1) ⟨hd, o1, v1, Heap.get?_push_of_some _ (Heap.get?_push_of_some _ g1'), d1, c1⟩ ?_ (Heap.get?_push_size _ rfl) rfl ?_ ?_
  · exact Nat.ne_of_lt (Heap.lt_size (Heap.get?_push_of_some _ g1'))
  · first
      | (simp; done)
      | (simp; omega)
      | (simp only [Array.size_append]; simp; omega)
  · apply wpAny_bind
    refine wpAny_isInstance (T := "StopIteration") (b := true) ⟨_, Heap.get?_update_self _ (Heap.get?_push_size _ rfl) rfl, rfl⟩ isSubtype_stop ?_
    refine wpAny_pure (fin _ ?_)
    intro b o hb e
    have e2 : (s.heap.update ia (Obj.mapFields (·.setIfInBounds 0 Value.none))).get? b = some o := by
      rw [Heap.get?_update_other _ _ (Ne.symm hb)]
      exact e
    rw [Heap.get?_update_other _ _ (Ne.symm (Nat.ne_of_lt (Heap.lt_size (Heap.get?_push_of_some _ e2))))]
    exact Heap.get?_push_of_some _ (Heap.get?_push_of_some _ e2)
theorem walks_hot {x1 : Addr} (hd : A.handled = some (.ref x1)) (ia la : Addr) (n1 : la ≠ ia) (n2 : x1 ≠ ia) (its : Array Value) :
    Walks prog w A ia [ia, la, x1] [ia] its.size (fun i v => its[i]? = some v) (fun i h => h.IsListIter ia la i ∧ h.IsList la its ∧ NoCtx h x1) where
  sub := fun b hb => by
    rw [List.mem_singleton.mp hb]
    exact List.mem_cons_self
  frame := fun i h h' st k => ⟨st.1.at fun o e => k ia (by simp) o e, st.2.1.at fun o e => k la (by simp) o e, by
    obtain ⟨o, vs, g, z⟩ := st.2.2
    exact ⟨o, vs, k x1 (by simp) o g, z⟩⟩
  item := fun i s Q E hi st hQ => by
    refine wpAny_pyNext_list_item st.1 st.2.1 (x := its[i]) (by simp [hi]) fun h' it' same => ?_
    refine hQ _ h' s.toks (by simp [hi]) ⟨it', st.2.1.extBut same.extBut n1, ?_⟩ fun b o hb e => same.extBut b o (fun z => hb (by simp [z])) e
    obtain ⟨o, vs, g, z⟩ := st.2.2
    exact ⟨o, vs, same.extBut x1 o n2 g, z⟩
  done := fun s Q E st hQ => end_hot hd st.2.2 st.1 st.2.1 (by simp) n2 fun h' ext => hQ h' s.toks fun b o hb e => ext b o (fun z => hb (by simp [z])) e
  self := fun _ _ _ _ st hQ => wpAny_pyIter_listiter st.1 hQ
end

/-! ### over the layer -/
section
variable {X : Cx}
/-- sum(xs), whole numbers -/
theorem cr_sumH (hc : HotC X) : CallR X (.builtin "sum") (rSum X.K) := by
  intro pins s σ H vs us Q I r h
  obtain ⟨a, ns, rfl, hs, q⟩ := h
  obtain ⟨its, rv, hl, _⟩ := I.list hs
  obtain ⟨x1, hd, ct⟩ := hc.at I
  rw [Vals.ref1 r]
  have hi := rv.ints
  obtain ⟨zs, ez⟩ := hi.allInts.items
  have hn : numsOf (intItems zs).toList = ns := by rw [← ez]; exact hi.numsOf
  rw [nums_intItems] at hn
  have hl2 := hl.isList
  rw [ez] at hl2
  refine call_sum_walkG (iter_intList hl2 fun s2 e st hfp hlI => ?_)
  subst e
  have nx : x1 ≠ s.heap.objs.size := by
    obtain ⟨o, vs, g, _⟩ := ct
    exact Nat.ne_of_lt (Heap.lt_size g)
  refine ⟨_, _, _, _, _, _, numAt zs, rfl, walks_hot (A := X.A.in1) (x1 := x1) hd _ a hlI nx (intItems zs), ⟨st.1, st.2, ?_⟩, ?_, (fun _ _ => intItems_at), fun h' tk t' hk => ?_⟩
  · obtain ⟨o, vs, g, z⟩ := ct
    exact ⟨o, vs, Heap.get?_push_of_some _ g, z⟩
  · intro b hb
    rcases List.mem_cons.mp hb with z | hb
    · exact hfp b (by rw [z]; simp)
    rcases List.mem_cons.mp hb with z | hb
    · exact hfp b (by rw [z]; simp)
    · rw [List.mem_singleton.mp hb]
      obtain ⟨o, vs, g, z⟩ := ct
      exact Heap.lt_size (Heap.get?_push_of_some _ g)
  · have e1 : preSum (numAt zs) (intItems zs).size = ns.sum := by
      rw [show (intItems zs).size = zs.size by simp [intItems], preSum_eq, List.take_of_length_le (by simp), hn]
    rw [e1]
    refine ⟨.int ns.sum, H, I.kept (t' := tk) fun b o e => hk b o ?_ (Heap.get?_push_of_some _ e), ⟨_, rfl⟩, q⟩
    intro hb
    rw [List.mem_singleton.mp hb] at e
    exact absurd (Heap.lt_size e) (Nat.lt_irrefl _)
def b2n (b : Bool) : Int := if b = true then 1 else 0
/-- [int(x) for x in e], e a list of truths -/
def tHotInts (K : PySem.W.Frag) (te : TE) : TE := fun σ H Q => te σ H fun v H1 => ∃ (a : Addr) (bs : List Bool), v = .ref a ∧ SqL K H1 a (bs.map V.bl) ∧ bs.length ≤ 1000 ∧ ∀ p, H1 p = none → Q (.ref p) (upd H1 p (.lst (bs.map fun b => V.int (b2n b))))
theorem vals_bools : ∀ {bs : List Bool} {us : List Value}, Vals (bs.map V.bl) us → us = bs.map Value.bool
  | [], _, h => by
    cases h
    rfl
  | b :: bs, _, h => by
    cases h with
    | cons r t =>
      rw [show _ = Value.bool b from r, vals_bools t]
      rfl
theorem vals_b2n : ∀ {bs : List Bool} {ys : List Value}, Paired (fun v y => ∃ b t, v = Value.bool b ∧ y = Value.int (b2n b) t) (bs.map Value.bool) ys → Vals (bs.map fun b => V.int (b2n b)) ys
  | [], _, h => by
    cases h
    exact .nil
  | b :: bs, _, h => by
    cases h with
    | cons r t =>
      obtain ⟨b', tk, e1, e2⟩ := r
      cases e1
      exact .cons ⟨tk, e2⟩ (vals_b2n t)
theorem pe_hotInts {x : Str} {p1 p2 p3 p4 pos : Pos} {e : Expr} {te : TE} {scope : Scope} (hc : HotC X) (he : PE X e te) (mi : X.mg "int" = none) (hfree : ∀ y ∈ scope.names, y.2 ≠ .free) (hcell : ∀ y ∈ scope.names, y.2 ≠ .cell) (hkind : scope.kind = .function)
    (hnames : ∀ y ∈ scope.names, y.2 = .local → scope.names.lookup y.1 = some .local) (hx : scope.names.lookup x = some .local) (hint : scope.names.lookup ("int" : Str) = some .globalImplicit) (hdb : (x == ("__debug__" : Str)) = false)
    (hs : ∀ y, foldedSetIterable e X.env y = pure y) : PE X (.ListComp (.Call (.Name "int" p1) [.Name x p2] [] p3) [⟨.Name x p4, e, [], 0⟩] scope pos) (tHotInts X.K te) := by
  refine ⟨fun pins s σ H Q I h => ?_⟩
  refine wpAny_ListComp_walk (fun _ => true) (fun v y => ∃ b t, v = Value.bool b ∧ y = Value.int (b2n b) t) hfree hcell hkind hnames hx (thn (he.run pins s σ H _ I h) fun u s1 ⟨v, H1, I1, r1, q1⟩ => ?_) hs
  obtain ⟨a, bs, ev, hS, hl, q⟩ := q1
  subst ev
  cases r1
  obtain ⟨its, rv, pl, hz⟩ := I1.list hS
  have ei := vals_bools rv
  subst ei
  obtain ⟨x1, hd, ct⟩ := hc.at I1
  have la : a < s1.heap.objs.size := pl.lt
  have lx : x1 < s1.heap.objs.size := by
    obtain ⟨o, vs, g, _⟩ := ct
    exact Heap.lt_size g
  refine wpAny_pyIter_list pl.isList ?_
  refine ⟨s1.heap.objs.size, _, _, _, _, _, rfl, walks_hot hd s1.heap.objs.size a (Nat.ne_of_lt la) (Nat.ne_of_lt lx) (bs.map Value.bool).toArray, ?_, ⟨⟨_, Heap.get?_push_size _ rfl, rfl, rfl⟩, pl.isList.push _, ?_⟩, ?_, ⟨?_, ?_⟩, ?_⟩
  · rw [List.size_toArray, List.length_map]
    exact Nat.le_trans hl (by decide)
  · obtain ⟨o, vs, g, z⟩ := ct
    exact ⟨o, vs, Heap.get?_push_of_some _ g, z⟩
  · intro b hb
    rw [Heap.size_push]
    have e' : b = s1.heap.objs.size ∨ b = a ∨ b = x1 := by simpa using hb
    rcases e' with z | z | z
    · rw [z]
      exact Nat.lt_succ_self _
    · rw [z]
      exact Nat.lt_succ_of_lt la
    · rw [z]
      exact Nat.lt_succ_of_lt lx
  · intro C i v s3 m3 E' hv hn hm hk ht
    exact wpAny_pure ⟨rfl, s3.heap, s3.toks, rfl, fun _ _ e => e⟩
  · intro C i v s3 m3 E' hv _ hn hm hk ht
    obtain ⟨b, eb⟩ : ∃ b, v = Value.bool b := by
      have hv' : (bs.map Value.bool)[i]? = some v := by simpa using hv
      rw [List.getElem?_map] at hv'
      cases eb : bs[i]? with
      | none => rw [eb] at hv'; cases hv'
      | some b => rw [eb] at hv'; exact ⟨b, (Option.some.inj hv').symm⟩
    subst eb
    have hk3 : ∀ b o, X.base.get? b = some o → s3.heap.get? b = some o := fun b o e => by
      have z := I1.bk b o e
      refine hk b o ?_ (Heap.get?_push_of_some _ z)
      intro hb
      rw [List.mem_singleton.mp hb] at z
      exact absurd (Heap.lt_size z) (Nat.lt_irrefl _)
    obtain ⟨mb, hb1, hb2⟩ := I1.mod.blt
    refine Call_ (Calls.Name_function_global hkind hint (Calls.loadGlobal_builtin (mg := X.mg) (mb := mb) (v := .type "int") ?_ mi ?_ ?_ ?_))
    · show s3.heap.Ns X.env.globals X.mg
      rw [I1.ok.glob]
      exact I1.mod.glob.keeps hk3
    · show s3.heap.Ns X.env.builtins mb
      rw [I1.ok.blt]
      exact hb1.keeps hk3
    · exact (hb2 "int" (by decide)).trans (by decide +kernel)
    · refine PyProof.Rows.callWith_type1 (Calls.spliced_cons (wpAny_Name (wpAny_loadName_local hkind hx hn hm ?_) hdb)) rfl rfl
      refine Calls.spliced_nil ?_
      exact call_int_bool ⟨⟨b, _, rfl, rfl⟩, s3.heap, _, rfl, fun _ _ e => e⟩
  · intro D h' tk ys vs hD hlD hpD hlen hP hF hk
    have kk : ∀ b o, s1.heap.get? b = some o → h'.get? b = some o := fun b o e => by
      refine hk b o ?_ (Heap.get?_push_of_some _ e)
      intro hb
      rw [List.mem_singleton.mp hb] at e
      exact absurd (Heap.lt_size e) (Nat.lt_irrefl _)
    have evs : vs = bs.map Value.bool := by
      refine List.ext_getElem? fun j => ?_
      cases ej : vs[j]? with
      | none =>
        have h1 := List.getElem?_eq_none_iff.mp ej
        have h2 : (bs.map Value.bool).length ≤ j := by
          rw [List.size_toArray] at hlen
          omega
        exact (List.getElem?_eq_none_iff.mpr h2).symm
      | some v =>
        have z := hP j v ej
        exact (by simpa using z : (bs.map Value.bool)[j]? = some v).symm
    have hV : Vals (bs.map fun b => V.int (b2n b)) ys.toList := by
      refine vals_b2n ?_
      rw [← evs]
      have ef : vs.filter (fun _ => true) = vs := List.filter_eq_self.mpr fun _ _ => rfl
      rw [ef] at hF
      exact hF
    have gD : s1.heap.get? D = none := by
      cases eD : s1.heap.get? D with
      | none => rfl
      | some o =>
        rw [Heap.get?_push_of_some _ eD] at hD
        cases hD
    have nD : H1 D = none := I1.hok.gone gD
    have nb : ∀ b u, s1.heap.get? b = some u → b ≠ D := fun b u e z => by
      rw [z, gD] at e
      cases e
    obtain ⟨n, eD⟩ := hpD
    have new : ObjOk X.prog X.w (upd H1 D (.lst (bs.map fun b => V.int (b2n b)))) h' D (.lst (bs.map fun b => V.int (b2n b))) := by
      refine ⟨?_, ys.toList, n, hV, ?_⟩
      · rw [List.length_map]
        exact Nat.le_trans hl (by decide)
      · simpa using eD
    refine ⟨.ref D, upd H1 D (.lst (bs.map fun b => V.int (b2n b))), I1.un (t' := tk) ⟨fun b u e _ _ _ => kk b u e, fun b u e _ _ _ => ⟨u.slots, kk b u e⟩, fun b u e n _ => ?_, fun b u e _ => ⟨u, kk b u e⟩, fun b xs e => ?_, fun b o xs e => ?_, fun b ps e => ⟨#[], ?_⟩⟩ ?_, rfl, q D nD⟩
    · rw [upd_ne (nb b u e)]
      exact n
    · rw [upd_ne (ne_of_none e nD)]
      exact e
    · rw [upd_ne (ne_of_none e nD)]
      exact e
    · rw [upd_ne (ne_of_none e nD), e]
      simp
    · intro b u e
      by_cases hb : b = D
      · subst hb
        rw [upd_same] at e
        cases e
        exact new
      · rw [upd_ne hb] at e
        exact (I1.hok b u e).stay (fun c v _ e => kk c v e) (fun c e => by rw [upd_ne (ne_of_none e nD)]; exact e) fun c xs e => by rw [upd_ne (ne_of_none e nD)]; exact e
end
end LgH

/-! Told: a def called in an except suite with the exception that is handled; try .. except StrewError as e: return word(e). -/
namespace Lg
open PySem PySem.Spec PyProof.Rows L2 L2H LgH
section
variable {P : Program} {w : World} {K : PySem.W.Frag} {mg : Str → Option Value} {base : Heap} {k j : Nat} {z : Str} {st : Stmt} {ps Ns : List Str} {X : Cx}
def CalX (P : Program) (w : World) (K : PySem.W.Frag) (mg : Str → Option Value) (base : Heap) (k : Nat) (z : Str) (ps : List Str) (sp : Addr × Obj → Sp) : Prop :=
  ∃ f fd, (∀ (A : Around) (outer : List Env) (s : Shared) (H : Hp) (us : List Value) (vs : List V) (Q : VK) (E : XK) (p : Addr × Obj), RoomH k A → Hot1 A p → PinOk outer H s p → Env0 P w K mg base A outer s H → BindsTo s fd ⟨us, []⟩ (ps.zip us) →
    Vals vs us → vs.length = ps.length → sp p vs H Q E → codeAny (model P w) A (.call (.ref f) ⟨us, []⟩) (CR (L2N.CX P w) outer P w H s Q E) s) ∧ mg z = some (.ref f) ∧ PySem.W.keepIn K (.ref f) = true ∧ Binds K fd ps []
theorem calX_mk {sp : Addr × Obj → Sp} (D : Dn K mg z st ps) (S : FnScope Ns ps (defScope st))
    (hbody : ∀ (f : Addr) (cdv : Value) (A : Around) (outer : List Env) (s : Shared) (H : Hp) (vs : List V) (Q : VK) (E : XK) (p : Addr × Obj), Hot1 A p → RoomH k (A.deeper (envOfC z (defScope st) s.heap.objs.size f cdv)) → sp p vs H Q E →
      ∃ t, PSs (cxH (L2N.CX P w) P w K mg base Ns z (defScope st) f cdv A outer s H E p) (defBody st) t ∧ t { nx := fun _ H' => Q .non H', rt := Q } (L2.start Ns vs) H) : CalX P w K mg base (k + 1) z ps sp := by
  obtain ⟨f, fd, F, hm, hb⟩ := D
  obtain ⟨oc, od, kV, doc, pm, an, cdv, ct, osl, rfl, look, code⟩ := F.ex
  refine ⟨f, _, fun A outer s H us vs Q E p hr hot pin e0 bind rel len hsp => ?_, hm, F.kp, hb⟩
  have here : K.In s.heap := e0.mod.kin.keeps fun b o e => (e0.bs b o e).1
  have nolim : s.heap.NoLimit := e0.mod.nolimit.keeps fun b o e => (e0.bs b o e).1
  refine codeAny_call_function hr.depth (here _ _ look) rfl S.co S.gen rfl (PySem.W.codeRec_of here code) (bind _ _ _ _ ?_)
  refine wpAny_newFunctionEnv_cells S.kind (fun y hy => ?_) fun env he s1 x => ?_
  · obtain ⟨n, v⟩ := y
    rcases S.par n (List.of_mem_zip hy).1 with q | q
    · exact .inl q
    · exact .inr ⟨q, PySem.W.cellsFrom_some _ _ _ (.inl q)⟩
  · subst he
    refine ⟨nolim.keeps x.toInCall.keep, codeAny_func ?_⟩
    obtain ⟨t, body, read⟩ := hbody f cdv A outer s H vs Q E p hot (hr.deeper _) hsp
    have I := inv_startH (CX := L2N.CX P w) (E := E) S pin e0 len rel x
    refine wpAny_mono (body.run [] s1 (L2.start Ns vs) H _ I read) (fun fl s' hs => ?_) fun _ _ h => h
    cases fl with
    | next =>
      obtain ⟨σ', H', J, q⟩ := hs
      exact ⟨.non, H', J.os, J.bare, J.base, J.hok, rfl, q⟩
    | ret u =>
      obtain ⟨v, σ', H', J, r, q⟩ := hs
      exact ⟨v, H', J.os, J.bare, J.base, J.hok, r, q⟩
    | brk =>
      obtain ⟨_, _, _, q⟩ := hs
      exact q.elim
    | cont =>
      obtain ⟨_, _, _, q⟩ := hs
      exact q.elim
theorem noOut {outer : List Env} {H : Hp} {s : Shared} {e : Value} {s' : Shared} (h : L2N.CX P w outer H s E0 e s') : False := by
  obtain ⟨_, _, _, _, _, _, _, _, _, _, _, _, no⟩ := h
  exact no
theorem passN {X : Cx} : Passes (L2N.CX X.prog X.w) X E0 := fun _ _ _ _ _ _ _ h => (noOut h).elim
/-- word(e), e the exception q that is handled -/
def tWordCall (sp : Addr × Obj → Sp) (q : Addr × Obj) (te : TE) : TE := fun σ H Q => te σ H fun v H1 => sp q [v] H1 Q E0
theorem pe_calX {sp : Addr × Obj → Sp} {q : Addr × Obj} {p pos : Pos} {e : Expr} {te : TE} {y : Str} (c : CalX X.prog X.w X.K X.mg X.base k z [y] sp) (hr : RoomH j X.A) (hk : k ≤ j) (hot : Hot1 X.A q) (hq : q ∈ X.pn) (hg : Gl X z) (he : PE X e te)
    (hdb : (z == ("__debug__" : Str)) = false := by decide) (hst : starEach (e :: []) X.env = (false, eval e X.env) :: starEach [] X.env := by rfl) (hpl : (backTo pos (starEach [] X.env)).any (·.1) = false := by rfl) :
    PE X (.Call (.Name z p) [e] [] pos) (tWordCall sp q te) := by
  obtain ⟨f, fd, run, hm, hkp, hb⟩ := c
  refine ⟨fun pins s σ H Q I h => ?_⟩
  refine wpAny_Call_Name_kw (ld_glob I hg hm ?_ hdb)
  have ha : PA X [e] (tCons te tNil) := pa_cons he pa_nil hst
  refine PySem.W.callWith_K (h₀ := X.base) I.ok.mod.kin hkp (thn (ha.run pos pins s σ H (fun vs H1 => ∃ v, vs = [v] ∧ sp q [v] H1 Q E0) I ?_) fun us s1 ⟨vs, H1, I1, r, v, ev, hsp⟩ => ⟨I1.kIn, ?_⟩) hst hpl
  · exact cast (congrArg (te σ H) (funext fun v => funext fun H1 => propext ⟨fun x => ⟨v, rfl, x⟩, fun ⟨v', e', x⟩ => by cases e'; exact x⟩)) h
  · subst ev
    have P1 := I1.pin q (List.mem_append_left _ hq)
    have pin : PinOk X.stack H1 s1 q := ⟨P1.1, P1.2.1, fun hm => (List.mem_cons.mp (I1.stkSub q.1 hm)).elim P1.2.2.1 P1.2.2.2.1, P1.2.2.2.2⟩
    have b := hb s1 us I1.kIn (by rw [List.append_nil, ← r.length]; rfl)
    rw [List.append_nil] at b
    refine wpAny_call (codeAny_mono (run X.A X.stack s1 H1 us [v] Q E0 q (hr.mono hk) hot pin I1.env0 b r rfl hsp) fun res s2 hres => ?_)
    cases res with
    | error e => exact (noOut hres).elim
    | ok fl =>
      cases fl with
      | ret u => exact I1.after hres
      | next => exact False.elim hres
      | brk => exact False.elim hres
      | cont => exact False.elim hres
/-- isinstance of the exception that is handled -/
theorem call_isH {a D : Addr} {oe : Obj} (C : ExcC X.K D) (h1 : oe.cls = .ref D) (h2 : oe.dict = none) (hf : ∃ vs, oe.data = .fields vs) (hp : (a, oe) ∈ X.pn) : CallR X (.builtin "isinstance") (rIsE X.K D a) := by
  rintro pins s σ H xs us Q I r ⟨c, cv, b, rfl, hcv, hk, q⟩
  cases r with
  | cons rx r2 =>
    cases r2 with
    | cons rc r3 =>
      cases r3
      cases rx
      cases hcv _ rc
      have get := (I.pin (a, oe) (List.mem_append_left _ hp)).1
      obtain ⟨vs, hv⟩ := hf
      have J : PySem.W.InstAt s.heap a oe D none := by
        obtain ⟨o1, o2, o3, o4⟩ := oe
        dsimp only at h1 h2 hv
        subst h1 h2 hv
        exact ⟨get, rfl, rfl, trivial⟩
      exact PySem.W.kia_one (PySem.W.handS_kitx_exc C.hg C.hk C.hs C.hd C.ha C.hn C.ht C.hm) I.kIn J hk (fun e => nomatch e) fun tk => ⟨.bl b, H, I.kept (t' := tk) fun _ _ e => e, rfl, q⟩
/-- a call in a try's body -/
theorem pe_calS {CX : CXT} {sp : Sp} {E : Sg → XK} {p pos : Pos} {e : Expr} {es : List Expr} {t : TA} {j : Nat} (c : Cal X.prog X.w X.K X.mg X.base CX k z ps sp) (hr : Room j X.A) (hk : k ≤ j) (hg : Gl X z) (hx : ∀ σ, PassesAt CX X σ (E σ)) (ha : PA X (e :: es) t)
    (hdb : (z == ("__debug__" : Str)) = false := by decide) (he : starEach (e :: es) X.env = (false, eval e X.env) :: starEach es X.env := by rfl) (hpl : (backTo pos (starEach es X.env)).any (·.1) = false := by rfl) :
    PE X (.Call (.Name z p) (e :: es) [] pos) (tCallS sp E t) := by
  obtain ⟨f, fd, F, hm, hkp, hb⟩ := c
  exact pe_callS F (hr.mono hk) hg hm hkp hb hx ha hdb he hpl
end
/-! ### the words -/
/-- what the law's word tells of a class of refusal -/
def wordOf (cs : Cs) (c : Addr) (nm : Str) : Prop := (c = cs.BadRule ∧ nm = ("BadRule" : Str)) ∨ (c = cs.BadKey ∧ nm = ("BadKey" : Str)) ∨ (c = cs.BadSize ∧ nm = ("BadSize" : Str)) ∨ (c = cs.Full ∧ nm = ("Full" : Str)) ∨ (c = cs.TooMany ∧ nm = ("TooMany" : Str))
theorem w_rule {cs : Cs} : wordOf cs cs.BadRule "BadRule" := .inl ⟨rfl, rfl⟩
theorem w_key {cs : Cs} : wordOf cs cs.BadKey "BadKey" := .inr (.inl ⟨rfl, rfl⟩)
theorem w_size {cs : Cs} : wordOf cs cs.BadSize "BadSize" := .inr (.inr (.inl ⟨rfl, rfl⟩))
theorem w_full {cs : Cs} : wordOf cs cs.Full "Full" := .inr (.inr (.inr (.inl ⟨rfl, rfl⟩)))
theorem w_many {cs : Cs} : wordOf cs cs.TooMany "TooMany" := .inr (.inr (.inr (.inr ⟨rfl, rfl⟩)))
def sp_word (cs : Cs) (q : Addr × Obj) : Sp := fun vs H Q _ => ∃ c nm, vs = [.ref q.1] ∧ q.2.cls = .ref c ∧ q.2.dict = none ∧ wordOf cs c nm ∧ upR Q (.str nm) H
/-- try: body, except c as n (slot i): return word(n) -/
def tTry (K : PySem.W.Frag) (cs : Cs) (c : Value) (i : Nat) (tb : WX → TS) : TS := fun D σ H =>
  tb (wAs K c i (fun a cls d => fun D σ H => σ[i]? = some (some (.ref a)) ∧ ∃ cc nm, cls = .ref cc ∧ d = none ∧ wordOf cs cc nm ∧ ∀ H1, Ex H H1 → D.rt (.str nm) H1) (fun _ _ _ _ => False) D) D σ H
theorem s_try {K : PySem.W.Frag} {cs : Cs} {c : Value} {i : Nat} {tb : WX → TS} {N B C : PS'} {R : PV} {σ : Sg} {H : Hp} (ex : ∀ cc nm, wordOf cs cc nm → PySem.W.exmOne K (.ref cc) c = some true)
    (k : ∀ W : WX, (∀ cc nm σ' H0, wordOf cs cc nm → i < σ'.length → R (.str nm) H0 → ∀ H1, Ex H0 H1 → W (.ref cc) none σ' H1) → kS (tb W) N R B C σ H) : kS (tTry K cs c i tb) N R B C σ H := fun H1 e D hn hr hb hc =>
  k _ (fun cc nm σ' H0 hw hi hR H2 e2 => ⟨true, ex cc nm hw, fun _ a ha => ⟨List.getElem?_set_self hi, cc, nm, rfl, rfl, hw, fun H3 e3 => hr _ _ _ hR (e2.tr e3)⟩, fun h => Bool.noConfusion h⟩) H1 e D hn hr hb hc
section
variable {X : Cx} {x n z y : Str} {c : Addr} {cs : Cs} {i j kw : Nat} {body : List Stmt} {tb : WX → TS} {np p1 p2 p3 p4 pos pos' : Pos}
theorem no_takes {X : Cx} : L2N.Takes X (fun _ _ _ _ => False) := by
  intro u s' h
  obtain ⟨_, _, _, _, _, _, _, _, _, _, _, _, _, _, _, _, no⟩ := h
  exact no.elim
/-- try: body, except x as n: return z(n) -/
theorem ps_tryT (hs : X.stack = X.env :: X.outer) (hf : X.env.frame = some X.env.locals) (hN : X.N.Nodup) (hi : X.N[i]? = some n) (hln : X.env.scope.names.lookup n = some .local) (hg : Gl X x) (hm : X.mg x = some (.ref c))
    (w : CalX X.prog X.w X.K X.mg X.base kw z [y] (sp_word cs)) (hr : Room j X.A) (hk : kw ≤ j) (hgz : Gl X z)
    (hb : ∀ (W : WX) (pn : List (Addr × Obj)) (xe : Value → Shared → Prop), L2N.Takes (X.tr pn xe) W → PSs (X.tr pn xe) body (tb W))
    (hv : ∀ (pn : List (Addr × Obj)) (a : Addr), PE (X.suite a pn) (.Name n p2) (tVar i))
    (hdb : (x == ("__debug__" : Str)) = false := by decide) (hdz : (z == ("__debug__" : Str)) = false := by decide)
    (hst : ∀ (pn : List (Addr × Obj)) (a : Addr), starEach (.Name n p2 :: []) (X.suite a pn).env = (false, eval (.Name n p2) (X.suite a pn).env) :: starEach [] (X.suite a pn).env := by intros; rfl)
    (hpl : ∀ (pn : List (Addr × Obj)) (a : Addr), (backTo p3 (starEach [] (X.suite a pn).env)).any (·.1) = false := by intros; rfl) :
    PS X (.Try body [.ExceptHandler (some (.Name x np)) (some n) [.Return (some (.Call (.Name z p1) [.Name n p2] [] p3)) p4] pos'] [] [] pos) (tTry X.K cs (.ref c) i tb) := by
  refine L2N.ps_try_as (Wout := fun _ _ _ _ => False) (ts := fun a cls d => fun D σ H => σ[i]? = some (some (.ref a)) ∧ ∃ cc nm, cls = .ref cc ∧ d = none ∧ wordOf cs cc nm ∧ ∀ H1, Ex H H1 → D.rt (.str nm) H1) hs hf hN hi hln ⟨hg, hdb, .inl hm⟩ no_takes (fun W pn xe tk _ => hb W pn xe tk) fun a oe cls d pn hz hfl => ?_
  have P : PSs (X.suite a ((a, oe) :: pn)) [.Return (some (.Call (.Name z p1) [.Name n p2] [] p3)) p4] (tRet (tWordCall (sp_word cs) (a, oe) (tVar i))) :=
    pss_one (ps_ret (pe_calX (X := X.suite a ((a, oe) :: pn)) (q := (a, oe)) (sp := sp_word cs) w ⟨hr.dp, hr.un⟩ hk ⟨rfl, by
      obtain ⟨vs, e⟩ := hfl
      exact ⟨vs, e, hz.2.2 vs e⟩⟩ List.mem_cons_self hgz (hv _ _) hdz (hst _ _) (hpl _ _)))
  refine ⟨fun pins s σ H D I h => P.run pins s σ H D I ?_⟩
  obtain ⟨h1, cc, nm, h2, h3, h4, h5⟩ := h
  exact ⟨.ref a, h1, cc, nm, rfl, hz.1.trans h2, hz.2.1.trans h3, h4, h5⟩
end
/-- isinstance by the class pairs -/
theorem c_isH {K : PySem.W.Frag} {D a : Addr} {x : V} {cv : Value} {b : Bool} {H : Hp} {Q : PV} (h : PySem.W.kitOne K (.ref D) cv = some b) (hv : ∀ u, RelV x u → u = cv) (k : Q (.bl b) H) : kC (rIsE K D a) [.ref a, x] H Q := fun H1 e _ q => ⟨x, cv, b, rfl, hv, h, q _ _ _ k e⟩
structure KitC (K : PySem.W.Frag) (cs : Cs) (c : Addr) (b1 b2 b3 b4 b5 : Bool) : Prop where
  e : ExcC K c
  k1 : PySem.W.kitOne K (.ref c) (.ref cs.BadRule) = some b1
  k2 : PySem.W.kitOne K (.ref c) (.ref cs.BadKey) = some b2
  k3 : PySem.W.kitOne K (.ref c) (.ref cs.BadSize) = some b3
  k4 : PySem.W.kitOne K (.ref c) (.ref cs.Full) = some b4
  k5 : PySem.W.kitOne K (.ref c) (.ref cs.TooMany) = some b5
  kv : PySem.W.kitOne K (.ref c) (.type "ValueError") = some true
structure KitW (K : PySem.W.Frag) (cs : Cs) : Prop where
  r : KitC K cs cs.BadRule true false false false false
  k : KitC K cs cs.BadKey false true false false false
  s : KitC K cs cs.BadSize false false true false false
  f : KitC K cs cs.Full false false false true false
  m : KitC K cs cs.TooMany false false false false true
theorem KitW.exc {K : PySem.W.Frag} {cs : Cs} {c : Addr} {nm : Str} (k : KitW K cs) (h : wordOf cs c nm) : ExcC K c := by
  rcases h with ⟨rfl, _⟩ | ⟨rfl, _⟩ | ⟨rfl, _⟩ | ⟨rfl, _⟩ | ⟨rfl, _⟩
  · exact k.r.e
  · exact k.k.e
  · exact k.s.e
  · exact k.f.e
  · exact k.m.e
def ExmW (K : PySem.W.Frag) (cs : Cs) : Prop := ∀ cc nm, wordOf cs cc nm → PySem.W.exmOne K (.ref cc) (.ref cs.StrewError) = some true
theorem exmW_mk {K : PySem.W.Frag} {cs : Cs} (h1 : PySem.W.exmOne K (.ref cs.BadRule) (.ref cs.StrewError) = some true) (h2 : PySem.W.exmOne K (.ref cs.BadKey) (.ref cs.StrewError) = some true) (h3 : PySem.W.exmOne K (.ref cs.BadSize) (.ref cs.StrewError) = some true)
    (h4 : PySem.W.exmOne K (.ref cs.Full) (.ref cs.StrewError) = some true) (h5 : PySem.W.exmOne K (.ref cs.TooMany) (.ref cs.StrewError) = some true) : ExmW K cs := by
  rintro c nm (⟨rfl, _⟩ | ⟨rfl, _⟩ | ⟨rfl, _⟩ | ⟨rfl, _⟩ | ⟨rfl, _⟩) <;> assumption
theorem e_hot {K : PySem.W.Frag} {σ : Sg} {H : Hp} {te : TE} {Q : PV} (k : kE te σ H fun v H1 => ∃ (a : Addr) (bs : List Bool), v = .ref a ∧ SqL K H1 a (bs.map V.bl) ∧ bs.length ≤ 1000 ∧ ∀ p, H1 p = none → Q (.ref p) (upd H1 p (.lst (bs.map fun b => V.int (b2n b))))) : kE (tHotInts K te) σ H Q := fun H1 e _ q =>
  k H1 e _ fun v H0 H2 ⟨a, bs, ev, hs, hl, hk⟩ e2 => ⟨a, bs, ev, e2.sl hs, hl, fun p hp => q _ _ _ (hk p (e2.fresh hp)) (e2.ups p _)⟩
theorem c_isHr {K : PySem.W.Frag} {D a c : Addr} {b : Bool} {H : Hp} {Q : PV} (h : PySem.W.kitOne K (.ref D) (.ref c) = some b) (k : Q (.bl b) H) : kC (rIsE K D a) [.ref a, .ref c] H Q := c_isH h (fun _ h => h) k
theorem c_isHt {K : PySem.W.Frag} {D a : Addr} {c : String} {b : Bool} {H : Hp} {Q : PV} (h : PySem.W.kitOne K (.ref D) (.type c) = some b) (k : Q (.bl b) H) : kC (rIsE K D a) [.ref a, .ty c] H Q := c_isH h (fun _ h => h) k
theorem kit_refC {K : PySem.W.Frag} {c C : Addr} {b : Bool} (hdct : PySem.W.hasDictIn K C = true) (ht : PySem.W.typeIn K (.ref C) = some (.type "type")) (hs : PySem.W.subIn K (.ref c) (.ref c) = some true) (h4 : PySem.W.subIn K (.ref c) (.ref C) = some b) : PySem.W.kitOne K (.ref c) (.ref C) = some b := by
  obtain ⟨cd, hc, _⟩ := PySem.W.any_some hdct
  have e2 : ((PySem.W.clsIn K C).isSome && PySem.W.typeIn K (.ref C) == some (.type "type")) = true := by rw [hc, ht] <;> rfl
  unfold PySem.W.kitOne
  by_cases q : (Value.ref c == Value.ref C) = true
  · have e : Value.ref c = Value.ref C := eq_of_beq q
    rw [if_pos q]
    rw [← e] at h4
    exact hs.symm.trans h4
  · rw [if_neg q]
    show (if ((PySem.W.clsIn K C).isSome && PySem.W.typeIn K (.ref C) == some (.type "type")) = true then PySem.W.subIn K (.ref c) (.ref C) else none) = some b
    rw [if_pos e2]
    exact h4
theorem kit_tyC {K : PySem.W.Frag} {c : Addr} {T : String} {b : Bool} (hm : PySem.W.kitMeta T = true) (h4 : PySem.W.subIn K (.ref c) (.type T) = some b) : PySem.W.kitOne K (.ref c) (.type T) = some b := by
  unfold PySem.W.kitOne
  rw [if_neg (by intro h; cases eq_of_beq h)]
  show (if PySem.W.kitMeta T = true then PySem.W.subIn K (.ref c) (.type T) else none) = some b
  rw [if_pos hm]
  exact h4
theorem kitC_mk {K : PySem.W.Frag} {cs : Cs} {c : Addr} {b1 b2 b3 b4 b5 : Bool} (e : ExcC K c) (d1 : PySem.W.hasDictIn K cs.BadRule = true) (d2 : PySem.W.hasDictIn K cs.BadKey = true) (d3 : PySem.W.hasDictIn K cs.BadSize = true) (d4 : PySem.W.hasDictIn K cs.Full = true) (d5 : PySem.W.hasDictIn K cs.TooMany = true)
    (t1 : PySem.W.typeIn K (.ref cs.BadRule) = some (.type "type")) (t2 : PySem.W.typeIn K (.ref cs.BadKey) = some (.type "type")) (t3 : PySem.W.typeIn K (.ref cs.BadSize) = some (.type "type")) (t4 : PySem.W.typeIn K (.ref cs.Full) = some (.type "type")) (t5 : PySem.W.typeIn K (.ref cs.TooMany) = some (.type "type"))
    (hs : PySem.W.subIn K (.ref c) (.ref c) = some true) (s1 : PySem.W.subIn K (.ref c) (.ref cs.BadRule) = some b1) (s2 : PySem.W.subIn K (.ref c) (.ref cs.BadKey) = some b2) (s3 : PySem.W.subIn K (.ref c) (.ref cs.BadSize) = some b3) (s4 : PySem.W.subIn K (.ref c) (.ref cs.Full) = some b4) (s5 : PySem.W.subIn K (.ref c) (.ref cs.TooMany) = some b5)
    (sv : PySem.W.subIn K (.ref c) (.type "ValueError") = some true) : KitC K cs c b1 b2 b3 b4 b5 :=
  ⟨e, kit_refC d1 t1 hs s1, kit_refC d2 t2 hs s2, kit_refC d3 t3 hs s3, kit_refC d4 t4 hs s4, kit_refC d5 t5 hs s5, kit_tyC (by decide +kernel) sv⟩
end Lg

/-! Wk: walks (for, comprehension) and the rules of lists in the logic of Lg. -/
namespace Lg
open PySem PySem.Spec PyProof.Rows L2
abbrev Yk := Nat → Hp → (V → Hp → Prop) → Prop
/-- a walk of n turns while G stands; y tells what a turn gives, known heap by known heap -/
structure WalkK (J : It) (n : Nat) (G : Hp → Prop) (y : Yk) : Prop where
  up : ∀ H H', Ex H H' → G H → G H'
  goes : ∀ i H, i < n → G H → J.go i H
  stops : ∀ H, G H → J.stop n H
  mo : ∀ i H (A B : V → Hp → Prop), (∀ v h, A v h → B v h) → y i H A → y i H B
  yields : ∀ i H H' x H'', i < n → G H' → Ex H H' → J.yld i H' x H'' → ∀ Q, y i H Q → ∃ H0, Q x H0 ∧ Ex H0 H''
def yAt (xs : List V) : Yk := fun i H Q => ∀ x, xs[i]? = some x → Q x H
def yFn (f : Nat → V) : Yk := fun i H Q => Q (f i) H
def yPair (f g : Nat → Option V) : Yk := fun i H Q => ∀ T x z, H T = none → f i = some x → g i = some z → Q (.ref T) (upd H T (.tup [x, z]))
theorem WalkK.ofAt {J : It} {n : Nat} {G : Hp → Prop} {xs : List V} (w : Walk J n G (YAt xs)) (up : ∀ H H', Ex H H' → G H → G H') : WalkK J n G (yAt xs) :=
  ⟨up, w.goes, w.stops, fun i H A B ab h x hx => ab _ _ (h x hx), fun i H H' x H'' hi g e y Q q => by
    obtain ⟨e1, e2⟩ := w.yields i H' x H'' hi g y
    subst e1
    exact ⟨H, q x e2, e⟩⟩
theorem WalkK.ofFn {J : It} {n : Nat} {G : Hp → Prop} {f : Nat → V} (w : Walk J n G (YFn f)) (up : ∀ H H', Ex H H' → G H → G H') : WalkK J n G (yFn f) :=
  ⟨up, w.goes, w.stops, fun i H A B ab h => ab _ _ h, fun i H H' x H'' hi g e y Q q => by
    obtain ⟨e1, e2⟩ := w.yields i H' x H'' hi g y
    subst e1 e2
    exact ⟨H, q, e⟩⟩
theorem WalkK.ofPair {J : It} {n : Nat} {G : Hp → Prop} {f g : Nat → Option V} (w : Walk J n G (YPair f g)) (up : ∀ H H', Ex H H' → G H → G H') : WalkK J n G (yPair f g) :=
  ⟨up, w.goes, w.stops, fun i H A B ab h T x z h1 h2 h3 => ab _ _ (h T x z h1 h2 h3), fun i H H' x H'' hi gg e y Q q => by
    obtain ⟨T, a, b, e1, e2, e3, e4, e5⟩ := w.yields i H' x H'' hi gg y
    subst e1 e3
    exact ⟨_, q T a b (e.fresh e2) e4 e5, e.ups T _⟩⟩
abbrev PI' := Nat → (Hp → Prop) → Yk → Hp → Prop
def kI (wi : TI) (σ : Sg) (H : Hp) (Q : PI') : Prop := ∀ H1, Ex H H1 → ∀ R : It → Hp → Prop, (∀ J n G y H0 H2, WalkK J n G y → Q n G y H0 → Ex H0 H2 → R J H2) → wi σ H1 R
variable {K : PySem.W.Frag} {σ σ' : Sg} {H H' : Hp} {ta tb tc te : TE} {tt tu : TT} {t u : TA} {Q : PV} {QB : Bool → Hp → Prop} {QA : List V → Hp → Prop} {N B C : PS'} {R : PV} {ts us : TS} {x y v : V} {i j : Int} {g : TG} {wi : TI}
theorem i_rng1 {QI : PI'} (k : kA t σ H fun vs H1 => ∃ n : Nat, vs = [.int (n : Int)] ∧ n < 2 ^ 61 ∧ QI n (fun _ => True) (yFn fun i => .int (i : Nat)) H1) : kI (iRng1 t) σ H QI := fun H1 e R r => k H1 e _ fun vs H0 H2 ⟨n, ev, hl, q⟩ e2 => by
  subst ev
  refine ⟨(n : Int), rfl, by omega, by omega, ?_⟩
  have e0 : (n : Int).toNat = n := by omega
  rw [e0]
  refine r _ n _ _ H0 H2 (.ofFn (walk_range.mono (fun _ h => h) ?_) (fun _ _ _ h => h)) q e2
  rintro i H x H' _ _ ⟨a, b⟩
  refine ⟨a, ?_⟩
  rw [b]
  show V.int (0 + (i : Int)) = .int (i : Nat)
  rw [Int.zero_add]
theorem i_rng2 {QI : PI'} (k : kA t σ H fun vs H1 => ∃ (a b : Int) (n : Nat), vs = [.int a, .int b] ∧ (-(2 ^ 62) ≤ a ∧ a < 2 ^ 62 ∧ -(2 ^ 62) ≤ b ∧ b < 2 ^ 62) ∧ (b - a).toNat = n ∧ QI n (fun _ => True) (yFn fun i => .int (a + (i : Nat))) H1) : kI (iRng2 t) σ H QI := fun H1 e R r => k H1 e _ fun vs H0 H2 ⟨a, b, n, ev, hl, en, q⟩ e2 => by
  subst ev en
  exact ⟨a, b, rfl, hl, r _ _ _ _ H0 H2 (.ofFn walk_range (fun _ _ _ h => h)) q e2⟩
theorem i_list {QI : PI'} (k : kE te σ H fun v H1 => ∃ a xs, v = .ref a ∧ SqL K H1 a xs ∧ QI xs.length (fun H => SqL K H a xs) (yAt xs) H1) : kI (iList K te) σ H QI := fun H1 e R r => k H1 e _ fun v H0 H2 ⟨a, xs, ev, hs, q⟩ e2 =>
  ⟨a, ev, ⟨xs, e2.sl hs⟩, r _ _ _ _ H0 H2 (.ofAt walk_list (fun _ _ e h => e.sl h)) q e2⟩
theorem i_tup {QI : PI'} (k : kE te σ H fun v H1 => ∃ a xs, v = .ref a ∧ SqT K H1 a xs ∧ QI xs.length (fun H => SqT K H a xs) (yAt xs) H1) : kI (iTup K te) σ H QI := fun H1 e R r => k H1 e _ fun v H0 H2 ⟨a, xs, ev, hs, q⟩ e2 =>
  ⟨a, ev, ⟨xs, e2.st hs⟩, r _ _ _ _ H0 H2 (.ofAt walk_tup (fun _ _ e h => e.st h)) q e2⟩
theorem i_enum {QI : PI'} (k : kA t σ H fun vs H1 => ∃ a xs, vs = [.ref a] ∧ SqL K H1 a xs ∧ QI xs.length (fun H => SqL K H a xs) (yPair (fun i => some (.int (i : Nat))) (fun i => xs[i]?)) H1) : kI (iEnum K t) σ H QI := fun H1 e R r => k H1 e _ fun v H0 H2 ⟨a, xs, ev, hs, q⟩ e2 =>
  ⟨a, xs, ev, e2.sl hs, r _ _ _ _ H0 H2 (.ofPair walk_enum (fun _ _ e h => e.sl h)) q e2⟩
theorem i_zip {QI : PI'} (k : kA t σ H fun vs H1 => ∃ a b xs ys, vs = [.ref a, .ref b] ∧ SqL K H1 a xs ∧ SqL K H1 b ys ∧ QI (min xs.length ys.length) (fun H => SqL K H a xs ∧ SqL K H b ys) (yPair (fun i => xs[i]?) (fun i => ys[i]?)) H1) : kI (iZip K t) σ H QI := fun H1 e R r => k H1 e _ fun v H0 H2 ⟨a, b, xs, ys, ev, hs, hz, q⟩ e2 =>
  ⟨a, b, xs, ys, ev, e2.sl hs, e2.sl hz, r _ _ _ _ H0 H2 (.ofPair (walk_zip rfl) (fun _ _ e h => ⟨e.sl h.1, e.sl h.2⟩)) q e2⟩
/-- for g in iter -/
theorem s_for (k : kI wi σ H fun n G y H1 => ∃ W : Nat → PS', W 0 σ H1 ∧ (∀ i s H, i ≤ n → W i s H → G H) ∧ (∀ i s H, i < n → W i s H → y i H fun x H2 => kG g x s H2 fun s' H3 => kS ts (nxt W (i + 1)) R N (nxt W (i + 1)) s' H3) ∧ ∀ s H, W n s H → N s H) :
    kS (tFor wi g ts) N R B C σ H := fun H1 e D hn hr hb hc => k H1 e _ fun J n G y H0 H2 w ⟨W, w0, hG, hs, hd⟩ e2 => by
  refine ⟨fun i m s H => m = n - i ∧ i ≤ n ∧ nxt W i s H, ⟨n, by simp, Nat.zero_le _, H0, w0, e2⟩, ?_⟩
  rintro i m s H3 ⟨rfl, hi, H4, w4, e4⟩
  have q := w.up _ _ e4 (hG i s H4 hi w4)
  by_cases hlt : i < n
  · refine .inr ⟨w.goes i H3 hlt q, nxt W (i + 1), fun s' H' p' => ⟨n - (i + 1), by omega, rfl, hlt, p'⟩, fun x H' yl => ?_⟩
    obtain ⟨H5, hg, e5⟩ := w.yields i H4 H3 x H' hlt q e4 yl _ (hs i s H4 hlt w4)
    exact hg H' e5 _ fun s' H6 H7 q6 e7 => q6 H7 e7 _ nxt_up hr hn nxt_up
  · have ei : i = n := by omega
    subst ei
    exact .inl ⟨w.stops H3 q, hn _ _ _ (hd s H4 w4) e4⟩
/-- [te for g in iter if tt]: W tells the heap with the new list at D -/
theorem e_lc {vs : List Nat} (k : kI wi σ H fun n G y H1 => ∀ D, H1 D = none → ∃ W : Nat → Hp → Prop, W 0 (upd H1 D (.lst [])) ∧ (∀ i H, i ≤ n → W i H → G H) ∧
      (∀ i H, i < n → W i H → y i H fun x H2 => kG g x (wipe σ vs) H2 fun s' H3 => wipe s' vs = wipe σ vs ∧ kT tt s' H3 fun b H4 => (b = true → kE te s' H4 fun z H5 => ∃ acc H6, H5 D = some (.lst acc) ∧ acc.length < sizeLine ∧ W (i + 1) H6 ∧ Ex H6 (upd H5 D (.lst (acc ++ [z])))) ∧
        (b = false → ∃ H6, W (i + 1) H6 ∧ Ex H6 H4)) ∧ ∀ H, W n H → Q (.ref D) H) : kE (tLc wi g tt te vs) σ H Q := fun H1 e Q1 q1 => k H1 e _ fun J n G y H0 H2 w kk e2 => by
  intro D hD
  obtain ⟨W, w0, hG, hs, hd⟩ := kk D (e2.fresh hD)
  refine ⟨fun i m H => m = n - i ∧ i ≤ n ∧ ∃ H0, W i H0 ∧ Ex H0 H, ⟨n, by simp, Nat.zero_le _, _, w0, e2.ups D _⟩, ?_⟩
  rintro i m H3 ⟨rfl, hi, H4, w4, e4⟩
  have q := w.up _ _ e4 (hG i H4 hi w4)
  by_cases hlt : i < n
  · refine .inr ⟨w.goes i H3 hlt q, fun H' => ∃ H0, W (i + 1) H0 ∧ Ex H0 H', fun H' p' => ⟨n - (i + 1), by omega, rfl, hlt, p'⟩, fun x H' yl => ?_⟩
    obtain ⟨H5, hg, e5⟩ := w.yields i H4 H3 x H' hlt q e4 yl _ (hs i H4 hlt w4)
    refine hg H' e5 _ fun s' H6 H7 ⟨ew, q6⟩ e7 => ⟨ew, q6 H7 e7 _ fun b H8 H9 q8 e9 => ?_⟩
    cases b with
    | true =>
      show te s' H9 _
      refine q8.1 rfl H9 e9 _ fun z H10 H11 ⟨acc, H12, h1, h2, h3, h4⟩ e11 => ⟨acc, e11 _ _ h1, h2, H12, h3, h4.tr (e11.ups D _)⟩
    | false =>
      show ∃ H0, W (i + 1) H0 ∧ Ex H0 H9
      obtain ⟨H10, h1, h2⟩ := q8.2 rfl
      exact ⟨H10, h1, h2.tr e9⟩
  · have ei : i = n := by omega
    subst ei
    exact .inl ⟨w.stops H3 q, q1 _ _ _ (hd H4 w4) e4⟩
/-- the same, what a turn gives known by its number alone -/
theorem e_lcF {vs : List Nat} (k : kI wi σ H fun n G y H1 => G H1 ∧ n ≤ 100000 ∧ ∃ f : Nat → Option V,
      (∀ D acc i, H1 D = none → i < n → y i (upd H1 D (.lst acc)) fun x H2 => kG g x (wipe σ vs) H2 fun s' H3 => wipe s' vs = wipe σ vs ∧ kT tt s' H3 fun b H4 => (b = true → kE te s' H4 fun z H5 => f i = some z ∧ Ex (upd H1 D (.lst acc)) H5) ∧
        (b = false → f i = none ∧ Ex (upd H1 D (.lst acc)) H4)) ∧ ∀ D, H1 D = none → Q (.ref D) (upd H1 D (.lst ((List.range n).filterMap f)))) : kE (tLc wi g tt te vs) σ H Q := e_lc fun H2 e R r => k H2 e R fun J n G y H0 H3 w ⟨hG, hn, f, hs, hd⟩ e3 => r J n G y H0 H3 w (fun D hD => by
    refine ⟨fun i H => H = upd H0 D (.lst ((List.range i).filterMap f)), rfl, fun i H _ e => ?_, fun i H hi e => ?_, fun H e => ?_⟩
    · subst e
      exact w.up _ _ (Ex.news hD) hG
    · subst e
      have hl : ((List.range i).filterMap f).length < sizeLine := Nat.lt_of_le_of_lt (List.length_filterMap_le _ _) (by rw [List.length_range]; exact Nat.lt_of_lt_of_le (Nat.lt_of_lt_of_le hi hn) (by decide))
      have z := hs D ((List.range i).filterMap f) i hD hi
      · refine w.mo _ _ _ _ (fun v h a => ?_) z
        refine fun H4 e4 Q4 q4 => a H4 e4 Q4 fun s' H5 H6 ⟨e5, t5⟩ e6 => q4 s' H5 H6 ⟨e5, fun H7 e7 Q7 q7 => t5 H7 e7 Q7 fun b H8 H9 ⟨b1, b2⟩ e9 => q7 b H8 H9 ⟨fun hb H10 e10 Q10 q10 => b1 hb H10 e10 Q10 fun v' H11 H12 ⟨f1, f2⟩ e12 => q10 v' H11 H12 ⟨_, _, f2 _ _ upd_same, hl, rfl, ?_⟩ e12, fun hb => ⟨_, rfl, ?_⟩⟩ e9⟩ e6
        · rw [List.range_succ, List.filterMap_append]
          simp only [List.filterMap_cons, List.filterMap_nil, f1]
          intro a o ha
          by_cases hq : a = D
          · subst hq
            rw [upd_same] at ha ⊢
            exact ha
          · rw [upd_ne hq] at ha ⊢
            exact f2 a o (by rw [upd_ne hq]; exact ha)
        · obtain ⟨f1, f2⟩ := b2 hb
          rw [List.range_succ, List.filterMap_append]
          simp only [List.filterMap_cons, List.filterMap_nil, f1, List.append_nil]
          exact f2
    · subst e
      exact hd D hD) e3
theorem filterMap_take {zs : List V} : ∀ n, n ≤ zs.length → (List.range n).filterMap (fun i => zs[i]?) = zs.take n
  | 0, _ => by simp
  | n + 1, h => by
    have hn : n < zs.length := h
    rw [List.range_succ, List.filterMap_append, filterMap_take n (Nat.le_of_lt h), List.take_succ, List.getElem?_eq_getElem hn]
    simp [hn]
theorem filterMap_get {zs : List V} {n : Nat} (h : zs.length = n) : (List.range n).filterMap (fun i => zs[i]?) = zs := by
  subst h
  rw [filterMap_take _ (Nat.le_refl _), List.take_length]
/-- the same, to a list that is told -/
theorem e_lcZ {vs : List Nat} (k : kI wi σ H fun n G y H1 => G H1 ∧ n ≤ 100000 ∧ ∃ zs : List V, zs.length = n ∧
      (∀ D acc i, H1 D = none → i < n → y i (upd H1 D (.lst acc)) fun x H2 => kG g x (wipe σ vs) H2 fun s' H3 => wipe s' vs = wipe σ vs ∧ kT tt s' H3 fun b H4 => b = true ∧ kE te s' H4 fun z H5 => zs[i]? = some z ∧ Ex (upd H1 D (.lst acc)) H5) ∧
      ∀ D, H1 D = none → Q (.ref D) (upd H1 D (.lst zs))) : kE (tLc wi g tt te vs) σ H Q := e_lcF fun H2 e R r => k H2 e R fun J n G y H0 H3 w ⟨hG, hn, zs, hz, hs, hd⟩ e3 => r J n G y H0 H3 w ⟨hG, hn, fun i => zs[i]?, fun D acc i hD hi => by
    refine w.mo _ _ _ _ (fun v h a => ?_) (hs D acc i hD hi)
    exact fun H4 e4 Q4 q4 => a H4 e4 Q4 fun s' H5 H6 ⟨e5, t5⟩ e6 => q4 s' H5 H6 ⟨e5, fun H7 e7 Q7 q7 => t5 H7 e7 Q7 fun b H8 H9 ⟨b1, b2⟩ e9 => q7 b H8 H9 ⟨fun _ => b2, fun hb => by rw [b1] at hb; cases hb⟩ e9⟩ e6, fun D hD => by
    rw [filterMap_get hz]
    exact hd D hD⟩ e3
theorem t_yes {QB : Bool → Hp → Prop} (k : QB true H) : kT tYes σ H QB := fun H1 e _ q => q _ _ _ k e
/-! ### lists -/
def rInt1 : List V → Hp → VK → Prop := fun xs H Q => (∃ i, xs = [.int i] ∧ Q (.int i) H) ∨ ∃ k, xs = [.bl k] ∧ Q (.int (if k then 1 else 0)) H
def rListOf (K : PySem.W.Frag) : List V → Hp → VK → Prop := fun xs H Q => ∃ p ys, xs = [.ref p] ∧ (SqL K H p ys ∨ SqT K H p ys) ∧ ∀ l, H l = none → Q (.ref l) (upd H l (.lst ys))
def rTupOf (K : PySem.W.Frag) : List V → Hp → VK → Prop := fun xs H Q => ∃ p ys, xs = [.ref p] ∧ ((SqL K H p ys ∧ ∀ l, H l = none → Q (.ref l) (upd H l (.tup ys))) ∨ (SqT K H p ys ∧ Q (.ref p) H))
theorem c_int1 (k : Q (.int i) H) : kC rInt1 [.int i] H Q := fun H1 e _ q => .inl ⟨i, rfl, q _ _ _ k e⟩
theorem c_intB {b : Bool} (k : Q (.int (if b then 1 else 0)) H) : kC rInt1 [.bl b] H Q := fun H1 e _ q => .inr ⟨b, rfl, q _ _ _ k e⟩
theorem c_listL {p : Addr} {ys : List V} (h : SqL K H p ys) (k : ∀ l, H l = none → Q (.ref l) (upd H l (.lst ys))) : kC (rListOf K) [.ref p] H Q := fun H1 e _ q => ⟨p, ys, rfl, .inl (e.sl h), fun l hl => q _ _ _ (k l (e.fresh hl)) (e.ups l _)⟩
theorem c_listT {p : Addr} {ys : List V} (h : SqT K H p ys) (k : ∀ l, H l = none → Q (.ref l) (upd H l (.lst ys))) : kC (rListOf K) [.ref p] H Q := fun H1 e _ q => ⟨p, ys, rfl, .inr (e.st h), fun l hl => q _ _ _ (k l (e.fresh hl)) (e.ups l _)⟩
theorem c_tupL {p : Addr} {ys : List V} (h : SqL K H p ys) (k : ∀ l, H l = none → Q (.ref l) (upd H l (.tup ys))) : kC (rTupOf K) [.ref p] H Q := fun H1 e _ q => ⟨p, ys, rfl, .inl ⟨e.sl h, fun l hl => q _ _ _ (k l (e.fresh hl)) (e.ups l _)⟩⟩
theorem c_all {p : Addr} {bs : List Bool} (h : SqL K H p (bs.map V.bl)) (k : Q (.bl (bs.all id)) H) : kC (rAll K) [.ref p] H Q := fun H1 e _ q => ⟨p, bs, rfl, e.sl h, q _ _ _ k e⟩
theorem c_sum {p : Addr} {ns : List Int} (h : SqL K H p (ns.map V.int)) (k : Q (.int ns.sum) H) : kC (rSum K) [.ref p] H Q := fun H1 e _ q => ⟨p, ns, rfl, e.sl h, q _ _ _ k e⟩
theorem c_maxL {p : Addr} {ns : List Int} (h : SqL K H p (ns.map V.int)) (h0 : 0 < ns.length) (k : ∀ m, m ∈ ns → (∀ y, y ∈ ns → y ≤ m) → Q (.int m) H) : kC (rMax K) [.ref p] H Q := fun H1 e _ q => ⟨p, ns, rfl, e.sl h, h0, fun m hm hy => q _ _ _ (k m hm hy) e⟩
theorem c_sorted {p : Addr} {ns : List Int} (h : SqL K H p (ns.map V.int)) (k : ∀ (ns' : List Int) (l : Addr), ns'.Perm ns → ns'.Pairwise (· ≤ ·) → H l = none → Q (.ref l) (upd H l (.lst (ns'.map V.int)))) : kC (rSortedI K) [.ref p] H Q := fun H1 e _ q =>
  ⟨p, ns, rfl, e.sl h, fun ns' l h1 h2 hl => q _ _ _ (k ns' l h1 h2 (e.fresh hl)) (e.ups l _)⟩
theorem r_inT {p : Addr} {xs : List V} (h : SqT K H p xs) (f1 : flatV x = true) (f2 : xs.all flatV = true) (k : Q (.bl (inV x xs)) H) : kR (rIn K false) x (.ref p) H Q := fun H1 e _ q => ⟨p, xs, rfl, .inr (e.st h), f1, f2, q _ _ _ k e⟩
theorem r_ninT {p : Addr} {xs : List V} (h : SqT K H p xs) (f1 : flatV x = true) (f2 : xs.all flatV = true) (k : Q (.bl (!inV x xs)) H) : kR (rIn K true) x (.ref p) H Q := fun H1 e _ q => ⟨p, xs, rfl, .inr (e.st h), f1, f2, q _ _ _ k e⟩
theorem r_inL {p : Addr} {xs : List V} (h : SqL K H p xs) (f1 : flatV x = true) (f2 : xs.all flatV = true) (k : Q (.bl (inV x xs)) H) : kR (rIn K false) x (.ref p) H Q := fun H1 e _ q => ⟨p, xs, rfl, .inl (e.sl h), f1, f2, q _ _ _ k e⟩
theorem r_cat {a b : Addr} {xs zs : List V} (h1 : H a = some (.lst xs)) (h2 : H b = some (.lst zs)) (hz : xs.length + zs.length ≤ sizeLine) (k : ∀ p, H p = none → Q (.ref p) (upd H p (.lst (xs ++ zs)))) : kR rCat (.ref a) (.ref b) H Q := fun H1 e _ q =>
  ⟨a, b, xs, zs, rfl, rfl, e _ _ h1, e _ _ h2, hz, fun p hp => q _ _ _ (k p (e.fresh hp)) (e.ups p _)⟩
theorem r_rep {a : Addr} {xs : List V} {n : Int} (h1 : H a = some (.lst xs)) (hn : -(2 ^ 63) ≤ n ∧ n < 2 ^ 63) (hz : xs.length * n.toNat ≤ sizeLine) (k : ∀ p, H p = none → Q (.ref p) (upd H p (.lst (List.replicate n.toNat xs).flatten))) : kR rRep (.ref a) (.int n) H Q := fun H1 e _ q =>
  ⟨a, n, xs, rfl, rfl, e _ _ h1, hn.1, hn.2, hz, fun p hp => q _ _ _ (k p (e.fresh hp)) (e.ups p _)⟩
theorem r_rep1 {a : Addr} {x : V} {n : Nat} (h1 : H a = some (.lst [x])) (hn : n ≤ 100000) (k : ∀ p, H p = none → Q (.ref p) (upd H p (.lst (List.replicate n x)))) : kR rRep (.ref a) (.int (n : Int)) H Q := by
  refine r_rep h1 ⟨by omega, by omega⟩ ?_ fun p hp => ?_
  · have e : ((n : Nat) : Int).toNat = n := by omega
    rw [e, List.length_singleton]
    exact Nat.le_trans (by omega) (Nat.le_trans hn (by decide))
  · have e : ((n : Nat) : Int).toNat = n := by omega
    rw [e, List.flatten_replicate_singleton]
    exact k p hp
theorem r_repT {a : Addr} {xs : List V} {n : Int} (h1 : SqT K H a xs) (h0 : xs ≠ []) (hn : 2 ≤ n ∧ n ≤ 1000) (hz : xs.length ≤ 1000) (k : ∀ p, H p = none → Q (.ref p) (upd H p (.tup (List.replicate n.toNat xs).flatten))) : kR (rRepT K) (.ref a) (.int n) H Q := fun H1 e _ q =>
  ⟨a, n, xs, rfl, rfl, e.st h1, h0, hn.1, hn.2, hz, fun p hp => q _ _ _ (k p (e.fresh hp)) (e.ups p _)⟩
theorem e_bm {r : V → List V → Hp → VK → Prop} (k : kE ta σ H fun x H1 => ∃ p xs, x = .ref p ∧ SqL K H1 p xs ∧ kA t σ H1 fun vs H2 => kM r x vs H2 Q) : kE (tBM K "list" r ta t) σ H Q := fun H1 e Q1 q => k H1 e _ fun x H0 H2 ⟨p, xs, ex, hs, hk⟩ e2 => by
  subst ex
  exact ⟨.inl ⟨rfl, xs, e2.sl hs⟩, hk H2 e2 _ fun vs H3 H4 hm e4 => hm H4 e4 _ q⟩
theorem m_append {l : Addr} {xs : List V} (h : H l = some (.lst xs)) (hz : xs.length ≤ 100000) (k : Q .non (upd H l (.lst (xs ++ [y])))) : kM rAppend (.ref l) [y] H Q := fun H1 e _ q => ⟨l, xs, y, rfl, rfl, e _ _ h, Nat.lt_of_le_of_lt hz (by decide), q _ _ _ k (e.ups l _)⟩
theorem m_extend {l b : Addr} {xs zs : List V} (h : H l = some (.lst xs)) (hb : H b = some (.lst zs)) (hz : xs.length + zs.length ≤ 100000) (k : Q .non (upd H l (.lst (xs ++ zs)))) : kM rExtend (.ref l) [.ref b] H Q := fun H1 e _ q => ⟨l, b, xs, zs, rfl, rfl, e _ _ h, e _ _ hb, Nat.le_trans hz (by decide), q _ _ _ k (e.ups l _)⟩
theorem m_index {l : Addr} {ys : List V} {j : Nat} {z : V} (h : SqL K H l ys) (f1 : flatV y = true) (f2 : ys.all flatV = true) (hj : ys[j]? = some z) (he : eqV z y = true) (hf : ∀ (m : Nat) (z' : V), m < j → ys[m]? = some z' → eqV z' y = false) (k : Q (.int (j : Nat)) H) :
    kM (rIndex K) (.ref l) [y] H Q := fun H1 e _ q => ⟨l, ys, y, j, z, rfl, rfl, e.sl h, f1, f2, hj, he, hf, q _ _ _ k e⟩
theorem g_subL {to ti : TE} {QS : PS'} (k : kE to σ H fun o H1 => kE ti σ H1 fun i H2 => ∃ p xs n j, o = .ref p ∧ i = .int n ∧ H2 p = some (.lst xs) ∧ ixN xs.length n = some j ∧ QS σ (upd H2 p (.lst (xs.set j v)))) : kG (gSub to ti rSetL) v σ H QS := fun H1 e _ q =>
  k H1 e _ fun o H0 H2 hk e2 => hk H2 e2 _ fun i H3 H4 ⟨p, xs, n, j, h1, h2, h3, h4, h5⟩ e4 => ⟨p, xs, n, j, h1, h2, e4 _ _ h3, h4, q _ _ _ h5 (e4.ups p _)⟩
theorem o_no {QO : Option Int → Hp → Prop} (k : QO none H) : kO tNoPart σ H QO := fun H1 e _ q => q _ _ _ k e
theorem o_part {QO : Option Int → Hp → Prop} (k : kE te σ H fun v H1 => ∃ i, v = .int i ∧ QO (some i) H1) : kO (tPart te) σ H QO := fun H1 e _ q => k H1 e _ fun v H0 H2 ⟨i, ei, h⟩ e2 => ⟨i, ei, q _ _ _ h e2⟩
theorem e_slL {tl th : TO} (k : kE te σ H fun x H1 => kO tl σ H1 fun lo H2 => kO th σ H2 fun hi H3 => ∃ a xs, x = .ref a ∧ SqL K H3 a xs ∧ ∀ p, H3 p = none → Q (.ref p) (upd H3 p (.lst (cutV xs lo hi)))) : kE (tSl (rSlL K) te tl th) σ H Q := fun H1 e _ q =>
  k H1 e _ fun x H0 H2 h e2 => h H2 e2 _ fun lo H3 H4 h e4 => h H4 e4 _ fun hi H5 H6 ⟨a, xs, ex, hs, hk⟩ e6 => ⟨a, xs, ex, e6.sl hs, fun p hp => q _ _ _ (hk p (e6.fresh hp)) (e6.ups p _)⟩
theorem s_retN (k : R .non H) : kS tRetN N R B C σ H := fun H1 e D _ hr _ _ => hr _ _ _ k e
theorem bF {b : Bool} {A B : Prop} (h : b = false) (k : B) : (b = true → A) ∧ (b = false → B) := ⟨fun z => (by rw [h] at z; cases z), fun _ => k⟩
theorem bT {b : Bool} {A B : Prop} (h : b = true) (k : A) : (b = true → A) ∧ (b = false → B) := ⟨fun _ => k, fun z => (by rw [h] at z; cases z)⟩
theorem dec2' {p : Prop} [Decidable p] {A B : Prop} (h1 : p → A) (h2 : ¬ p → B) : ((!decide p) = false → A) ∧ ((!decide p) = true → B) := ⟨fun h => h1 (by simpa using h), fun h => h2 (by simpa using h)⟩
theorem r_p16 (k : Q (.int 65536) H) : kR (rI CPow fun i j => .int (i ^ j.toNat)) (.int 2) (.int 16) H Q := r_I ⟨by decide, by decide, by decide⟩ (by rw [show (2 : Int) ^ (16 : Int).toNat = 65536 from by decide]; exact k)
theorem r_p20 (k : Q (.int 1048576) H) : kR (rI CPow fun i j => .int (i ^ j.toNat)) (.int 2) (.int 20) H Q := r_I ⟨by decide, by decide, by decide⟩ (by rw [show (2 : Int) ^ (20 : Int).toNat = 1048576 from by decide]; exact k)
theorem r_p24 (k : Q (.int 16777216) H) : kR (rI CPow fun i j => .int (i ^ j.toNat)) (.int 2) (.int 24) H Q := r_I ⟨by decide, by decide, by decide⟩ (by rw [show (2 : Int) ^ (24 : Int).toNat = 16777216 from by decide]; exact k)
theorem r_p30 (k : Q (.int 1073741824) H) : kR (rI CPow fun i j => .int (i ^ j.toNat)) (.int 2) (.int 30) H Q := r_I ⟨by decide, by decide, by decide⟩ (by rw [show (2 : Int) ^ (30 : Int).toNat = 1073741824 from by decide]; exact k)
theorem r_p40 (k : Q (.int 1099511627776) H) : kR (rI CPow fun i j => .int (i ^ j.toNat)) (.int 2) (.int 40) H Q := r_I ⟨by decide, by decide, by decide⟩ (by rw [show (2 : Int) ^ (40 : Int).toNat = 1099511627776 from by decide]; exact k)
theorem r_p46 (k : Q (.int 70368744177664) H) : kR (rI CPow fun i j => .int (i ^ j.toNat)) (.int 2) (.int 46) H Q := r_I ⟨by decide, by decide, by decide⟩ (by rw [show (2 : Int) ^ (46 : Int).toNat = 70368744177664 from by decide]; exact k)
theorem r_p50 (k : Q (.int 1125899906842624) H) : kR (rI CPow fun i j => .int (i ^ j.toNat)) (.int 2) (.int 50) H Q := r_I ⟨by decide, by decide, by decide⟩ (by rw [show (2 : Int) ^ (50 : Int).toNat = 1125899906842624 from by decide]; exact k)
theorem kS_gen (P : Hp → Prop) (h : P H) (k : ∀ H', P H' → kS ts N R B C σ H') : kS ts N R B C σ H := k H h
theorem r_repT1 {a : Addr} {x : V} {n : Nat} (h1 : SqT K H a [x]) (hn : 2 ≤ n ∧ n ≤ 1000) (k : ∀ p, H p = none → Q (.ref p) (upd H p (.tup (List.replicate n x)))) : kR (rRepT K) (.ref a) (.int (n : Int)) H Q := by
  refine r_repT h1 (by simp) (by omega) (by simp) fun p hp => ?_
  have e : ((n : Nat) : Int).toNat = n := by omega
  rw [e, List.flatten_replicate_singleton]
  exact k p hp
theorem dp_strs : ∀ zs : List Str, DpAll K H (zs.map V.str) (zs.map PyData.str)
  | [] => .nil
  | z :: zs => .cons (.str z) (dp_strs zs)
theorem eqv_strs : ∀ zs ws : List Str, PyData.eqv (.list (zs.map PyData.str)) (.list (ws.map PyData.str)) = decide (zs = ws)
  | [], [] => by simp [PyData.eqv, PyData.eqvAll]
  | [], _ :: _ => by simp [PyData.eqv, PyData.eqvAll]
  | _ :: _, [] => by simp [PyData.eqv, PyData.eqvAll]
  | a :: r, b :: t => by
    have ih := eqv_strs r t
    simp only [PyData.eqv] at ih
    simp only [List.map_cons, PyData.eqv, PyData.eqvAll, ih]
    by_cases h : a = b <;> by_cases h' : r = t <;> simp [h, h']
theorem lay_all {ds : List PyData} (h : ∀ d ∈ ds, d.canLay0 = true ∧ d.depth ≤ 50) : PyData.canLayAll0 ds = true ∧ PyData.depthAll ds ≤ 50 := by
  induction ds with
  | nil => exact ⟨rfl, Nat.zero_le _⟩
  | cons d ds ih =>
    obtain ⟨h1, h2⟩ := h d List.mem_cons_self
    obtain ⟨i1, i2⟩ := ih fun x hx => h x (List.mem_cons_of_mem _ hx)
    simp only [PyData.canLayAll0, PyData.depthAll, Bool.and_eq_true]
    exact ⟨⟨h1, i1⟩, Nat.max_le.mpr ⟨h2, i2⟩⟩
theorem shaped_list {ds : List PyData} (h : ∀ d ∈ ds, d.canLay0 = true ∧ d.depth ≤ 50) : SeqAt.shaped (.list ds) = true := by
  obtain ⟨h1, h2⟩ := lay_all h
  have h3 : PyData.depth (.list ds) ≤ 64 := by
    unfold PyData.depth
    first | exact Nat.le_trans (Nat.succ_le_succ h2) (by decide) | exact Nat.le_trans (Nat.add_le_add_left h2 1) (by decide)
  have h4 : PyData.canLay0 (.list ds) = true := by
    unfold PyData.canLay0
    exact h1
  unfold SeqAt.shaped
  rw [h4, decide_eq_true h3]
  rfl
theorem r_neSs {p q : Addr} {zs ws : List Str} (h1 : SqL K H p (zs.map V.str)) (h2 : SqL K H q (ws.map V.str)) (s1 : SeqAt.shaped (.list (zs.map PyData.str)) = true) (s2 : SeqAt.shaped (.list (ws.map PyData.str)) = true) (k : Q (.bl (!decide (zs = ws))) H) : kR (rNeD K) (.ref p) (.ref q) H Q :=
  r_neD (.lst h1 (dp_strs zs)) (.lst h2 (dp_strs ws)) s1 s2 (eqv_strs zs ws) k
def rIsNone : R2 := fun x y H Q => y = .non ∧ Q (.bl (decide (x = .non))) H
def rNotNone : R2 := fun x y H Q => y = .non ∧ Q (.bl (!decide (x = .non))) H
theorem r_notNon (k : Q (.bl false) H) : kR rNotNone .non .non H Q := fun H1 e _ q => ⟨rfl, by
  rw [show (!decide (V.non = V.non)) = false from by simp]
  exact q _ _ _ k e⟩
theorem r_notInt (k : Q (.bl true) H) : kR rNotNone (.int i) .non H Q := fun H1 e _ q => ⟨rfl, by
  rw [show (!decide (V.int i = V.non)) = true from by simp]
  exact q _ _ _ k e⟩
theorem r_isNon (k : Q (.bl true) H) : kR rIsNone .non .non H Q := fun H1 e _ q => ⟨rfl, by
  rw [show (decide (V.non = V.non)) = true from by simp]
  exact q _ _ _ k e⟩
theorem r_isNInt (k : Q (.bl false) H) : kR rIsNone (.int i) .non H Q := fun H1 e _ q => ⟨rfl, by
  rw [show (decide (V.int i = V.non)) = false from by simp]
  exact q _ _ _ k e⟩
theorem r_catA {a b : Addr} {xs ys : List V} (h1 : H a = some (.tup xs)) (h2 : H b = some (.tup ys)) (h0 : ys ≠ []) (hz : xs.length + ys.length ≤ sizeLine) (k : ∀ (p : Addr) (H' : Hp), Ex H H' → H' p = some (.tup (xs ++ ys)) → Q (.ref p) H') : kR (rCatA K) (.ref a) (.ref b) H Q := fun H1 e _ q =>
  ⟨a, b, xs, ys, rfl, rfl, SqT.of (e _ _ h1), SqT.of (e _ _ h2), hz, fun hx => by
    subst hx
    exact q _ _ _ (k b H Ex.rf h2) e, fun _ hy => absurd hy h0, fun _ _ p hp => q _ _ _ (k p _ (Ex.news (e.fresh hp)) upd_same) (e.ups p _)⟩
end Lg

/-! Rl: things that are handed in where a rule is wanted; rules; homes. -/
namespace Lg
open PySem PySem.Spec PyProof.Rows L2
inductive Th where
  | int (i : Int) | bl (b : Bool) | non | str (z : Str) | lst | tup (xs : List Th)
mutual
inductive IsT : Hp → V → Th → Prop where
  | int {H : Hp} (i : Int) : IsT H (.int i) (.int i)
  | bl {H : Hp} (b : Bool) : IsT H (.bl b) (.bl b)
  | non {H : Hp} : IsT H .non .non
  | str {H : Hp} (z : Str) : IsT H (.str z) (.str z)
  | lst {H : Hp} {a : Addr} {vs : List V} (h : H a = some (.lst vs)) : IsT H (.ref a) .lst
  | tup {H : Hp} {a : Addr} {vs : List V} {ts : List Th} (h : H a = some (.tup vs)) (all : IsTs H vs ts) : IsT H (.ref a) (.tup ts)
inductive IsTs : Hp → List V → List Th → Prop where
  | nil {H : Hp} : IsTs H [] []
  | cons {H : Hp} {v : V} {t : Th} {vs : List V} {ts : List Th} (h : IsT H v t) (r : IsTs H vs ts) : IsTs H (v :: vs) (t :: ts)
end
mutual
theorem IsT.up {H H' : Hp} (e : Ex H H') : ∀ {v : V} {t : Th}, IsT H v t → IsT H' v t
  | _, _, .int i => .int i
  | _, _, .bl b => .bl b
  | _, _, .non => .non
  | _, _, .str z => .str z
  | _, _, .lst h => .lst (e _ _ h)
  | _, _, .tup h a => .tup (e _ _ h) (IsTs.up e a)
theorem IsTs.up {H H' : Hp} (e : Ex H H') : ∀ {vs : List V} {ts : List Th}, IsTs H vs ts → IsTs H' vs ts
  | _, _, .nil => .nil
  | _, _, .cons h r => .cons (IsT.up e h) (IsTs.up e r)
end
theorem IsTs.len {H : Hp} : ∀ {vs : List V} {ts : List Th}, IsTs H vs ts → vs.length = ts.length
  | _, _, .nil => rfl
  | _, _, .cons _ r => congrArg (· + 1) r.len
theorem IsTs.at {H : Hp} : ∀ {vs : List V} {ts : List Th}, IsTs H vs ts → ∀ {i : Nat} {v : V}, vs[i]? = some v → ∃ t, ts[i]? = some t ∧ IsT H v t
  | _, _, .nil, i, v, h => by simp at h
  | _, _, .cons (t := t) h r, 0, v, e => by
    have e' : _ = v := Option.some.inj e
    subst e'
    exact ⟨t, rfl, h⟩
  | _, _, .cons h r, i + 1, v, e => r.at (i := i) e
def thTy : Th → String
  | .int _ => "int" | .bl _ => "bool" | .non => "NoneType" | .str _ => "str" | .lst => "list" | .tup _ => "tuple"
theorem IsT.ty {K : PySem.W.Frag} {H : Hp} {v : V} {t : Th} (h : IsT H v t) : Ty5 K H v (thTy t) := by
  cases h with
  | int i => exact .int i
  | bl b => exact .bl b
  | non => exact .non
  | str z => exact .str z
  | lst h => exact .lst h
  | tup h _ => exact .tup h
def thCnt : Th → Int → Int → Bool
  | .int i, lo, hi => decide (lo ≤ i) && decide (i ≤ hi)
  | _, _, _ => false
theorem IsT.cnt {H : Hp} {v : V} {t : Th} (h : IsT H v t) (lo hi : Int) : cnt v lo hi = thCnt t lo hi := by
  cases h <;> rfl
def thNums : Th → Bool
  | .tup ts => decide (1 ≤ ts.length) && decide (ts.length ≤ 64) && ts.all fun t => thCnt t 0 999
  | _ => false
/-- what stands first is a text or a whole number -/
def thHead : Th → Bool
  | .int _ => true | .str _ => true | _ => false
def thRule : Th → Bool
  | .tup [.str z, t] => decide (z = ("told" : Str)) && thNums t
  | .tup [.str z, a, b] => if z = ("times" : Str) then thCnt a 0 999999 && thCnt b 0 999999 else if z = ("high" : Str) then thCnt a 0 999999 && thCnt b 1 30 else false
  | _ => false
/-- a tuple of two or three begins with a text or a number -/
def thOk : Th → Bool
  | .tup [h, _] => thHead h
  | .tup [h, _, _] => thHead h
  | _ => true
/-! ### rules -/
inductive Rl where
  | times (a b : Nat) | high (a b : Nat) | told (ns : List Nat)
def Rl.ok : Rl → Prop
  | .times a b => a ≤ 999999 ∧ b ≤ 999999
  | .high a b => a ≤ 999999 ∧ 1 ≤ b ∧ b ≤ 30
  | .told ns => 1 ≤ ns.length ∧ ns.length ≤ 64 ∧ ∀ n ∈ ns, n ≤ 999
def IsRl (H : Hp) (v : V) : Rl → Prop
  | .times a b => ∃ p, v = .ref p ∧ H p = some (.tup [.str "times", .int (a : Int), .int (b : Int)])
  | .high a b => ∃ p, v = .ref p ∧ H p = some (.tup [.str "high", .int (a : Int), .int (b : Int)])
  | .told ns => ∃ p q, v = .ref p ∧ H p = some (.tup [.str "told", .ref q]) ∧ H q = some (.tup (ns.map fun n : Nat => V.int (n : Int)))
theorem IsRl.up {H H' : Hp} (e : Ex H H') {v : V} : ∀ {r : Rl}, IsRl H v r → IsRl H' v r
  | .times _ _, ⟨p, h1, h2⟩ => ⟨p, h1, e _ _ h2⟩
  | .high _ _, ⟨p, h1, h2⟩ => ⟨p, h1, e _ _ h2⟩
  | .told _, ⟨p, q, h1, h2, h3⟩ => ⟨p, q, h1, e _ _ h2, e _ _ h3⟩
def Rl.th : Rl → Th
  | .times a b => .tup [.str "times", .int a, .int b]
  | .high a b => .tup [.str "high", .int a, .int b]
  | .told ns => .tup [.str "told", .tup (ns.map fun n : Nat => Th.int (n : Int))]
theorem isTs_nums {H : Hp} : ∀ ns : List Nat, IsTs H (ns.map fun n : Nat => V.int (n : Int)) (ns.map fun n : Nat => Th.int (n : Int))
  | [] => .nil
  | n :: ns => .cons (.int _) (isTs_nums ns)
theorem IsRl.th {H : Hp} {v : V} : ∀ {r : Rl}, IsRl H v r → IsT H v r.th
  | .times a b, ⟨p, h1, h2⟩ => by
    subst h1
    exact .tup h2 (.cons (.str _) (.cons (.int _) (.cons (.int _) .nil)))
  | .high a b, ⟨p, h1, h2⟩ => by
    subst h1
    exact .tup h2 (.cons (.str _) (.cons (.int _) (.cons (.int _) .nil)))
  | .told ns, ⟨p, q, h1, h2, h3⟩ => by
    subst h1
    exact .tup h2 (.cons (.str _) (.cons (.tup h3 (isTs_nums ns)) .nil))
theorem thCnt_nat {n lo hi : Nat} (h : lo ≤ n) (h2 : n ≤ hi) : thCnt (.int (n : Int)) (lo : Int) (hi : Int) = true := by
  simp only [thCnt, Bool.and_eq_true, decide_eq_true_eq]
  omega
theorem Rl.ok_th : ∀ {r : Rl}, r.ok → thRule r.th = true ∧ thOk r.th = true
  | .times a b, h => by
    refine ⟨?_, rfl⟩
    have h1 := thCnt_nat (lo := 0) (hi := 999999) (Nat.zero_le a) h.1
    have h2 := thCnt_nat (lo := 0) (hi := 999999) (Nat.zero_le b) h.2
    simp only [Rl.th, thRule, if_pos]
    rw [Bool.and_eq_true]
    exact ⟨h1, h2⟩
  | .high a b, h => by
    refine ⟨?_, rfl⟩
    have h1 := thCnt_nat (lo := 0) (hi := 999999) (Nat.zero_le a) h.1
    have h2 := thCnt_nat (lo := 1) (hi := 30) h.2.1 h.2.2
    simp only [Rl.th, thRule]
    rw [if_neg (by decide)]
    simp only [if_true, Bool.and_eq_true]
    exact ⟨h1, h2⟩
  | .told ns, h => by
    refine ⟨?_, rfl⟩
    simp only [Rl.th, thRule, thNums, List.length_map, Bool.and_eq_true, decide_eq_true_eq, List.all_map, true_and]
    refine ⟨⟨h.1, h.2.1⟩, List.all_eq_true.mpr fun n hn => ?_⟩
    exact thCnt_nat (lo := 0) (hi := 999) (Nat.zero_le n) (h.2.2 n hn)
/-- the home by a rule -/
def homeN : Rl → Nat → Nat → Nat
  | .times a b, key, size => (a * key + b) % size
  | .high a b, key, size => a * key % 2 ^ b * size / 2 ^ b
  | .told ns, key, size => ns.getD (key % ns.length) 0 % size
theorem homeN_lt {r : Rl} {key size : Nat} (h : 0 < size) : homeN r key size < size := by
  cases r with
  | times a b => exact Nat.mod_lt _ h
  | high a b =>
    have h2 : 0 < 2 ^ b := Nat.two_pow_pos b
    exact Nat.div_lt_of_lt_mul (by
      have := Nat.mod_lt (a * key) h2
      exact Nat.mul_lt_mul_of_pos_right this h)
  | told ns => exact Nat.mod_lt _ h
theorem isTs_rep {H : Hp} {i : Int} : ∀ n : Nat, IsTs H (List.replicate n (.int i)) (List.replicate n (.int i))
  | 0 => .nil
  | n + 1 => .cons (.int i) (isTs_rep n)
theorem pow_lt30 {b : Nat} (h : b ≤ 30) : 2 ^ b < 2 ^ 31 := Nat.pow_lt_pow_right (by decide) (by omega)
end Lg

/-! Ks: keys: sets of them, sorted lists, lists of lists compared. -/
namespace Lg
open PySem PySem.Spec PyProof.Rows L2
/-! ### len(set(xs)) -/
theorem met_lt {val : Nat → Int} {j : Nat} (h : (firstMet val j).any (· == val j) = true) : ∀ i, j < i → (firstMet val i).length < i
  | 0, hi => absurd hi (Nat.not_lt_zero _)
  | i + 1, hi => by
    rw [firstMet_succ]
    by_cases e : j = i
    · subst e
      unfold step_dedup
      rw [if_pos h]
      exact Nat.lt_succ_of_le (firstMet_length_le val j)
    · have ih := met_lt h i (by omega)
      unfold step_dedup
      split
      · omega
      · rw [List.length_append, List.length_singleton]
        omega
theorem dup_at {ns : List Int} (h : ¬ ns.Nodup) : ∃ j, ∃ hj : j < ns.length, ns[j] ∈ ns.take j := by
  by_cases q : ∃ j, ∃ hj : j < ns.length, ns[j] ∈ ns.take j
  · exact q
  · refine absurd (List.pairwise_iff_getElem.mpr fun i j hi hj hij e => q ⟨j, hj, ?_⟩) h
    rw [← e]
    exact List.mem_iff_getElem.mpr ⟨i, by rw [List.length_take]; omega, by rw [List.getElem_take]⟩
theorem met_dup {ns : List Int} (h : ¬ ns.Nodup) : (firstMet (fun i => ns.getD i 0) ns.length).length < ns.length := by
  obtain ⟨j, hj, hm⟩ := dup_at h
  refine met_lt (j := j) ?_ _ hj
  rw [firstMet_any]
  refine List.any_eq_true.mpr ⟨ns[j], ?_, ?_⟩
  · obtain ⟨i, hi, e⟩ := List.mem_iff_getElem.mp hm
    rw [List.length_take] at hi
    rw [List.getElem_take] at e
    refine List.mem_map.mpr ⟨i, List.mem_range.mpr (by omega), ?_⟩
    rw [← e]
    show ns.getD i 0 = _
    rw [List.getD_eq_getElem?_getD, List.getElem?_eq_getElem (by omega)]
    rfl
  · show (ns[j] == ns.getD j 0) = true
    rw [List.getD_eq_getElem?_getD, List.getElem?_eq_getElem hj]
    exact beq_self_eq_true _
def tLenSet (K : PySem.W.Frag) (ta : TE) : TE := fun σ H Q => ta σ H fun x H1 => ∃ (l : Addr) (ns : List Int), x = .ref l ∧ SqL K H1 l (ns.map V.int) ∧ ns.length ≤ 4000 ∧ ∀ m : Nat, (ns.Nodup → m = ns.length) → (¬ ns.Nodup → m < ns.length) → Q (.int (m : Int)) H1
theorem pe_lenSetG {X : Cx} {a : Expr} {ta : TE} {p p2 q pos : Pos} (hg : Gl X "len") (hg2 : Gl X "set") (hm : X.mg "len" = none) (hm2 : X.mg "set" = none) (ha : PE X a ta) (hc : X.calm = true := by rfl)
    (na : starEach [a] X.env = (false, eval a X.env) :: starEach [] X.env := by rfl) : PE X (.Call (.Name "len" p) [.Call (.Name "set" p2) [a] [] q] [] pos) (tLenSet X.K ta) := by
  refine ⟨fun pins s σ H Q I h => ?_⟩
  refine Call_ (ld_blt I hg hm boot_len ?_)
  refine PyProof.Rows.callWith_builtin1 (PyProof.Rows.args_cons ?_ rfl) rfl rfl
  refine Call_ (ld_blt I hg2 hm2 boot_set ?_)
  refine PyProof.Rows.callWith_type1 (PyProof.Rows.args_cons (thn (ha.run pins s σ H _ I h) fun v s1 ⟨x, H1, I1, r1, q1⟩ => PyProof.Rows.args_nil ?_) na) na rfl
  obtain ⟨l, ns, rfl, hq, hl, q1⟩ := q1
  cases r1
  obtain ⟨its, r, pl, hz⟩ := I1.list hq
  have hlen : its.toArray.size = ns.length := by rw [List.size_toArray, ← r.length, List.length_map]
  refine call_set_list (I1.ok.hd hc) pl.isList (by simpa using RZ.intsAre_vals r) (by rw [hlen]; unfold scanBound; omega) fun h' tk hS hk => ?_
  refine PyProof.Rows.args_nil ?_
  have h1 : ns.Nodup → (firstMet (fun i => ns.getD i 0) ns.length).length = ns.length := fun hnd => by rw [RZ.firstMet_nodup hnd ns.length (Nat.le_refl _), List.take_length]
  have h2 : ¬ ns.Nodup → (firstMet (fun i => ns.getD i 0) ns.length).length < ns.length := fun h => met_dup h
  have h3 := firstMet_length_le (fun i => ns.getD i 0) ns.length
  rw [hlen] at hS
  generalize firstMet (fun i => ns.getD i 0) ns.length = ms at *
  obtain ⟨o, es, ep, t, ho, hex, hd, _, _, _, hf, hn⟩ := hS
  have I2 : Inv X pins σ H1 { s1 with heap := h', toks := tk } := I1.kept fun b o e => hk b o (Heap.lt_size e) e
  exact call_len_set ho hex hd hf (by rw [hn] <;> omega) ⟨.int ms.length, H1, I2.tok _, ⟨_, by rw [hn]⟩, q1 ms.length h1 h2⟩
variable {K : PySem.W.Frag} {σ : Sg} {H H' : Hp} {ta te : TE} {Q : PV}
theorem e_lenSet (k : kE ta σ H fun x H1 => ∃ (l : Addr) (ns : List Int), x = .ref l ∧ SqL K H1 l (ns.map V.int) ∧ ns.length ≤ 4000 ∧ ∀ m : Nat, (ns.Nodup → m = ns.length) → (¬ ns.Nodup → m < ns.length) → Q (.int (m : Int)) H1) : kE (tLenSet K ta) σ H Q := fun H1 e _ q =>
  k H1 e _ fun x H0 H2 ⟨l, ns, ex, hs, hl, hk⟩ e2 => ⟨l, ns, ex, e2.sl hs, hl, fun m h1 h2 => q _ _ _ (hk m h1 h2) e2⟩
/-! ### lists of lists -/
theorem eqv_lls : ∀ xs ys : List (List Int), PyData.eqv (.list (xs.map fun b => PyData.list (b.map PyData.int))) (.list (ys.map fun b => PyData.list (b.map PyData.int))) = decide (xs = ys)
  | [], [] => by simp [PyData.eqv, PyData.eqvAll]
  | [], _ :: _ => by simp [PyData.eqv, PyData.eqvAll]
  | _ :: _, [] => by simp [PyData.eqv, PyData.eqvAll]
  | a :: r, b :: t => by
    have ih := eqv_lls r t
    have ia := eqv_ints a b
    rw [List.map_cons, List.map_cons]
    rw [show PyData.eqv (.list (PyData.list (a.map PyData.int) :: r.map fun b => PyData.list (b.map PyData.int))) (.list (PyData.list (b.map PyData.int) :: t.map fun b => PyData.list (b.map PyData.int))) = (PyData.eqv (.list (a.map PyData.int)) (.list (b.map PyData.int)) && PyData.eqv (.list (r.map fun b => PyData.list (b.map PyData.int))) (.list (t.map fun b => PyData.list (b.map PyData.int)))) from by simp only [PyData.eqv, PyData.eqvAll]]
    rw [ih, ia]
    by_cases h : a = b <;> by_cases h' : r = t <;> simp [h, h']
theorem lay_ints (b : List Int) : (PyData.list (b.map PyData.int)).canLay0 = true ∧ (PyData.list (b.map PyData.int)).depth ≤ 50 := by
  have h := PySem.W.ke_shaped_ints b
  unfold SeqAt.shaped at h
  rw [Bool.and_eq_true] at h
  refine ⟨h.1, ?_⟩
  simp [PyData.depth, PySem.W.ke_depthAll]
theorem shaped_lls (xs : List (List Int)) : SeqAt.shaped (.list (xs.map fun b => PyData.list (b.map PyData.int))) = true := shaped_list fun d hd => by
  obtain ⟨b, _, rfl⟩ := List.mem_map.mp hd
  exact lay_ints b
/-- a list of lists of whole numbers stands at p -/
inductive LLs (H : Hp) : List Addr → List (List Int) → Prop where
  | nil : LLs H [] []
  | cons {a : Addr} {ps : List Addr} {b : List Int} {xs : List (List Int)} (h : H a = some (.lst (b.map V.int))) (r : LLs H ps xs) : LLs H (a :: ps) (b :: xs)
theorem LLs.up (e : Ex H H') : ∀ {ps : List Addr} {xs : List (List Int)}, LLs H ps xs → LLs H' ps xs
  | _, _, .nil => .nil
  | _, _, .cons h r => .cons (e _ _ h) (r.up e)
theorem LLs.dp : ∀ {ps : List Addr} {xs : List (List Int)}, LLs H ps xs → DpAll K H (ps.map V.ref) (xs.map fun b => PyData.list (b.map PyData.int))
  | _, _, .nil => .nil
  | _, _, .cons h r => .cons (.lst (SqL.of h) (dp_ints _)) r.dp
theorem LLs.of {ps : List Addr} {xs : List (List Int)} (hl : ps.length = xs.length) (h : ∀ i (hi : i < xs.length), H (ps[i]'(by omega)) = some (.lst (xs[i].map V.int))) : LLs H ps xs := by
  induction xs generalizing ps with
  | nil =>
    cases ps with
    | nil => exact .nil
    | cons a ps => simp at hl
  | cons b xs ih =>
    cases ps with
    | nil => simp at hl
    | cons a ps => exact .cons (h 0 (by simp)) (ih (by simpa using hl) fun i hi => h (i + 1) (by simpa using hi))
theorem LLs.len : ∀ {ps : List Addr} {xs : List (List Int)}, LLs H ps xs → ps.length = xs.length
  | _, _, .nil => rfl
  | _, _, .cons _ r => congrArg (· + 1) r.len
theorem LLs.at : ∀ {ps : List Addr} {xs : List (List Int)}, LLs H ps xs → ∀ i (hi : i < ps.length) (hx : i < xs.length), H ps[i] = some (.lst (xs[i].map V.int))
  | _, _, .cons h _, 0, _, _ => h
  | _, _, .cons _ r, i + 1, hi, hx => r.at i (by simpa using hi) (by simpa using hx)
theorem r_neLL {p q : Addr} {ps qs : List Addr} {xs ys : List (List Int)} (h1 : SqL K H p (ps.map V.ref)) (l1 : LLs H ps xs) (h2 : SqL K H q (qs.map V.ref)) (l2 : LLs H qs ys) (k : Q (.bl (!decide (xs = ys))) H) : kR (rNeD K) (.ref p) (.ref q) H Q :=
  r_neD (.lst h1 l1.dp) (.lst h2 l2.dp) (shaped_lls xs) (shaped_lls ys) (eqv_lls xs ys) k
/-! ### lists by places -/
theorem filterMap_idx {α β : Type} {xs : List α} {g : α → Option β} : ∀ n, n ≤ xs.length → (List.range n).filterMap (fun i => (xs[i]?).bind g) = (xs.take n).filterMap g
  | 0, _ => by simp
  | n + 1, h => by
    have hn : n < xs.length := h
    rw [List.range_succ, List.filterMap_append, filterMap_idx n (Nat.le_of_lt h), List.take_succ, List.getElem?_eq_getElem hn, List.filterMap_append]
    simp [List.filterMap_cons, hn]
/-- one order is sorted -/
theorem sorted_one : ∀ {xs ys : List Int}, xs.Perm ys → xs.Pairwise (· ≤ ·) → ys.Pairwise (· ≤ ·) → xs = ys
  | xs, ys, h, h1, h2 => List.Perm.eq_of_pairwise (le := (· ≤ ·)) (fun a b _ _ hab hba => Int.le_antisymm hab hba) h1 h2 h
/-! ### a place that is not told -/
theorem nodup_le {α : Type} [DecidableEq α] : ∀ {l m : List α}, l.Nodup → (∀ x ∈ l, x ∈ m) → l.length ≤ m.length
  | [], _, _, _ => Nat.zero_le _
  | a :: l, m, hn, hs => by
    have ha : a ∈ m := hs a List.mem_cons_self
    obtain ⟨h1, h2⟩ := List.nodup_cons.mp hn
    have := nodup_le (l := l) (m := m.erase a) h2 fun x hx => (List.mem_erase_of_ne (fun e => h1 (by rw [← e]; exact hx))).mpr (hs x (List.mem_cons_of_mem _ hx))
    rw [List.length_erase_of_mem ha] at this
    have hp := List.length_pos_of_mem ha
    simp only [List.length_cons]
    omega
theorem free_at (found : List Nat) (key M : Nat) (h : found.length < M) : ∃ d, d ≤ found.length ∧ (key + d) % M ∉ found := by
  by_cases q : ∃ d, d ≤ found.length ∧ (key + d) % M ∉ found
  · exact q
  · have hs : ∀ x ∈ (List.range (found.length + 1)).map fun d => (key + d) % M, x ∈ found := fun x hx => by
      obtain ⟨d, hd, rfl⟩ := List.mem_map.mp hx
      by_cases z : (key + d) % M ∈ found
      · exact z
      · exact absurd ⟨d, by have := List.mem_range.mp hd; omega, z⟩ q
    have hn : ((List.range (found.length + 1)).map fun d => (key + d) % M).Nodup := by
      refine List.pairwise_map.mpr (List.Pairwise.imp_of_mem ?_ (List.nodup_range (n := found.length + 1)))
      intro a b ha hb hab e
      have h1 := List.mem_range.mp ha
      have h2 := List.mem_range.mp hb
      apply hab
      have e1 := Nat.div_add_mod (key + a) M
      have e2 := Nat.div_add_mod (key + b) M
      rcases Nat.lt_trichotomy ((key + a) / M) ((key + b) / M) with z | z | z
      · have : M * ((key + a) / M + 1) ≤ M * ((key + b) / M) := Nat.mul_le_mul_left _ z
        rw [Nat.mul_add] at this
        omega
      · rw [z] at e1
        omega
      · have : M * ((key + b) / M + 1) ≤ M * ((key + a) / M) := Nat.mul_le_mul_left _ z
        rw [Nat.mul_add] at this
        omega
    have := nodup_le hn hs
    rw [List.length_map, List.length_range] at this
    omega
theorem inV_ints {k : Nat} {ns : List Nat} : inV (.int (k : Int)) (ns.map fun n : Nat => V.int (n : Int)) = decide (k ∈ ns) := by
  rw [Bool.eq_iff_iff]
  simp only [inV, List.any_map, List.any_eq_true, Function.comp, decide_eq_true_eq, eqV]
  constructor
  · rintro ⟨x, hx, e⟩
    have : (x : Int) = k := by simpa using e
    have : x = k := by omega
    exact this ▸ hx
  · intro h
    exact ⟨k, h, by simp⟩
theorem LLs.snoc {a : Addr} {b : List Int} (h : H a = some (.lst (b.map V.int))) : ∀ {ps : List Addr} {xs : List (List Int)}, LLs H ps xs → LLs H (ps ++ [a]) (xs ++ [b])
  | _, _, .nil => .cons h .nil
  | _, _, .cons h' r => .cons h' (r.snoc h)
theorem LLs.upd_ne {D : Addr} {o : HO} : ∀ {ps : List Addr} {xs : List (List Int)}, LLs H ps xs → (∀ q ∈ ps, q ≠ D) → LLs (upd H D o) ps xs
  | _, _, .nil, _ => .nil
  | _, _, .cons h r, hn => .cons (by rw [L2.upd_ne (hn _ List.mem_cons_self)]; exact h) (r.upd_ne fun q hq => hn q (List.mem_cons_of_mem _ hq))
theorem filterMap_if {P : Int → Bool} : ∀ {ms : List Int}, ms.filterMap (fun k => if P k = true then some (V.int k) else none) = (ms.filter P).map V.int
  | [] => rfl
  | k :: ms => by
    rw [List.filterMap_cons, List.filter_cons]
    cases h : P k with
    | true => simp only [if_true, List.map_cons, filterMap_if]
    | false => simp only [Bool.false_eq_true, if_false, filterMap_if]
def nI (ns : List Nat) : List Int := ns.map fun n : Nat => (n : Int)
theorem nI_v {ns : List Nat} : (nI ns).map V.int = ns.map fun n : Nat => V.int (n : Int) := by
  unfold nI
  rw [List.map_map]
  rfl
theorem nI_nodup {ns : List Nat} : (nI ns).Nodup ↔ ns.Nodup := by
  unfold nI
  constructor
  · intro h
    exact (List.pairwise_map.mp h).imp fun h e => h (by rw [e])
  · intro h
    exact List.pairwise_map.mpr (h.imp fun h e => h (by omega))
theorem map_int_inj : ∀ {a b : List Int}, a.map V.int = b.map V.int → a = b
  | [], [], _ => rfl
  | [], _ :: _, h => by simp at h
  | _ :: _, [], h => by simp at h
  | x :: a, y :: b, h => by
    simp only [List.map_cons, List.cons.injEq, V.int.injEq] at h
    rw [h.1, map_int_inj h.2]
theorem atI_lastN {α : Type} {xs : List α} {n : Nat} {v : α} (hl : xs.length = n + 1) (h : xs[n]? = some v) : atI xs (-1) = some v := by
  have e : xs = xs.take n ++ [v] := by
    have hn : n < xs.length := by omega
    have hv : xs[n] = v := by
      rw [List.getElem?_eq_getElem hn] at h
      exact Option.some.inj h
    rw [← hv, List.take_append_getElem hn, List.take_of_length_le (by omega)]
  rw [e]
  exact L2.atI_last _ _
theorem cut1 {xs : List V} (h : 0 < xs.length) : cutV xs (some 1) none = xs.drop 1 := by
  unfold cutV HT.sIx
  have h1 : min 1 xs.length = 1 := by omega
  simp [h1]
  exact List.take_of_length_le (by simp)
theorem cut0 {xs : List V} {n : Nat} (h : n ≤ xs.length) : cutV xs none (some (n : Int)) = xs.take n := by
  unfold cutV
  rw [HT.sIx_none, HT.sIx_nat, Nat.min_eq_left h]
  simp
theorem nI_len {ns : List Nat} : (nI ns).length = ns.length := by simp [nI]
theorem nI_map {α : Type} {f : α → Nat} {l : List α} : (nI (l.map f)).map V.int = l.map fun x => V.int ((f x : Nat) : Int) := by
  rw [nI_v, List.map_map]
  rfl
theorem nI_sum {ns : List Nat} : (nI ns).sum = ((ns.sum : Nat) : Int) := by
  induction ns with
  | nil => rfl
  | cons n ns ih =>
    simp only [nI, List.map_cons, List.sum_cons] at ih ⊢
    rw [ih]
    omega
theorem nI_inj : ∀ {a b : List Nat}, nI a = nI b → a = b
  | [], [], _ => rfl
  | [], _ :: _, h => by simp [nI] at h
  | _ :: _, [], h => by simp [nI] at h
  | x :: a, y :: b, h => by
    simp only [nI, List.map_cons, List.cons.injEq] at h
    rw [nI_inj (a := a) (b := b) h.2, show x = y by omega]
theorem ixN_nat {n j : Nat} (h : j < n) : ixN n (j : Int) = some j := by
  unfold ixN
  rw [if_pos (by omega), if_pos (by omega), Int.toNat_natCast]
end Lg

/-! Dk: dicts of counts: get, set, the greatest key. -/
namespace Lg
open PySem PySem.Spec PyProof.Rows L2
variable {K : PySem.W.Frag} {σ : Sg} {H H' : Hp} {ta tb tc te : TE} {Q : PV} {v : V}
/-- a dict of counts above nought -/
structure CntD (H : Hp) (d : Addr) (f : Nat → Nat) (n : Nat) : Prop where
  ex : ∃ kvs : List (Key × V), H d = some (.dK kvs) ∧ kvs.length ≤ n ∧ (∀ k, valV kvs (.inl (k : Nat)) = if f k = 0 then none else some (.int ((f k : Nat) : Int))) ∧ ∀ p ∈ kvs, ∃ k : Nat, p.1 = .inl (k : Int) ∧ 0 < f k
theorem CntD.up (e : Ex H H') {d : Addr} {f : Nat → Nat} {n : Nat} (h : CntD H d f n) : CntD H' d f n := by
  obtain ⟨kvs, h1, h2⟩ := h.ex
  exact ⟨kvs, e _ _ h1, h2⟩
theorem cntD_new {d : Addr} : CntD (upd H d (.dK [])) d (fun _ => 0) 0 := ⟨[], upd_same, Nat.le_refl _, fun k => rfl, fun _ h => absurd h List.not_mem_nil⟩
theorem e_dnew (k : ∀ p, H p = none → Q (.ref p) (upd H p (.dK []))) : kE tDNewK σ H Q := fun H1 e _ q p hp => q _ _ _ (k p (e.fresh hp)) (e.ups p _)
/-- d.get(k, 0) -/
theorem e_getC (k : kE ta σ H fun x H1 => ∃ d, x = .ref d ∧ (∃ f n, CntD H1 d f n) ∧ kE tb σ H1 fun y H2 => ∃ f n j, CntD H2 d f n ∧ y = .int ((j : Nat) : Int) ∧ Q (.int ((f j : Nat) : Int)) H2) : kE (tDGet2 ta tb (tC (.int 0))) σ H Q := fun H1 e Q1 q =>
  k H1 e _ fun x H0 H2 ⟨d, ex, ⟨f, n, c⟩, hk⟩ e2 => by
    obtain ⟨kvs, h1, _⟩ := c.ex
    refine ⟨d, ex, .inl ⟨kvs, .inl (e2 _ _ h1)⟩, hk H2 e2 _ fun y H3 H4 ⟨f', n', j, c', ey, hq⟩ e4 => ?_⟩
    obtain ⟨kvs', h1', _, h3', _⟩ := c'.ex
    subst ey
    refine ⟨_, DGet.k (k := Sum.inl ((j : Nat) : Int)) (e4 _ _ h1'), ?_⟩
    rw [h3' j]
    by_cases z : f' j = 0
    · rw [if_pos z]
      rw [z] at hq
      exact q _ _ _ hq e4
    · rw [if_neg z]
      exact q _ _ _ hq e4
theorem g_setC {QS : PS'} (k : kE ta σ H fun o H1 => kE tb σ H1 fun i H2 => ∃ d f n j c, o = .ref d ∧ i = .int ((j : Nat) : Int) ∧ CntD H2 d f n ∧ n ≤ 100000 ∧ v = .int ((c : Nat) : Int) ∧ 0 < c ∧
      ∀ kvs, CntD (upd H2 d (.dK kvs)) d (fun k => if k = j then c else f k) (n + 1) → QS σ (upd H2 d (.dK kvs))) : kG (gSub ta tb rSetD) v σ H QS := fun H1 e _ q =>
  k H1 e _ fun o H0 H2 hx e2 => hx H2 e2 _ fun i H3 H4 ⟨d, f, n, j, c, eo, ei, cd, hn, ev, hc, hk⟩ e4 => by
    obtain ⟨kvs, h1, h2, h3, h4⟩ := cd.ex
    subst eo ei ev
    refine ⟨d, _, rfl, DPut.k (k := Sum.inl ((j : Nat) : Int)) (e4 _ _ h1) (Nat.lt_of_le_of_lt (Nat.le_trans h2 hn) (by decide)), ?_⟩
    refine q _ _ _ (hk (putK kvs (Sum.inl ((j : Nat) : Int)) (.int ((c : Nat) : Int))) ⟨_, upd_same, ?_, fun k => ?_, fun p hp => ?_⟩) (e4.ups d _)
    · exact Nat.le_trans (length_putK _ _ _) (by omega)
    · rw [valV_put]
      by_cases z : k = j
      · subst z
        simp only [if_true]
        rw [if_neg (by omega)]
      · rw [if_neg (fun e => z (by
          have := Sum.inl.inj e
          omega)), if_neg z]
        exact h3 k
    · unfold putK at hp
      split at hp
      · obtain ⟨p', hp', rfl⟩ := List.mem_map.mp hp
        obtain ⟨k, e1, e2⟩ := h4 p' hp'
        split
        · rename_i e3
          refine ⟨j, by simpa using e3, ?_⟩
          simp only [if_true]
          exact hc
        · refine ⟨k, e1, ?_⟩
          split
          · exact hc
          · exact e2
      · rcases List.mem_append.mp hp with hp | hp
        · obtain ⟨k, e1, e2⟩ := h4 p hp
          refine ⟨k, e1, ?_⟩
          split
          · exact hc
          · exact e2
        · rw [List.mem_singleton.mp hp]
          exact ⟨j, rfl, by simp only [if_true]; exact hc⟩
def rMaxK : List V → Hp → VK → Prop := fun xs H Q => ∃ (d : Addr) (kvs : List (Key × V)) (ns : List Int), xs = [.ref d] ∧ H d = some (.dK kvs) ∧ kvs.map (·.1) = ns.map Sum.inl ∧ 0 < ns.length ∧ ∀ m, m ∈ ns → (∀ y, y ∈ ns → y ≤ m) → Q (.int m) H
theorem cr_maxK {X : Cx} (hc : X.calm = true) : CallR X (.builtin "max") rMaxK := by
  intro pins s σ H xs us Q I rx h
  obtain ⟨d, kvs, ns, rfl, hd, hns, hne, q⟩ := h
  rw [Vals.ref1 rx]
  obtain ⟨_, hs, vs, kv, o, es, ep, ho, hx, hdt, r⟩ := dk_rd I.hok (.inl hd)
  have hl : kvs.length = vs.length := Paired.length kv
  have hkn : kvs.length = ns.length := by
    have e := congrArg List.length hns
    rw [List.length_map, List.length_map] at e
    exact e
  have hsz : es.size = kvs.length := by
    have l1 := r.2.1.length
    rw [Array.length_toList] at l1
    omega
  have hP : ∀ (i : Nat) (v : Value), (∃ k x, vs[i]? = some (k, x) ∧ (mixKind X.prog X.w).is k v = true) → ∃ t, v = .int (ns.getD i 0) t := fun i v ⟨k, x, he, hk⟩ => by
    have hi : i < vs.length := by
      obtain ⟨z, _⟩ := List.getElem?_eq_some_iff.mp he
      exact z
    have hi2 : i < kvs.length := by omega
    have hi3 : i < ns.length := by omega
    obtain ⟨u, hu, _⟩ := kv_get kv (i := i) (k := kvs[i].1) (v := kvs[i].2) (List.getElem?_eq_getElem hi2)
    have e0 := he.symm.trans hu
    have e1 : k = kvs[i].1 := congrArg Prod.fst (Option.some.inj e0)
    have e2 : kvs[i].1 = Sum.inl ns[i] := by
      have z : (kvs.map (·.1))[i]? = (ns.map Sum.inl)[i]? := by rw [hns]
      rw [List.getElem?_map, List.getElem?_map, List.getElem?_eq_getElem hi2, List.getElem?_eq_getElem hi3] at z
      exact Option.some.inj z
    have e3 : ns.getD i 0 = ns[i] := by rw [List.getD_eq_getElem?_getD, List.getElem?_eq_getElem hi3] <;> rfl
    have hk2 : keyIs (Sum.inl ns[i]) v = true := by
      rw [← e2, ← e1]
      exact hk
    rcases keyIs_shape hk2 with ⟨j, t, a, b⟩ | ⟨x, t, a, b⟩
    · cases a
      exact ⟨t, by rw [e3]; exact b⟩
    · cases a
  have ha : d < s.heap.objs.size := Heap.lt_size ho
  refine call_max_walk ?_
  refine iter_keys hs ho hx hdt ?_
  refine ⟨s.heap.objs.size, [s.heap.objs.size, d], [s.heap.objs.size], vs.length, _, _, fun i j => decide (ns.getD i 0 > ns.getD j 0), rfl, Walks.dictKeys (knd := mixKind X.prog X.w) (show X.A.in1.handled = none from I.ok.hd hc) s.heap.objs.size d (Nat.ne_of_lt ha) vs ep, ⟨⟨_, Heap.get?_push_size _ rfl, rfl, ?_⟩, ⟨o, es, Heap.get?_push_of_some _ ho, hx, hdt, r⟩⟩, fun b hb => ?_, by omega, CmpOf.ints_gt (fun i => ns.getD i 0) hP, fun v h' tk hv' hk => ?_⟩
  · rw [hsz, hl]
    rfl
  · show b < (s.heap.push _).objs.size
    rw [size_push']
    rcases List.mem_cons.mp hb with z | z
    · rw [z]
      exact Nat.lt_succ_self _
    · rw [List.mem_singleton.mp z]
      exact Nat.lt_succ_of_lt ha
  · obtain ⟨t, rfl⟩ := hP _ _ hv'
    obtain ⟨m1', m2'⟩ := argBest_gt (fun i => ns.getD i 0) (vs.length - 1)
    have m1 : argBest (fun i j => decide (ns.getD i 0 > ns.getD j 0)) (vs.length - 1) ≤ vs.length - 1 := m1'
    have m2 : ∀ j, j ≤ vs.length - 1 → ns.getD j 0 ≤ ns.getD (argBest (fun i j => decide (ns.getD i 0 > ns.getD j 0)) (vs.length - 1)) 0 := m2'
    have hk2 : ∀ b o, s.heap.get? b = some o → h'.get? b = some o := fun b o e => hk b o (fun z => by rw [List.mem_singleton.mp z] at e; exact absurd (Heap.lt_size e) (Nat.lt_irrefl _)) (Heap.get?_push_of_some _ e)
    refine ⟨.int _, H, I.kept (t' := tk) hk2, ⟨t, rfl⟩, q _ (PySem.getD_mem (by omega)) fun y hy => ?_⟩
    obtain ⟨j, hj, e⟩ := List.mem_iff_getElem.mp hy
    have z := m2 j (by omega)
    have e3 : ns.getD j 0 = y := by rw [List.getD_eq_getElem?_getD, List.getElem?_eq_getElem hj, ← e] <;> rfl
    rw [e3] at z
    exact z
theorem keys_inl {f : Nat → Nat} : ∀ {kvs : List (Key × V)}, (∀ p ∈ kvs, ∃ k : Nat, p.1 = .inl (k : Int) ∧ 0 < f k) → ∃ ks : List Nat, kvs.map (·.1) = (nI ks).map Sum.inl ∧ ∀ k ∈ ks, 0 < f k
  | [], _ => ⟨[], rfl, fun _ h => absurd h List.not_mem_nil⟩
  | p :: kvs, h => by
    obtain ⟨k, h1, h2⟩ := h p List.mem_cons_self
    obtain ⟨ks, h3, h4⟩ := keys_inl fun q hq => h q (List.mem_cons_of_mem _ hq)
    refine ⟨k :: ks, ?_, List.forall_mem_cons.mpr ⟨h2, h4⟩⟩
    rw [List.map_cons, h1, h3]
    rfl
theorem valV_mem {kvs : List (Key × V)} {k : Key} {v : V} (h : valV kvs k = some v) : k ∈ kvs.map (·.1) := by
  unfold valV at h
  cases e : kvs.find? fun kv => decide (kv.1 = k) with
  | none => rw [e] at h; cases h
  | some p =>
    have h1 := List.find?_some e
    have h2 := List.mem_of_find?_eq_some e
    exact List.mem_map.mpr ⟨p, h2, by simpa using h1⟩
/-- the greatest that is counted -/
theorem c_maxD {d : Addr} {f : Nat → Nat} {n j0 : Nat} (h : CntD H d f n) (h0 : 0 < f j0) (k : ∀ m : Nat, 0 < f m → (∀ j, 0 < f j → j ≤ m) → Q (.int ((m : Nat) : Int)) H) : kC rMaxK [.ref d] H Q := fun H1 e _ q => by
  obtain ⟨kvs, h1, h2, h3, h4⟩ := h.ex
  obtain ⟨ks, h5, h6⟩ := keys_inl h4
  have hall : ∀ j, 0 < f j → ((j : Nat) : Int) ∈ nI ks := fun j hj => by
    have z := h3 j
    rw [if_neg (by omega)] at z
    have z2 := valV_mem z
    rw [h5] at z2
    obtain ⟨y, hy, ey⟩ := List.mem_map.mp z2
    cases ey
    exact hy
  refine ⟨d, kvs, nI ks, rfl, e _ _ h1, h5, List.length_pos_of_mem (hall j0 h0), fun m hm hy => ?_⟩
  obtain ⟨m', h7, rfl⟩ := List.mem_map.mp hm
  refine q _ _ _ (k m' (h6 m' h7) fun j hj => ?_) e
  have := hy _ (hall j hj)
  omega
theorem units_of {k : Nat} {A : Around} (r : Room k A) : A.units + 1 < cLine := by
  have := r.un
  omega
end Lg

/-! En: enumerate of a tuple. -/
namespace Lg
open PySem PySem.Spec PyProof.Rows L2
open Sem (wp)
open AutoSeq1 (wpAny_loadPart')
theorem meets_enumT (l : Addr) (items : Array Value) (n : Nat) (dct : Option Addr) (sl : Array (Option Value)) :
    Meets (Builtin.«enumerate.__new__» ⟨[.type "enumerate", .ref l], []⟩) (fun _ R s => s.heap.get? l = some { cls := .type "tuple", dict := dct, data := .seq items n, slots := sl } ∧
      R (.ok (.ret (.ref (s.heap.push { cls := .type "tuple_iterator", data := .fields #[.ref l, .int 0 0] }).objs.size)))
        { s with heap := (s.heap.push { cls := .type "tuple_iterator", data := .fields #[.ref l, .int 0 0] }).push { cls := .type "enumerate", data := .fields #[.none, .bool false, .ref s.heap.objs.size, rawInt 0, .none, .none] } }) :=
  .of_wp fun prog w A R s h => by
    obtain ⟨hp, g, d, tk, os⟩ := s; obtain ⟨hl, h⟩ := h
    have hsub := sub_enumerate
    have hL : Heap.IsTuple (Shared.heap ⟨hp, g, d, tk, os⟩) l items := ⟨_, hl, rfl, n, rfl⟩
    wp_walk using wpAny_loadPart' hl
    refine wpAny_stack_any fun st => wpAny_pure ?_
    split
    · rename_i c _ _ _ _ _
      cases (c == Value.type "enumerate")
      · wp_walk using wpAny_loadPart' hl, wpAny_pyIter_tuple hL
        exact ⟨_, rfl, h⟩
      · wp_walk using wpAny_loadPart' hl, wpAny_pyIter_tuple hL
        exact ⟨_, rfl, h⟩
    · wp_walk using wpAny_loadPart' hl, wpAny_pyIter_tuple hL
      exact ⟨_, rfl, h⟩
section
variable {prog : Program} {w : World} {A : Around} {E : Value → Shared → Prop} {s : Shared}
theorem call_enumT {l : Addr} {items : Array Value} {Q : Value → Shared → Prop} (hL : s.heap.IsTuple l items)
    (h : ∀ h', IsEnum h' (s.heap.objs.size + 1) s.heap.objs.size 0 .none → h'.IsTupleIter s.heap.objs.size l 0 → h'.objs.size = s.heap.objs.size + 2 →
      (∀ b o, s.heap.get? b = some o → h'.get? b = some o) → Q (.ref (s.heap.objs.size + 1)) { s with heap := h' }) :
    wpAny (model prog w) A (call (.type "enumerate") [.ref l]) Q E s := by
  obtain ⟨⟨c, dct, dt, sl⟩, hl, hc, n, hd⟩ := hL
  replace hc : c = .type "tuple" := hc
  replace hd : dt = .seq items n := hd
  subst hc hd
  refine callType_new F.called_enumerate (by decide) (F.typeCall_enumerate_1 _) (F.newCall_enumerate_1 _) (fun obj => F.args_object_init_2 obj _) F.entry_enumerate_new
    (meets_enumT l items n dct sl) ⟨hl, ?_⟩
  have hz : (s.heap.push { cls := .type "tuple_iterator", data := .fields #[.ref l, .int 0 0] }).objs.size = s.heap.objs.size + 1 := Heap.size_push ..
  show _ ∧ _
  rw [hz]
  have he : IsEnum ((s.heap.push { cls := .type "tuple_iterator", data := .fields #[.ref l, .int 0 0] }).push
      { cls := .type "enumerate", data := .fields #[.none, .bool false, .ref s.heap.objs.size, rawInt 0, .none, .none] }) (s.heap.objs.size + 1) s.heap.objs.size 0 .none := by
    have := Heap.get?_push_size (s.heap.push { cls := .type "tuple_iterator", data := .fields #[.ref l, .int 0 0] })
      (o := { cls := .type "enumerate", data := .fields #[.none, .bool false, .ref s.heap.objs.size, rawInt 0, .none, .none] }) rfl
    rw [hz] at this; exact this
  refine ⟨⟨_, he, rfl⟩, h _ he ⟨_, Heap.get?_push_of_some _ (Heap.get?_push_size _ rfl), rfl, rfl⟩ (by rw [Heap.size_push, hz]) fun b o x => Heap.get?_push_of_some _ (Heap.get?_push_of_some _ x)⟩
end
/-- the tuple at a, its items in new pairs with their numbers -/
def IteT (K : PySem.W.Frag) (a : Addr) : It :=
  ⟨fun i H => ∃ (xs : List V) (x : V), SqT K H a xs ∧ xs[i]? = some x,
    fun i H v H' => ∃ T x, v = .ref T ∧ H T = none ∧ H' = upd H T (.tup [.int (i : Nat), x]) ∧ ∀ xs, SqT K H a xs → xs[i]? = some x,
    fun i H => ∃ xs : List V, SqT K H a xs ∧ xs.length ≤ i⟩
theorem turn_enumT {P : Program} {w : World} {K : PySem.W.Frag} {elts : List Expr} {kk : Nat} {tpos : Pos} (a e it : Addr) :
    Turn P w K (.Tuple elts kk tpos) (IteT K a) [e, it] e (fun i h => (∃ old, IsEnum h e it (i : Nat) old) ∧ h.IsTupleIter it a i ∧ e ≠ it) where
  mem := by simp
  obj := fun i h st b hb => by
    obtain ⟨⟨old, he⟩, ⟨o, ho, _, hd⟩, hne⟩ := st
    have e' : b = e ∨ b = it := by simpa using hb
    rcases e' with z | z
    · rw [z]; exact ⟨_, he, fun v q => nomatch q⟩
    · rw [z]; exact ⟨o, ho, fun v q => by rw [hd] at q; cases q⟩
  keep := fun i h h' st k => let ⟨⟨old, he⟩, hi, hne⟩ := st; ⟨⟨old, k e (by simp) _ he⟩, hi.at fun o q => k it (by simp) o q, hne⟩
  item := by
    intro X hP hw hK hc i pins s σ H E I hf st hg
    subst hP hw hK
    obtain ⟨⟨old, he⟩, hit, hne⟩ := st
    obtain ⟨xs, x, hq, hx⟩ := hg
    obtain ⟨its, rv, p, hz⟩ := I.tuple hq
    obtain ⟨u, hu, ru⟩ := rv.get hx
    have hel : e < s.heap.objs.size := Heap.lt_size he
    have hil : it < s.heap.objs.size := by obtain ⟨_, q, _⟩ := hit; exact Heap.lt_size q
    have hpt : s.heap.IsTuple a its.toArray := p
    have hat : a ≠ it := fun z => by
      obtain ⟨o1, e1, c1, _⟩ := hit
      obtain ⟨o2, e2, c2, _⟩ := hpt
      rw [z, e1] at e2
      have e3 := Option.some.inj e2
      rw [← e3, c1] at c2
      exact absurd (Value.type.inj c2) (by decide)
    have hae : a ≠ e := fun z => by
      obtain ⟨o2, e2, c2, _⟩ := hpt
      rw [z] at e2
      have e3 := Option.some.inj (he.symm.trans e2)
      rw [← e3] at c2
      exact absurd (Value.type.inj c2) (by decide)
    have hil2 : i < its.length := by
      have := (List.getElem?_eq_some_iff.mp hx).1
      have hl := rv.length
      omega
    refine wpAny_pyNext_enum_itemD (Draws.tuple (A := X.A.in1) (show X.A.in1.handled = none from I.ok.hd hc) it a hat its.toArray) he ⟨hit, hpt⟩ (by simpa using hil2) hne (by simp [hne, Ne.symm hae]) fun u2 h' tk hu2 ho hst hT hsz hk => ?_
    have eu : u2 = u := by
      have z : its[i]? = some u2 := by simpa using hu2
      rw [hu] at z
      exact (Option.some.inj z).symm
    subst eu
    refine ⟨_, rfl, wpAny_letOwnedTupleGo_enum (s := { s with heap := h', toks := tk + 1 }) ho fun h'' he' sb => ?_⟩
    have hT2 : h''.get? s.heap.objs.size = some { cls := .type "tuple", data := .seq #[.int i tk, u2] } := (sb.2 _ (Nat.ne_of_gt hel)).trans hT
    have new : ObjOk X.prog X.w (upd H s.heap.objs.size (.tup [.int (i : Nat), x])) h'' s.heap.objs.size (.tup [.int (i : Nat), x]) :=
      ⟨by show 2 ≤ sizeLine; decide, [.int i tk, u2], .cons ⟨_, rfl⟩ (.cons ru .nil), ⟨_, hT2, rfl, _, rfl⟩⟩
    have I1 : Inv X pins σ (upd H s.heap.objs.size (.tup [.int (i : Nat), x])) { s with heap := h'', toks := tk + 1 } :=
      I.turnedNew (ch := [e, it]) (fun b ob hb q => (sb.2 b (fun z => hb (by simp [z]))).trans (hk b ob (fun z => hb (by simp [z])) (fun z => hb (by simp [z])) q)) hf (Nat.le_refl _) new
    refine ⟨.ref s.heap.objs.size, _, I1, rfl, ⟨_, x, rfl, I.hok.fresh (Nat.le_refl _), rfl, fun ys hy => by rw [I.tuple_inj hy hq]; exact hx⟩, ⟨⟨u2, ?_⟩, hst.1.at fun o q => (sb.2 it (Ne.symm hne)).trans q, hne⟩, fun b hb => ?_⟩
    · have e1 : ((i + 1 : Nat) : Int) = (i : Int) + 1 := by omega
      rw [e1]; exact he'
    · have hb' : b < s.heap.objs.size := by
        have e' : b = e ∨ b = it := by simpa using hb
        rcases e' with z | z
        · rw [z]; exact hel
        · rw [z]; exact hil
      rw [upd_ne (Nat.ne_of_lt hb')]
      exact (hf b hb).1
  done := by
    intro X hP hw hK hc i pins s σ H E I hf st hg
    subst hP hw hK
    obtain ⟨⟨old, he⟩, hit, hne⟩ := st
    obtain ⟨xs, hq, hx⟩ := hg
    obtain ⟨its, rv, p, hz⟩ := I.tuple hq
    have hpt : s.heap.IsTuple a its.toArray := p
    obtain ⟨f0, f1, f2, f3, f4, f5⟩ := hf it (by simp)
    have hl := rv.length
    have hT : s.TypeIs (.ref e) "enumerate" := ⟨_, he, rfl⟩
    unfold pyNext
    refine wpAny_bind (wpAny_attempt (wpAny_callSpecial?_slot (name := Str.ofString "__next__") hT F.slot_enumerate_next
      (wpAny_call_entry F.slot_enumerate_next hT F.entry_enumerate_next ?_ (F.args_enumerate_next_1 _))))
    show wpAny _ _ (field (.ref e) 2 >>= _) _ _ _
    refine wpAny_bind (wpAny_field he rfl (x := .ref it) rfl ?_)
    refine wpAny_bind (wpAny_nextOf_tuple_end (A := X.A.in1) (show X.A.in1.handled = none from I.ok.hd hc) hit hpt (by simp; omega) fun h' x eb hx' => ?_)
    obtain ⟨o, ho, hc2⟩ := hx'
    refine wpAny_bind (wpAny_isInstance (T := "StopIteration") (b := true) ⟨o, ho, hc2⟩ isSubtype_stop ?_)
    exact wpAny_pure ⟨rfl, I.turned (t' := s.toks) (fun b o hb q => eb b o hb q) f0 f1 f3 f4 f5⟩
  self := fun A i s Q E st h => let ⟨⟨_, he⟩, _⟩ := st; wpAny_pyIter_enum he h
def iEnumT (K : PySem.W.Frag) (ta : TA) : TI := fun σ H R => ta σ H fun vs H1 => ∃ a xs, vs = [.ref a] ∧ SqT K H1 a xs ∧ R (IteT K a) H1
/-- over a list, or over a tuple -/
def iEnumA (K : PySem.W.Frag) (ta : TA) : TI := fun σ H R => ta σ H fun vs H1 => ∃ a xs, vs = [.ref a] ∧ ((SqL K H1 a xs ∧ R (Ite K a) H1) ∨ (SqT K H1 a xs ∧ R (IteT K a) H1))
theorem pi_enumA {X : Cx} {e : Expr} {ta : TA} {p pos tpos : Pos} {elts : List Expr} {kk : Nat} (hg : Gl X "enumerate") (hm : X.mg "enumerate" = none) (ha : PA X [e] ta) (hs : starEach [e] X.env = [(false, eval e X.env)] := by rfl) :
    PI X (.Tuple elts kk tpos) (.Call (.Name "enumerate" p) [e] [] pos) (iEnumA X.K ta) := by
  refine ⟨fun pins s σ H R I h => ?_⟩
  refine Call_ (ld_blt I hg hm boot_enumerate (PyProof.Rows.callWith_type1 (thn (ha.run pos pins s σ H _ I h) fun us s1 ⟨vs, H1, I1, r1, q1⟩ => ?_) hs rfl))
  obtain ⟨a, xs, ex, q⟩ := q1
  subst ex
  cases r1 with
  | cons r rr =>
    cases rr
    cases r
    have hb : ∀ b, b ∈ [s1.heap.objs.size + 1, s1.heap.objs.size] → FpOk X pins H1 b := fun b hb => by
      have e' : b = s1.heap.objs.size + 1 ∨ b = s1.heap.objs.size := by simpa using hb
      have hle : s1.heap.objs.size ≤ b := by
        rcases e' with z | z
        · rw [z]; exact Nat.le_add_right _ _
        · rw [z]; exact Nat.le_refl _
      exact I1.fpOk hle (I1.hok.fresh hle)
    rcases q with ⟨hq, q⟩ | ⟨hq, q⟩
    · obtain ⟨its, rv, p', hz⟩ := I1.list hq
      refine call_enumerate_list p'.isList fun h' he hit hsz hk => wpAny_pyIter_enum he ?_
      have I2 : Inv X pins σ H1 { s1 with heap := h' } := I1.kept (t' := s1.toks) hk
      exact ⟨s1.heap.objs.size + 1, [s1.heap.objs.size + 1, s1.heap.objs.size], _, _, H1, rfl, I2, turn_enum a (s1.heap.objs.size + 1) s1.heap.objs.size, ⟨⟨.none, he⟩, hit, Nat.succ_ne_self _⟩, hb, q⟩
    · obtain ⟨its, rv, p', hz⟩ := I1.tuple hq
      refine call_enumT (show s1.heap.IsTuple a its.toArray from p') fun h' he hit hsz hk => wpAny_pyIter_enum he ?_
      have I2 : Inv X pins σ H1 { s1 with heap := h' } := I1.kept (t' := s1.toks) hk
      exact ⟨s1.heap.objs.size + 1, [s1.heap.objs.size + 1, s1.heap.objs.size], _, _, H1, rfl, I2, turn_enumT a (s1.heap.objs.size + 1) s1.heap.objs.size, ⟨⟨.none, he⟩, hit, Nat.succ_ne_self _⟩, hb, q⟩
theorem walk_enumT {K : PySem.W.Frag} {a : Addr} {xs : List V} : Walk (IteT K a) xs.length (fun H => SqT K H a xs) (YPair (fun i => some (.int (i : Nat))) (fun i => xs[i]?)) := by
  refine ⟨fun i _ hi q => ⟨xs, xs[i], q, by simp [hi]⟩, fun _ q => ⟨xs, q, Nat.le_refl _⟩, fun i H v H' _ q y => ?_⟩
  obtain ⟨T, x, h1, h2, h3, h4⟩ := y
  exact ⟨T, .int (i : Nat), x, h1, h2, h3, rfl, h4 xs q⟩
theorem i_enumA {K : PySem.W.Frag} {t : TA} {σ : Sg} {H : Hp} {QI : PI'} (k : kA t σ H fun vs H1 => ∃ a xs Hb, vs = [.ref a] ∧ Ex Hb H1 ∧ (SqL K Hb a xs ∨ SqT K Hb a xs) ∧ ∀ G : Hp → Prop, (∀ H', Ex Hb H' → G H') → QI xs.length G (yPair (fun i => some (.int (i : Nat))) (fun i => xs[i]?)) H1) : kI (iEnumA K t) σ H QI := fun H1 e R r => k H1 e _ fun v H0 H2 ⟨a, xs, Hb, ev, eb, hs, q⟩ e2 => by
  refine ⟨a, xs, ev, ?_⟩
  rcases hs with hs | hs
  · exact .inl ⟨(eb.tr e2).sl hs, r _ _ _ _ H0 H2 (.ofPair walk_enum (fun _ _ e h => e.sl h)) (q _ fun H' e' => e'.sl hs) e2⟩
  · exact .inr ⟨(eb.tr e2).st hs, r _ _ _ _ H0 H2 (.ofPair walk_enumT (fun _ _ e h => e.st h)) (q _ fun H' e' => e'.st hs) e2⟩
end Lg

namespace Lg
open PySem PySem.Spec PyProof.Rows L2 L2H LgH
local macro_rules | `(tactic| k_memK) => `(tactic| first
  | with_reducible assumption
  | with_reducible exact SqT.of upd_same
  | with_reducible exact SqL.of upd_same
  | with_reducible exact upd_same
  | ((with_reducible refine' st_new ?k1 ?k2); (case k1 => with_reducible assumption); (case k2 => k_memK))
  | ((with_reducible refine' sl_new ?k1 ?k2); (case k1 => with_reducible assumption); (case k2 => k_memK))
  | ((with_reducible refine' at_new ?k1 ?k2); (case k1 => with_reducible assumption); (case k2 => k_memK))
  | (with_reducible refine' SqT.of ?k1); (case k1 => k_memK)
  | ((with_reducible refine' SqL.of ?k1); (case k1 => k_memK))
  | ((with_reducible refine' Ex.get ?k1 ?k2); (case k2 => with_reducible assumption); (case k1 => k_offL))
  | ((with_reducible refine' Ex.sl ?k1 ?k2); (case k2 => with_reducible assumption); (case k1 => k_offL))
  | ((with_reducible refine' Ex.st ?k1 ?k2); (case k2 => with_reducible assumption); (case k1 => k_offL)))
local macro_rules | `(tactic| k_allIn) => `(tactic| first | with_reducible assumption | with_reducible exact mulxR (by decide) (by decide) | with_reducible exact cdivL (by decide) (by decide) | with_reducible exact cdivL (by omega) (by omega) | with_reducible exact mulxL (by decide) (by decide) | with_reducible exact mulxR (by omega) (by omega) | with_reducible exact mulxL (by omega) (by omega) | omega | decide)
local macro_rules | `(tactic| k_ownIn) => `(tactic| first
  | with_reducible exact Ty5.int _ | with_reducible exact Ty5.bl _ | with_reducible exact Ty5.non | with_reducible exact Ty5.str _ | with_reducible assumption
  | ((with_reducible refine' Ty5.lst (xs := ?k2) ?k1); (case k1 => k_memK)) | ((with_reducible refine' Ty5.tup (xs := ?k2) ?k1); (case k1 => k_memK))
  | ((with_reducible refine' Ty5.up (IsT.ty ?k1) ?k2); (case k1 => with_reducible assumption); (case k2 => k_offL))
  | ((with_reducible refine' Ty5.up ?k1 ?k2); (case k1 => with_reducible assumption); (case k2 => k_offL))
  | with_reducible exact IsT.int _ | with_reducible exact IsT.bl _ | with_reducible exact IsT.non | with_reducible exact IsT.str _
  | ((with_reducible refine' IsT.up ?k2 ?k1); (case k1 => with_reducible assumption); (case k2 => k_offL))
  | ((with_reducible refine' IsT.up ?k2 (IsRl.th ?k1)); (case k1 => with_reducible assumption); (case k2 => k_offL))
  | ((with_reducible refine' IsRl.up ?k2 ?k1); (case k1 => with_reducible assumption); (case k2 => k_offL))
  | with_reducible exact IsTs.nil | with_reducible exact isTs_rep _
  | ((with_reducible refine' IsTs.cons ?k1 ?k2); (case k1 => k_ownIn); (case k2 => k_ownIn))
  | ((with_reducible refine' IsT.lst (vs := ?k2) ?k1); (case k1 => k_memK))
  | ((with_reducible refine' IsT.tup (vs := ?k2) ?k1 ?k3); (case k1 => k_memK); (case k3 => k_ownIn)))
local macro_rules | `(tactic| k_places) => `(tactic| first
  | ((with_reducible refine' e_var ?k1 ?_); (case k1 => rfl))
  | (with_reducible refine' e_c ?_)
  | (with_reducible refine' e_op ?_)
  | (with_reducible refine' a_cons ?_)
  | (with_reducible refine' a_nil ?_)
  | (with_reducible refine' r_I0 ?_)
  | (with_reducible refine' s_seq ?_)
  | (with_reducible refine' s_asg ?_)
  | (with_reducible refine' t_test ?_)
  | (with_reducible refine' t_not ?_)
  | (with_reducible refine' t_B ?_)
  | (with_reducible refine ⟨_, rfl, ?_⟩)
  | (with_reducible refine' r_eqI ?_)
  | (with_reducible refine' r_neI ?_)
  | (with_reducible refine' e_call ?_)
  | (with_reducible refine' e_cb ?_)
  | (with_reducible refine' s_if ?_)
  | (with_reducible refine' s_ret ?_)
  | (with_reducible refine' r_p16 ?_) | (with_reducible refine' r_p20 ?_) | (with_reducible refine' r_p24 ?_) | (with_reducible refine' r_p30 ?_) | (with_reducible refine' r_p40 ?_) | (with_reducible refine' r_p46 ?_) | (with_reducible refine' r_p50 ?_)
  | (with_reducible refine' s_next ?_)
  | ((with_reducible refine' r_I ?k1 ?_); (case k1 => k_allIn))
  | (refine ⟨fun h => Bool.noConfusion h, fun _ => ?_⟩)
  | (refine ⟨fun _ => ?_, fun h => Bool.noConfusion h⟩)
  | ((with_reducible refine' r_ixT ?k1 ?k2 ?_); (case k1 => k_memK); (case k2 => rfl))
  | ((with_reducible refine' r_ixL ?k1 ?k2 ?_); (case k1 => k_memK); (case k2 => rfl))
  | ((with_reducible refine' r_eq ?k1 ?_); (case k1 => rfl))
  | ((with_reducible refine' r_ne ?k1 ?_); (case k1 => rfl))
  | (with_reducible refine' e_un ?_) | (with_reducible refine' u_U ?_)
  | (with_reducible refine' e_tup ?_) | (with_reducible refine' e_lst ?_)
  | (with_reducible refine' ⟨szl (Nat.le_of_ble_eq_true rfl), fun _ _ => ?_⟩)
  | (with_reducible refine' e_if ?_) | (with_reducible refine' e_andV ?_) | (with_reducible refine' e_orV ?_) | (with_reducible refine' e_notV ?_) | (with_reducible refine' e_chain ?_)
  | (with_reducible refine' t_and ?_) | (with_reducible refine' t_or ?_)
  | (with_reducible refine' s_drop ?_) | (with_reducible refine' s_brk ?_) | (with_reducible refine' s_cont ?_) | (with_reducible refine' s_par ?_)
  | (with_reducible refine ⟨_, _, rfl, ?_⟩)
  | (with_reducible refine' c_abs ?_) | (with_reducible refine' c_max2 ?_) | (with_reducible refine' c_min2 ?_)
  | ((with_reducible refine' c_lenL ?k1 ?_); (case k1 => k_memK)) | ((with_reducible refine' c_lenT ?k1 ?_); (case k1 => k_memK))
  | ((with_reducible refine' r_cat ?k1 ?k2 ?k3 (fun _ _ => ?_)); (case k1 => k_memK); (case k2 => k_memK); (case k3 => with_reducible exact szl (Nat.le_of_ble_eq_true rfl)))
  | (with_reducible refine' e_bm ?_)
  | ((with_reducible refine ⟨_, ?k0, rfl, ?k1, ?_⟩); (case k1 => k_memK))
  | ((with_reducible refine' m_append ?k1 ?k2 ?_); (case k1 => k_memK); (case k2 => first | with_reducible exact Nat.le_of_ble_eq_true rfl | omega))
  | (with_reducible refine' c_int1 ?_) | (with_reducible refine' c_intB ?_)
  | ((with_reducible refine' c_listL ?k1 (fun _ _ => ?_)); (case k1 => k_memK)) | ((with_reducible refine' c_tupL ?k1 (fun _ _ => ?_)); (case k1 => k_memK))
  | ((with_reducible refine' r_inT ?k1 ?k2 ?k3 ?_); (case k1 => k_memK); (case k2 => rfl); (case k3 => rfl)) | ((with_reducible refine' r_ninT ?k1 ?k2 ?k3 ?_); (case k1 => k_memK); (case k2 => rfl); (case k3 => rfl))
  | (with_reducible refine' s_retN ?_) | (with_reducible refine' e_slL ?_) | (with_reducible refine' o_no ?_) | (with_reducible refine' o_part ?_)
  | ((with_reducible refine' c_tupL ?k1 (fun _ _ => ?_)); (case k1 => k_memK))
  | (with_reducible refine' t_yes ?_) | (with_reducible refine' e_dnew fun _ _ => ?_) | (with_reducible refine' i_enumA ?_) | (with_reducible refine' r_notNon ?_) | (with_reducible refine' r_notInt ?_)
  | (with_reducible refine' i_rng1 ?_) | (with_reducible refine' i_rng2 ?_) | (with_reducible refine' i_list ?_) | (with_reducible refine' i_tup ?_) | (with_reducible refine' i_enum ?_) | (with_reducible refine' i_zip ?_)
  | ((with_reducible refine' c_isi ?k1 ?k2 ?_); (case k1 => k_ownIn); (case k2 => first | with_reducible exact kb_int_int | with_reducible exact kb_int_bool | with_reducible exact kb_int_tuple | with_reducible exact kb_int_list | with_reducible exact kb_bool_int | with_reducible exact kb_bool_bool | with_reducible exact kb_bool_tuple | with_reducible exact kb_bool_list | with_reducible exact kb_NoneType_int | with_reducible exact kb_NoneType_bool | with_reducible exact kb_NoneType_tuple | with_reducible exact kb_NoneType_list | with_reducible exact kb_str_int | with_reducible exact kb_str_bool | with_reducible exact kb_str_tuple | with_reducible exact kb_str_list | with_reducible exact kb_list_int | with_reducible exact kb_list_bool | with_reducible exact kb_list_tuple | with_reducible exact kb_list_list | with_reducible exact kb_tuple_int | with_reducible exact kb_tuple_bool | with_reducible exact kb_tuple_tuple | with_reducible exact kb_tuple_list))
  | (with_reducible refine' s_asgG ?_) | (with_reducible refine' g_name ?_) | (with_reducible refine' g_cons ?_) | (with_reducible refine' g_nil ?_)
  | ((with_reducible refine' g_tup ?k1 ?k2 ?_); (case k1 => k_memK); (case k2 => rfl))
  | (with_reducible refine' s_asgG ?_))
local macro_rules | `(tactic| k_clsL) => `(tactic| repeat k_places)
local macro_rules | `(tactic| k_offL) => `(tactic| first
  | with_reducible assumption | with_reducible exact Ex.rf
  | ((with_reducible refine' Ex.newr ?k1 ?k2); (case k2 => with_reducible assumption); (case k1 => k_offL))
  | ((with_reducible refine' Ex.mutr ?k1 ?k2); (case k2 => k_offL); (case k1 => k_offL))
  | ((with_reducible refine' Ex.tr ?k1 ?k2); (case k1 => with_reducible assumption); (case k2 => k_offL))
  | ((with_reducible refine' Ex.fresh ?k1 ?k2); (case k2 => with_reducible assumption); (case k1 => k_offL)))
def topS (i : Nat) : Stmt := PySem.Challenge.pw_strewn_k40_spread.main.body.getD i (.Pass ⟨0, 0, 0, 0⟩)
/-! ### fractions of naturals -/
def fr (a b : Nat) : Nat × Nat := (a / Nat.gcd a b, b / Nat.gcd a b)
theorem fr_pos {a b : Nat} (h : 0 < b) : 0 < (fr a b).2 := Nat.div_pos (Nat.le_of_dvd h (Nat.gcd_dvd_right a b)) (Nat.gcd_pos_of_pos_right a h)
theorem fr_le1 (a b : Nat) : (fr a b).1 ≤ a := Nat.div_le_self _ _
theorem fr_le2 (a b : Nat) : (fr a b).2 ≤ b := Nat.div_le_self _ _
theorem gcd_turn (m n : Nat) : Nat.gcd n (m % n) = Nat.gcd m n := by
  rw [Nat.gcd_comm n (m % n), ← Nat.gcd_rec n m, Nat.gcd_comm]
def plusN (x y : Nat × Nat) : Nat × Nat := fr (x.1 * y.2 + y.1 * x.2) (x.2 * y.2)
def timesN (x y : Nat × Nat) : Nat × Nat := fr (x.1 * y.1) (x.2 * y.2)
def halfN (x : Nat × Nat) : Nat × Nat := fr (x.1 + x.2) (2 * x.2)
/-- what is small enough -/
def big : Nat := 2 ^ 1000
/-! ### the averages, by naturals -/
def stF (s m w : Nat) : Nat → (Nat × Nat) × (Nat × Nat)
  | 0 => ((0, 1), (1, 1))
  | i + 1 => (plusN (stF s m w i).1 (timesN (stF s m w i).2 (1 + w * i, 1)), timesN (stF s m w i).2 (m - i, s))
def fallN (s m w : Nat) : Nat × Nat := (stF s m w (m + 1)).1
def hitN (s m : Nat) : Nat × Nat := halfN (fallN s (m - 1) 0)
def missN (s m : Nat) : Nat × Nat := halfN (fallN s m 1)
/-- a fraction of bounded size -/
def okP (x : Nat × Nat) : Bool := decide (x.1 < big) && decide (x.2 < big) && decide (0 < x.2)
def okSt (s m w i : Nat) : Bool := okP (stF s m w i).1 && okP (stF s m w i).2 && okP (timesN (stF s m w i).2 (1 + w * i, 1))
def okF (s m w : Nat) : Bool := (List.range (m + 2)).all (okSt s m w)
theorem okP_iff {x : Nat × Nat} (h : okP x = true) : x.1 < big ∧ x.2 < big ∧ 0 < x.2 := by
  unfold okP at h
  simp only [Bool.and_eq_true, decide_eq_true_eq] at h
  exact ⟨h.1.1, h.1.2, h.2⟩
theorem okF_at {s m w i : Nat} (h : okF s m w = true) (hi : i ≤ m + 1) : okP (stF s m w i).1 = true ∧ okP (stF s m w i).2 = true ∧ okP (timesN (stF s m w i).2 (1 + w * i, 1)) = true := by
  have h1 := List.all_eq_true.mp h i (List.mem_range.mpr (by omega))
  unfold okSt at h1
  simp only [Bool.and_eq_true] at h1
  exact ⟨h1.1.1, h1.1.2, h1.2⟩
/-! ### k40: scatterings laid -/
def prb (free : Nat → Bool) (size : Nat) : Nat → Nat → Nat
  | 0, p => p
  | k + 1, p => if free p then p else prb free size k ((p + 1) % size)
/-- how many steps it goes -/
def stp (free : Nat → Bool) (size : Nat) : Nat → Nat → Nat
  | 0, _ => 0
  | k + 1, p => if free p then 0 else stp free size k ((p + 1) % size) + 1
def frO (l : List (Option Nat)) (p : Nat) : Bool := (l.getD p none).isNone
def laidI (size : Nat) (homes : List Nat) : Nat → List (Option Nat)
  | 0 => List.replicate size none
  | i + 1 => (laidI size homes i).set (prb (frO (laidI size homes i)) size size (homes.getD i 0)) (some i)
def wayAt (size : Nat) (homes : List Nat) (place : Nat) : Option Nat → Nat
  | none => 0
  | some n => (place + size - homes.getD n 0) % size
def wayS (size : Nat) (homes : List Nat) (l : List (Option Nat)) : Nat → Nat
  | 0 => 0
  | p + 1 => wayS size homes l p + wayAt size homes p (l.getD p none)
def wayN (size : Nat) (homes : List Nat) : Nat := wayS size homes (laidI size homes homes.length) size
def scatN (size : Nat) : Nat → List (List Nat)
  | 0 => [[]]
  | m + 1 => (scatN size m).flatMap fun one => (List.range size).map fun p => one ++ [p]
/-- the law's going: places taken, ways, what is left of the number -/
def frB (l : List Bool) (p : Nat) : Bool := !(l.getD p false)
def gonI (size number : Nat) : Nat → List Bool × Nat × Nat
  | 0 => (List.replicate size false, 0, number)
  | j + 1 =>
    let s := gonI size number j
    (s.1.set (prb (frB s.1) size size (s.2.2 % size)) true, s.2.1 + stp (frB s.1) size size (s.2.2 % size), s.2.2 / size)
def lookS (size : Nat) (l : List Bool) : Nat → Nat
  | 0 => 0
  | b + 1 => lookS size l b + 1 + stp (frB l) size size b
def farN (size m number : Nat) : Nat := (gonI size number m).2.1
def lookN (size m number : Nat) : Nat := lookS size (gonI size number m).1 size
def cntRg (p : Nat → Bool) : Nat → Nat
  | 0 => 0
  | n + 1 => cntRg p n + (if p n then 1 else 0)
def sumRg (f : Nat → Nat) : Nat → Nat
  | 0 => 0
  | n + 1 => sumRg f n + f n
def cntP (s m f : Nat) : Nat := (scatN s m).countP fun h => wayN s h == f
def cntL (s m f : Nat) : Nat := cntRg (fun n => farN s m n == f) (s ^ m)
def pairs40 : List (Nat × Nat) := [(2, 1), (3, 2), (4, 3), (5, 4), (6, 4), (7, 3), (32, 2), (9, 3)]
set_option maxRecDepth 1000000 in
theorem k40_all : ∀ p ∈ pairs40, ∀ m ∈ List.range (p.2 + 1), ((scatN p.1 m).all fun h => decide (wayN p.1 h < 8)) = true ∧ (∀ f ∈ List.range 8, cntP p.1 m f = cntL p.1 m f) := by decide +kernel
set_option maxRecDepth 1000000 in
theorem k40_far : ∀ p ∈ pairs40, ∀ m ∈ List.range (p.2 + 1), cntRg (fun n => decide (8 ≤ farN p.1 m n)) (p.1 ^ m) = 0 := by decide +kernel
def lookT (s m : Nat) : Nat := sumRg (lookN s m) (s ^ m)
def cntl (s m M : Nat) : List Nat := (List.range (M + 1)).map fun f => cntL s m f
set_option maxRecDepth 1000000 in
theorem k40_sums : ∀ p ∈ pairs40, ∀ m ∈ List.range (p.2 + 1), okF p.1 m 1 = true ∧ okP (fallN p.1 m 1) = true ∧ missN p.1 m = fr (lookT p.1 m) (p.1 ^ m * p.1) ∧
    (0 < m → okF p.1 (m - 1) 0 = true ∧ okP (fallN p.1 (m - 1) 0) = true) ∧
    ∀ M ∈ List.range 8, 0 < cntL p.1 m M → (∀ j ∈ List.range 8, 0 < cntL p.1 m j → j ≤ M) → (cntl p.1 m M).sum = p.1 ^ m ∧ (0 < m → hitN p.1 m = fr (((List.range (M + 1)).map fun f => f * cntL p.1 m f).sum + p.1 ^ m * m) (p.1 ^ m * m)) := by decide +kernel
theorem prb_lt {free : Nat → Bool} {size : Nat} (h : 0 < size) : ∀ k p, p < size → prb free size k p < size
  | 0, p, hp => hp
  | k + 1, p, hp => by
    unfold prb
    split
    · exact hp
    · exact prb_lt h k _ (Nat.mod_lt _ h)
theorem prb_free {free : Nat → Bool} {size : Nat} : ∀ k p, p < size → (∃ d, d ≤ k ∧ free ((p + d) % size) = true) → free (prb free size k p) = true
  | 0, p, hp, ⟨d, hd, hf⟩ => by
    rw [Nat.le_zero.mp hd, Nat.add_zero, Nat.mod_eq_of_lt hp] at hf
    exact hf
  | k + 1, p, hp, ⟨d, hd, hf⟩ => by
    unfold prb
    split
    · assumption
    · rename_i hn
      cases d with
      | zero =>
        rw [Nat.add_zero, Nat.mod_eq_of_lt hp] at hf
        exact absurd hf hn
      | succ d =>
        refine prb_free k _ (Nat.mod_lt _ (by omega)) ⟨d, by omega, ?_⟩
        rw [Nat.mod_add_mod, show p + 1 + d = p + (d + 1) by omega]
        exact hf
theorem free_some {free : Nat → Bool} {size p : Nat} (hs : 0 < size) (occ : List Nat) (hn : occ.length < size) (ho : ∀ j, j < size → free j = false → j ∈ occ) : ∃ d, d ≤ size ∧ free ((p + d) % size) = true := by
  obtain ⟨d, h1, h2⟩ := free_at occ p size hn
  refine ⟨d, by omega, ?_⟩
  cases h : free ((p + d) % size) with
  | true => rfl
  | false => exact absurd (ho _ (Nat.mod_lt _ hs) h) h2
abbrev s__law_cell : Stmt := topS 30
abbrev s__law_drawn : Stmt := topS 31
abbrev s__law_gone : Stmt := topS 35
abbrev s__law_word : Stmt := topS 32
abbrev s_is_count : Stmt := topS 10
abbrev s_need_size : Stmt := topS 11
abbrev s_need_count : Stmt := topS 12
abbrev s_power : Stmt := topS 21
abbrev s_scatterings : Stmt := topS 22
abbrev s_laid : Stmt := topS 14
abbrev s_ways_of : Stmt := topS 23
abbrev s_spread : Stmt := topS 24
abbrev s_fraction : Stmt := topS 16
abbrev s_times : Stmt := topS 18
abbrev s_plus : Stmt := topS 17
abbrev s_falling : Stmt := topS 25
abbrev s_half : Stmt := topS 26
abbrev s_hit : Stmt := topS 27
abbrev s_miss : Stmt := topS 28
abbrev s__law_told : Stmt := topS 33
abbrev s__law_fraction : Stmt := topS 34
abbrev s_law : Stmt := topS 36
theorem sc__law_cell : FnScope ["_law_script", "_law_k"] ["_law_script", "_law_k"] (defScope s__law_cell) := ⟨rfl, rfl, rfl, by decide +kernel, rfl, by decide +kernel, by decide +kernel⟩
theorem sc__law_cell_v0 : (defScope s__law_cell).names.lookup ("_law_script" : Str) = some .local := by decide +kernel
theorem sc__law_cell_v1 : (defScope s__law_cell).names.lookup ("_law_k" : Str) = some .local := by decide +kernel
def t__law_cell (K : PySem.W.Frag) (cs : Cs) (E : XK) : TS :=
  (tSeq (tIfS (tTest (tOp (rEqD K) (tVar 0) (tLst tNil)))
  (tRet (tOp (rI IntMulOk fun i j => .int (i * j)) (tVar 1) (tC (.int 7919))))
  tNext)
  (tRet (tOp (rI0 fun i j => .int (i + j)) (tOp (rIxL K) (tVar 0) (tOp (rI (fun _ j => 0 < j) fun i j => .int (i % j)) (tVar 1) (tCB (fun xs H Q => ∃ p ys, xs = [V.ref p] ∧ (SqL K H p ys ∨ SqT K H p ys) ∧ Q (.int ys.length) H) (tCons (tVar 0) tNil)))) (tOp (rI IntMulOk fun i j => .int (i * j)) (tOp (rI CDivW fun i j => .int (i / j)) (tVar 1) (tCB (fun xs H Q => ∃ p ys, xs = [V.ref p] ∧ (SqL K H p ys ∨ SqT K H p ys) ∧ Q (.int ys.length) H) (tCons (tVar 0) tNil))) (tC (.int 104729))))))
def sp__law_cell (K : PySem.W.Frag) (_ : Cs) : Sp := fun vs H Q _ => ∃ (a : Addr) (ns : List Int) (k : Nat), vs = [.ref a, .int k] ∧ SqL K H a (ns.map V.int) ∧ ns.length ≤ 63 ∧ k < 1000 ∧ ∀ z : Int, upR Q (.int z) H
theorem c__law_cell {K : PySem.W.Frag} {cs : Cs} {H : Hp} {a : Addr} {ns : List Int} {k : Nat} {Q : PV} {E : XK} (h : SqL K H a (ns.map V.int)) (hl : ns.length ≤ 63) (hk : k < 1000) (q : ∀ z : Int, Q (.int z) H) : kC (fun ws H Q => sp__law_cell K cs ws H Q E) [.ref a, .int k] H Q :=
  fun H1 e _ qq => ⟨a, ns, k, rfl, e.sl h, hl, hk, fun z H2 e2 => qq _ _ _ (q z) (e.tr e2)⟩
local macro_rules | `(tactic| k_places) => `(tactic| ((with_reducible refine' c__law_cell ?k1 ?k2 ?k3 (fun _ => ?_)); (case k1 => k_memK); (case k2 => with_reducible assumption); (case k3 => omega)))
theorem pure__law_cell {K : PySem.W.Frag} {cs : Cs} {H : Hp} {vs : List V} {Q : VK} {E : XK} (h : sp__law_cell K cs vs H Q E) : t__law_cell K cs E { nx := fun _ H' => Q .non H', rt := Q } (start ["_law_script", "_law_k"] vs) H := by
  obtain ⟨a, ns, k, rfl, h, hl, hk, q⟩ := h
  refine fin (σ := [some (.ref a), some (.int k)]) ?_
  unfold t__law_cell
  k_clsL
  refine r_eqIs (ms := []) (by k_memK) (by k_memK) ?_
  k_clsL
  refine dec2 (fun h1 => ?_) (fun h1 => ?_)
  · k_clsL
    exact upX (q _) (by k_offL)
  · have h0 : 0 < ns.length := List.length_pos_iff.mpr h1
    have hn : (0 : Int) < (((ns.map V.int).length : Nat) : Int) := by rw [List.length_map]; omega
    have hd : CDivW (k : Int) (((ns.map V.int).length : Nat) : Int) := cdivL hn (by rw [List.length_map]; omega)
    have hi : k % (ns.map V.int).length < ns.length := by rw [List.length_map]; exact Nat.mod_lt _ h0
    k_clsL
    refine r_ixL (v := .int (ns[k % (ns.map V.int).length])) (by k_memK) (atI_mod (by rw [List.getElem?_map, List.getElem?_eq_getElem hi]; rfl)) ?_
    k_clsL
    exact upX (q _) (by k_offL)
theorem ok__law_cell {P : Program} {w : World} {K : PySem.W.Frag} {mg : Str → Option Value} {base : Heap} {cs : Cs} (D__law_cell : Dn K mg "_law_cell" s__law_cell ["_law_script", "_law_k"]) (m_len : mg "len" = none) :
    Cal P w K mg base (L2N.CX P w) 1 "_law_cell" ["_law_script", "_law_k"] (sp__law_cell K cs) := by
  refine cal_mk D__law_cell sc__law_cell (fun vs H Q E h => ?_) fun f cdv A outer s H vs Q E hr h => ⟨t__law_cell K cs E, ?_, pure__law_cell h⟩
  · unfold sp__law_cell at h
    first | (obtain ⟨rfl, _⟩ := h; rfl) | (obtain ⟨_, rfl, _⟩ := h; rfl) | (obtain ⟨_, _, rfl, _⟩ := h; rfl) | (obtain ⟨_, _, _, rfl, _⟩ := h; rfl) | (obtain ⟨_, _, _, _, rfl, _⟩ := h; rfl) | (obtain ⟨_, _, _, _, _, rfl, _⟩ := h; rfl) | (obtain ⟨_, _, _, _, _, _, rfl, _⟩ := h; rfl) | (obtain ⟨_, _, _, _, _, _, _, rfl, _⟩ := h; rfl) | (obtain ⟨_, _, _, _, _, _, _, _, rfl, _⟩ := h; rfl) | (obtain ⟨_, _, _, _, _, _, _, _, _, rfl, _⟩ := h; rfl) | (obtain ⟨_, _, _, _, _, _, _, _, _, _, rfl, _⟩ := h; rfl) | (obtain ⟨_, _, _, _, _, _, _, _, _, _, _, rfl, _⟩ := h; rfl) | (obtain ⟨_, _, _, _, _, _, _, _, _, _, _, _, rfl, _⟩ := h; rfl) | (obtain ⟨_, _, _, _, _, _, _, _, _, _, _, _, _, rfl, _⟩ := h; rfl) | (obtain ⟨_, _, _, _, _, _, _, _, _, _, _, _, _, _, rfl, _⟩ := h; rfl) | (obtain ⟨_, _, _, _, _, _, _, _, _, _, _, _, _, _, _, rfl, _⟩ := h; rfl)
  · exact (pss_cons (ps_if (pt_cmpR (op_eqD hr.units) (pv 0) (pe_lst pa_nil) (nomark _))
      (pss_one (ps_ret (pe_op op_mulX (pv 1) pe_int)))
      pss_nil)
      (pss_one (ps_ret (pe_op op_add (pe_ix ix_list (pv 0) (pe_op op_mod (pv 1) (pe_callB call_len_seq (by rfl) m_len (by decide +kernel) (pa_cons (pv 0) pa_nil))) (fun _ _ => rfl)) (pe_op op_mulX (pe_op op_fdivW (pv 1) (pe_callB call_len_seq (by rfl) m_len (by decide +kernel) (pa_cons (pv 0) pa_nil))) pe_int)))))
theorem sc__law_drawn : FnScope ["_law_cell_here", "_law_k", "_law_more"] ["_law_cell_here", "_law_k"] (defScope s__law_drawn) := ⟨rfl, rfl, rfl, by decide +kernel, rfl, by decide +kernel, by decide +kernel⟩
theorem sc__law_drawn_v0 : (defScope s__law_drawn).names.lookup ("_law_cell_here" : Str) = some .local := by decide +kernel
theorem sc__law_drawn_v1 : (defScope s__law_drawn).names.lookup ("_law_k" : Str) = some .local := by decide +kernel
theorem sc__law_drawn_v2 : (defScope s__law_drawn).names.lookup ("_law_more" : Str) = some .local := by decide +kernel
def t__law_drawn (K : PySem.W.Frag) (cs : Cs) (E : XK) : TS :=
  (tSeq (tAsg (tOp (rI (fun _ j => 0 < j) fun i j => .int (i % j)) (tOp (rI0 fun i j => .int (i + j)) (tOp (rI IntMulOk fun i j => .int (i * j)) (tVar 0) (tC (.int 6364136223846793005))) (tOp (rI IntMulOk fun i j => .int (i * j)) (tOp (rI0 fun i j => .int (i + j)) (tVar 1) (tC (.int 1))) (tC (.int 1442695040888963407)))) (tC (.int 340282366920938463463374607431768211507))) (gName 2))
  (tRet (tOp (rI (fun _ j => 0 < j) fun i j => .int (i % j)) (tOp (rI IntMulOk fun i j => .int (i * j)) (tVar 2) (tVar 2)) (tC (.int 340282366920938463463374607431768211297)))))
def sp__law_drawn (K : PySem.W.Frag) (_ : Cs) : Sp := fun vs H Q _ => ∃ (c k : Int), vs = [.int c, .int k] ∧ ∀ r : Nat, r < 2 ^ 128 → upR Q (.int (r : Int)) H
theorem c__law_drawn {K : PySem.W.Frag} {cs : Cs} {H : Hp} {c k : Int} {Q : PV} {E : XK} (q : ∀ r : Nat, r < 2 ^ 128 → Q (.int (r : Int)) H) : kC (fun ws H Q => sp__law_drawn K cs ws H Q E) [.int c, .int k] H Q :=
  fun H1 e _ qq => ⟨c, k, rfl, fun r hr H2 e2 => qq _ _ _ (q r hr) (e.tr e2)⟩
local macro_rules | `(tactic| k_places) => `(tactic| (with_reducible refine' c__law_drawn (fun _ _ => ?_)))
theorem pure__law_drawn {K : PySem.W.Frag} {cs : Cs} {H : Hp} {vs : List V} {Q : VK} {E : XK} (h : sp__law_drawn K cs vs H Q E) : t__law_drawn K cs E { nx := fun _ H' => Q .non H', rt := Q } (start ["_law_cell_here", "_law_k", "_law_more"] vs) H := by
  obtain ⟨c, k, rfl, q⟩ := h
  refine fin (σ := [some (.int c), some (.int k), none]) ?_
  unfold t__law_drawn
  k_clsL
  generalize c * 6364136223846793005 + (k + 1) * 1442695040888963407 = z
  have hz0 : 0 ≤ z % 340282366920938463463374607431768211507 := Int.emod_nonneg _ (by decide)
  have hz1 : z % 340282366920938463463374607431768211507 < 340282366920938463463374607431768211507 := Int.emod_lt_of_pos _ (by decide)
  generalize z % 340282366920938463463374607431768211507 = y at *
  have hm : IntMulOk y y := by
    obtain ⟨n, rfl⟩ := Int.eq_ofNat_of_zero_le hz0
    exact mulw (a := 129) (b := 129) (by omega) (by omega) (by decide) (by decide) (by decide)
  k_clsL
  have h0 : 0 ≤ y * y % 340282366920938463463374607431768211297 := Int.emod_nonneg _ (by decide)
  have h1 : y * y % 340282366920938463463374607431768211297 < 340282366920938463463374607431768211297 := Int.emod_lt_of_pos _ (by decide)
  obtain ⟨n, hn⟩ := Int.eq_ofNat_of_zero_le h0
  rw [hn]
  exact q n (by omega)
theorem ok__law_drawn {P : Program} {w : World} {K : PySem.W.Frag} {mg : Str → Option Value} {base : Heap} {cs : Cs} (D__law_drawn : Dn K mg "_law_drawn" s__law_drawn ["_law_cell_here", "_law_k"]) :
    Cal P w K mg base (L2N.CX P w) 1 "_law_drawn" ["_law_cell_here", "_law_k"] (sp__law_drawn K cs) := by
  refine cal_mk D__law_drawn sc__law_drawn (fun vs H Q E h => ?_) fun f cdv A outer s H vs Q E hr h => ⟨t__law_drawn K cs E, ?_, pure__law_drawn h⟩
  · unfold sp__law_drawn at h
    first | (obtain ⟨rfl, _⟩ := h; rfl) | (obtain ⟨_, rfl, _⟩ := h; rfl) | (obtain ⟨_, _, rfl, _⟩ := h; rfl) | (obtain ⟨_, _, _, rfl, _⟩ := h; rfl) | (obtain ⟨_, _, _, _, rfl, _⟩ := h; rfl) | (obtain ⟨_, _, _, _, _, rfl, _⟩ := h; rfl) | (obtain ⟨_, _, _, _, _, _, rfl, _⟩ := h; rfl) | (obtain ⟨_, _, _, _, _, _, _, rfl, _⟩ := h; rfl) | (obtain ⟨_, _, _, _, _, _, _, _, rfl, _⟩ := h; rfl) | (obtain ⟨_, _, _, _, _, _, _, _, _, rfl, _⟩ := h; rfl) | (obtain ⟨_, _, _, _, _, _, _, _, _, _, rfl, _⟩ := h; rfl) | (obtain ⟨_, _, _, _, _, _, _, _, _, _, _, rfl, _⟩ := h; rfl) | (obtain ⟨_, _, _, _, _, _, _, _, _, _, _, _, rfl, _⟩ := h; rfl) | (obtain ⟨_, _, _, _, _, _, _, _, _, _, _, _, _, rfl, _⟩ := h; rfl) | (obtain ⟨_, _, _, _, _, _, _, _, _, _, _, _, _, _, rfl, _⟩ := h; rfl) | (obtain ⟨_, _, _, _, _, _, _, _, _, _, _, _, _, _, _, rfl, _⟩ := h; rfl)
  · exact (pss_cons (ps_set (i := 2) sc__law_drawn.nd rfl (Or.inl sc__law_drawn_v2) (pe_op op_mod (pe_op op_add (pe_op op_mulX (pv 0) pe_int) (pe_op op_mulX (pe_op op_add (pv 1) pe_int) pe_int)) pe_int))
      (pss_one (ps_ret (pe_op op_mod (pe_op op_mulX (pv 2) (pv 2)) pe_int))))
theorem sc__law_gone : FnScope ["_law_size", "_law_number", "_law_many", "_law_taken", "_law_far", "_law_j", "_law_place", "_law_looks", "_law_begin"] ["_law_size", "_law_number", "_law_many"] (defScope s__law_gone) := ⟨rfl, rfl, rfl, by decide +kernel, rfl, by decide +kernel, by decide +kernel⟩
theorem sc__law_gone_v0 : (defScope s__law_gone).names.lookup ("_law_size" : Str) = some .local := by decide +kernel
theorem sc__law_gone_v1 : (defScope s__law_gone).names.lookup ("_law_number" : Str) = some .local := by decide +kernel
theorem sc__law_gone_v2 : (defScope s__law_gone).names.lookup ("_law_many" : Str) = some .local := by decide +kernel
theorem sc__law_gone_v3 : (defScope s__law_gone).names.lookup ("_law_taken" : Str) = some .local := by decide +kernel
theorem sc__law_gone_v4 : (defScope s__law_gone).names.lookup ("_law_far" : Str) = some .local := by decide +kernel
theorem sc__law_gone_v5 : (defScope s__law_gone).names.lookup ("_law_j" : Str) = some .local := by decide +kernel
theorem sc__law_gone_v6 : (defScope s__law_gone).names.lookup ("_law_place" : Str) = some .local := by decide +kernel
theorem sc__law_gone_v7 : (defScope s__law_gone).names.lookup ("_law_looks" : Str) = some .local := by decide +kernel
theorem sc__law_gone_v8 : (defScope s__law_gone).names.lookup ("_law_begin" : Str) = some .local := by decide +kernel
def t__law_gone (K : PySem.W.Frag) (cs : Cs) (E : XK) : TS :=
  (tSeq (tAsg (tOp rRep (tLst (tCons (tC (.bl false)) tNil)) (tVar 0)) (gName 3))
  (tSeq (tAsg (tC (.int 0)) (gName 4))
  (tSeq (tFor (iRng1 (tCons (tVar 2) tNil)) (gName 5)
  (tSeq (tAsg (tOp (rI (fun _ j => 0 < j) fun i j => .int (i % j)) (tVar 1) (tVar 0)) (gName 6))
  (tSeq (tAsg (tOp (rI CDivW fun i j => .int (i / j)) (tVar 1) (tVar 0)) (gName 1))
  (tSeq (tWhile (tB (tOp (rIxL K) (tVar 3) (tVar 6)))
  (tSeq (tAsg (tOp (rI (fun _ j => 0 < j) fun i j => .int (i % j)) (tOp (rI0 fun i j => .int (i + j)) (tVar 6) (tC (.int 1))) (tVar 0)) (gName 6))
  (tAsg (tOp (rI0 fun i j => .int (i + j)) (tVar 4) (tC (.int 1))) (gName 4))))
  (tAsg (tC (.bl true)) (gSub (tVar 3) (tVar 6) rSetL))))))
  (tSeq (tAsg (tC (.int 0)) (gName 7))
  (tSeq (tFor (iRng1 (tCons (tVar 0) tNil)) (gName 8)
  (tSeq (tAsg (tVar 8) (gName 6))
  (tSeq (tAsg (tOp (rI0 fun i j => .int (i + j)) (tVar 7) (tC (.int 1))) (gName 7))
  (tWhile (tB (tOp (rIxL K) (tVar 3) (tVar 6)))
  (tSeq (tAsg (tOp (rI (fun _ j => 0 < j) fun i j => .int (i % j)) (tOp (rI0 fun i j => .int (i + j)) (tVar 6) (tC (.int 1))) (tVar 0)) (gName 6))
  (tAsg (tOp (rI0 fun i j => .int (i + j)) (tVar 7) (tC (.int 1))) (gName 7)))))))
  (tRet (tTup (tCons (tVar 4) (tCons (tVar 7) tNil)))))))))
theorem gonI_len (size number : Nat) : ∀ j, (gonI size number j).1.length = size
  | 0 => by simp [gonI]
  | j + 1 => by
    show ((gonI size number j).1.set _ _).length = size
    rw [List.length_set, gonI_len size number j]
theorem gonI_occ (size number : Nat) : ∀ i, ∃ occ : List Nat, occ.length ≤ i ∧ ∀ j, j < size → frB (gonI size number i).1 j = false → j ∈ occ
  | 0 => ⟨[], Nat.le_refl _, fun j hj h => by
    unfold frB gonI at h
    rw [List.getD_eq_getElem?_getD, List.getElem?_replicate] at h
    simp [hj] at h⟩
  | i + 1 => by
    obtain ⟨occ, h1, h2⟩ := gonI_occ size number i
    refine ⟨prb (frB (gonI size number i).1) size size ((gonI size number i).2.2 % size) :: occ, by simp; omega, fun j hj h => ?_⟩
    have h : frB ((gonI size number i).1.set (prb (frB (gonI size number i).1) size size ((gonI size number i).2.2 % size)) true) j = false := h
    generalize prb (frB (gonI size number i).1) size size ((gonI size number i).2.2 % size) = tq at *
    by_cases e : j = tq
    · exact e ▸ List.mem_cons_self
    · refine List.mem_cons_of_mem _ (h2 j hj ?_)
      unfold frB at h ⊢
      rw [List.getD_eq_getElem?_getD, List.getElem?_set_ne (Ne.symm e), ← List.getD_eq_getElem?_getD] at h
      exact h
theorem bl_at {l : List Bool} {p : Nat} (h : p < l.length) : (l.map V.bl)[p]? = some (.bl (l.getD p false)) := by
  rw [List.getElem?_map, List.getD_eq_getElem?_getD, List.getElem?_eq_getElem h]
  rfl
def sp__law_gone (K : PySem.W.Frag) (_ : Cs) : Sp := fun vs H Q _ => ∃ size number m : Nat, vs = [.int (size : Int), .int (number : Int), .int (m : Int)] ∧ m < size ∧ size ≤ 64 ∧ ∀ (H' : Hp) (p : Addr), Ex H H' → H' p = some (.tup [.int ((farN size m number : Nat) : Int), .int ((lookN size m number : Nat) : Int)]) → upR Q (.ref p) H'
theorem c__law_gone {K : PySem.W.Frag} {cs : Cs} {H : Hp} {size number m : Nat} {i j k : Int} {Q : PV} {E : XK} (hi : i = size) (hj : j = number) (hk : k = m) (hm : m < size) (hs : size ≤ 64) (q : ∀ (H' : Hp) (p : Addr), Ex H H' → H' p = some (.tup [.int ((farN size m number : Nat) : Int), .int ((lookN size m number : Nat) : Int)]) → Q (.ref p) H') :
    kC (fun ws H Q => sp__law_gone K cs ws H Q E) [.int i, .int j, .int k] H Q := by
  subst hi hj hk
  exact fun H1 e _ qq => ⟨size, number, m, rfl, hm, hs, fun H' p e1 h1 H2 e2 => qq _ _ _ (q H' p (e.tr e1) h1) e2⟩
theorem pure__law_gone {K : PySem.W.Frag} {cs : Cs} {H : Hp} {vs : List V} {Q : VK} {E : XK} (h : sp__law_gone K cs vs H Q E) : t__law_gone K cs E { nx := fun _ H' => Q .non H', rt := Q } (start ["_law_size", "_law_number", "_law_many", "_law_taken", "_law_far", "_law_j", "_law_place", "_law_looks", "_law_begin"] vs) H := by
  obtain ⟨size, number, m, rfl, hm, hs, q⟩ := h
  have h0 : 0 < size := by omega
  refine fin (σ := [some (.int (size : Int)), some (.int (number : Int)), some (.int (m : Int)), none, none, none, none, none, none]) ?_
  unfold t__law_gone
  k_clsL
  rename_i a1 ha1
  refine r_rep1 (x := .bl false) (n := size) (by k_memK) (by omega) fun t ht => ?_
  k_clsL
  refine s_for ?_
  k_clsL
  refine ⟨by omega, fun i s H1 => Ex H H1 ∧ ∃ z5 z6, s = [some (.int (size : Int)), some (.int (((gonI size number i).2.2 : Nat) : Int)), some (.int (m : Int)), some (.ref t), some (.int (((gonI size number i).2.1 : Nat) : Int)), z5, z6, none, none] ∧ H1 t = some (.lst ((gonI size number i).1.map V.bl)), ⟨by k_offL, none, none, rfl, ?_⟩, fun _ _ _ _ _ => trivial, ?_, ?_⟩
  · rw [upd_same]
    simp [gonI]
  · rintro i s H1 hi ⟨e1, z5, z6, rfl, ht1⟩
    have hlen := gonI_len size number i
    obtain ⟨occ, ho1, ho2⟩ := gonI_occ size number i
    have hnx : gonI size number (i + 1) = ((gonI size number i).1.set (prb (frB (gonI size number i).1) size size ((gonI size number i).2.2 % size)) true, (gonI size number i).2.1 + stp (frB (gonI size number i).1) size size ((gonI size number i).2.2 % size), (gonI size number i).2.2 / size) := rfl
    generalize gonI size number i = st at *
    obtain ⟨L, far, rest⟩ := st
    dsimp only at hlen ho2 hnx ht1 ⊢
    have hp0 : rest % size < size := Nat.mod_lt _ h0
    have htf : frB L (prb (frB L) size size (rest % size)) = true := prb_free _ _ hp0 (free_some h0 occ (by omega) ho2)
    have htl : prb (frB L) size size (rest % size) < size := prb_lt h0 _ _ hp0
    refine g_name ?_
    k_clsL
    have em : ((rest : Nat) : Int) % (size : Int) = ((rest % size : Nat) : Int) := by rw [Int.natCast_emod]
    have ed : ((rest : Nat) : Int) / (size : Int) = ((rest / size : Nat) : Int) := by rw [Int.natCast_ediv]
    rw [em, ed]
    generalize htg : prb (frB L) size size (rest % size) = tg at *
    generalize htt : far + stp (frB L) size size (rest % size) = tot at *
    refine s_while (fun k s' H2 => Ex H1 H2 ∧ ∃ p fv : Nat, p < size ∧ prb (frB L) size k p = tg ∧ fv + stp (frB L) size k p = tot ∧ s' = [some (.int (size : Int)), some (.int ((rest / size : Nat) : Int)), some (.int (m : Int)), some (.ref t), some (.int (fv : Int)), some (.int (i : Nat)), some (.int (p : Int)), none, none]) size ⟨Ex.rf, rest % size, far, hp0, htg, htt, rfl⟩ ?_
    rintro k s' H2 ⟨e2, p, fv, hp, hpt, hft, rfl⟩
    have ht2 := e2 _ _ ht1
    k_clsL
    refine r_ixL (SqL.of ht2) (atI_nat (bl_at (by omega))) ?_
    k_clsL
    refine ⟨fun hb => ?_, fun hb => ?_⟩
    · have hfp : ¬ frB L p = true := by unfold frB; rw [hb]; decide
      cases k with
      | zero =>
        have : p = tg := hpt
        rw [this] at hfp
        exact absurd htf hfp
      | succ k =>
        k_clsL
        refine ⟨k, _, by omega, ⟨e2, (p + 1) % size, fv + 1, Nat.mod_lt _ h0, ?_, ?_, ?_⟩, Ex.rf⟩
        · rw [← hpt, prb, if_neg hfp]
        · rw [← hft, stp, if_neg hfp]
          omega
        · rfl
    · have hfp : frB L p = true := by unfold frB; rw [hb]; rfl
      have ept : p = tg := by
        rw [← hpt]
        cases k with
        | zero => rfl
        | succ k => unfold prb; rw [if_pos hfp]
      have eft : fv = tot := by
        rw [← hft]
        cases k with
        | zero => rfl
        | succ k => unfold stp; rw [if_pos hfp]; rfl
      subst ept eft
      k_clsL
      refine g_subL ?_
      k_clsL
      refine ⟨t, _, _, p, rfl, rfl, ht2, ?_, ?_⟩
      · rw [List.length_map, hlen]
        exact ixN_nat htl
      · refine ⟨_, ⟨?_, _, _, by rw [hnx], ?_⟩, Ex.rf⟩
        · exact Ex.mutr (e1.tr e2) (Ex.fresh (Ex.news ha1) ht)
        · rw [upd_same, hnx, List.map_set]
  · rintro s H1 ⟨e1, z5, z6, rfl, ht1⟩
    have hlen := gonI_len size number m
    obtain ⟨occ, ho1, ho2⟩ := gonI_occ size number m
    have hfar : farN size m number = (gonI size number m).2.1 := rfl
    have hlook : lookN size m number = lookS size (gonI size number m).1 size := rfl
    rw [hfar, hlook] at q
    generalize gonI size number m = st at *
    obtain ⟨L, far, rest⟩ := st
    dsimp only at hlen ho2 ht1 q ⊢
    k_clsL
    refine s_for ?_
    k_clsL
    refine ⟨by omega, fun b s H2 => Ex H1 H2 ∧ ∃ z5 z6 z8, s = [some (.int (size : Int)), some (.int ((rest : Nat) : Int)), some (.int (m : Int)), some (.ref t), some (.int ((far : Nat) : Int)), z5, z6, some (.int ((lookS size L b : Nat) : Int)), z8], ⟨Ex.rf, z5, z6, none, rfl⟩, fun _ _ _ _ _ => trivial, ?_, ?_⟩
    · rintro b s H2 hb ⟨e2, z5, z6, z8, rfl⟩
      have hls : lookS size L (b + 1) = lookS size L b + 1 + stp (frB L) size size b := rfl
      have htf : frB L (prb (frB L) size size b) = true := prb_free _ _ hb (free_some h0 occ (by omega) ho2)
      refine g_name ?_
      k_clsL
      generalize htt : lookS size L b + 1 + stp (frB L) size size b = tot at *
      refine s_while (fun k s' H3 => Ex H2 H3 ∧ ∃ p fv : Nat, p < size ∧ frB L (prb (frB L) size k p) = true ∧ fv + stp (frB L) size k p = tot ∧ s' = [some (.int (size : Int)), some (.int ((rest : Nat) : Int)), some (.int (m : Int)), some (.ref t), some (.int (far : Int)), z5, some (.int (p : Int)), some (.int (fv : Int)), some (.int (b : Nat))]) size ⟨Ex.rf, b, lookS size L b + 1, hb, htf, htt, rfl⟩ ?_
      rintro k s' H3 ⟨e3, p, fv, hp, hpt, hft, rfl⟩
      have ht2 := e3 _ _ (e2 _ _ ht1)
      k_clsL
      refine r_ixL (SqL.of ht2) (atI_nat (bl_at (by omega))) ?_
      k_clsL
      refine ⟨fun hb => ?_, fun hb => ?_⟩
      · have hfp : ¬ frB L p = true := by unfold frB; rw [hb]; decide
        cases k with
        | zero => exact absurd hpt hfp
        | succ k =>
          k_clsL
          refine ⟨k, _, by omega, ⟨e3, (p + 1) % size, fv + 1, Nat.mod_lt _ h0, ?_, ?_, ?_⟩, Ex.rf⟩
          · rw [prb, if_neg hfp] at hpt
            exact hpt
          · rw [← hft, stp, if_neg hfp]
            omega
          · rfl
      · have hfp : frB L p = true := by unfold frB; rw [hb]; rfl
        have eft : fv = tot := by
          rw [← hft]
          cases k with
          | zero => rfl
          | succ k => unfold stp; rw [if_pos hfp]; rfl
        subst eft
        exact ⟨_, ⟨e2.tr e3, _, _, _, by rw [hls]⟩, Ex.rf⟩
    · rintro s H2 ⟨e2, z5, z6, z8, rfl⟩
      k_clsL
      exact q _ _ ((e1.tr e2).tr (by k_offL)) upd_same
theorem ok__law_gone {P : Program} {w : World} {K : PySem.W.Frag} {mg : Str → Option Value} {base : Heap} {cs : Cs} (D__law_gone : Dn K mg "_law_gone" s__law_gone ["_law_size", "_law_number", "_law_many"]) (m_range : mg "range" = none) :
    Cal P w K mg base (L2N.CX P w) 1 "_law_gone" ["_law_size", "_law_number", "_law_many"] (sp__law_gone K cs) := by
  refine cal_mk D__law_gone sc__law_gone (fun vs H Q E h => ?_) fun f cdv A outer s H vs Q E hr h => ⟨t__law_gone K cs E, ?_, pure__law_gone h⟩
  · unfold sp__law_gone at h
    first | (obtain ⟨rfl, _⟩ := h; rfl) | (obtain ⟨_, rfl, _⟩ := h; rfl) | (obtain ⟨_, _, rfl, _⟩ := h; rfl) | (obtain ⟨_, _, _, rfl, _⟩ := h; rfl) | (obtain ⟨_, _, _, _, rfl, _⟩ := h; rfl) | (obtain ⟨_, _, _, _, _, rfl, _⟩ := h; rfl) | (obtain ⟨_, _, _, _, _, _, rfl, _⟩ := h; rfl) | (obtain ⟨_, _, _, _, _, _, _, rfl, _⟩ := h; rfl) | (obtain ⟨_, _, _, _, _, _, _, _, rfl, _⟩ := h; rfl) | (obtain ⟨_, _, _, _, _, _, _, _, _, rfl, _⟩ := h; rfl) | (obtain ⟨_, _, _, _, _, _, _, _, _, _, rfl, _⟩ := h; rfl) | (obtain ⟨_, _, _, _, _, _, _, _, _, _, _, rfl, _⟩ := h; rfl) | (obtain ⟨_, _, _, _, _, _, _, _, _, _, _, _, rfl, _⟩ := h; rfl) | (obtain ⟨_, _, _, _, _, _, _, _, _, _, _, _, _, rfl, _⟩ := h; rfl) | (obtain ⟨_, _, _, _, _, _, _, _, _, _, _, _, _, _, rfl, _⟩ := h; rfl) | (obtain ⟨_, _, _, _, _, _, _, _, _, _, _, _, _, _, _, rfl, _⟩ := h; rfl)
  · exact (pss_cons (ps_set (i := 3) sc__law_gone.nd rfl (Or.inl sc__law_gone_v3) (pe_op op_rep (pe_lst (pa_cons pe_bl pa_nil)) (pv 0)))
      (pss_cons (ps_set (i := 4) sc__law_gone.nd rfl (Or.inl sc__law_gone_v4) pe_int)
      (pss_cons (ps_for (passes_of rfl) rfl (pi_range1 (by rfl) m_range (pa_cons (pv 2) pa_nil)) (pg_name (i := 5) sc__law_gone.nd rfl (Or.inl sc__law_gone_v5))
      (pss_cons (ps_set (i := 6) sc__law_gone.nd rfl (Or.inl sc__law_gone_v6) (pe_op op_mod (pv 1) (pv 0)))
      (pss_cons (ps_set (i := 1) sc__law_gone.nd rfl (Or.inl sc__law_gone_v1) (pe_op op_fdivW (pv 1) (pv 0)))
      (pss_cons (ps_while (passes_of rfl) (pt_val (pe_ix ix_list (pv 3) (pv 6) (fun _ _ => rfl)))
      (pss_cons (ps_set (i := 6) sc__law_gone.nd rfl (Or.inl sc__law_gone_v6) (pe_op op_mod (pe_op op_add (pv 6) pe_int) (pv 0)))
      (pss_one (ps_set (i := 4) sc__law_gone.nd rfl (Or.inl sc__law_gone_v4) (pe_op op_add (pv 4) pe_int)))))
      (pss_one (ps_asg pe_bl (pg_sub (pv 3) (pv 6) set_list)))))))
      (pss_cons (ps_set (i := 7) sc__law_gone.nd rfl (Or.inl sc__law_gone_v7) pe_int)
      (pss_cons (ps_for (passes_of rfl) rfl (pi_range1 (by rfl) m_range (pa_cons (pv 0) pa_nil)) (pg_name (i := 8) sc__law_gone.nd rfl (Or.inl sc__law_gone_v8))
      (pss_cons (ps_set (i := 6) sc__law_gone.nd rfl (Or.inl sc__law_gone_v6) (pv 8))
      (pss_cons (ps_set (i := 7) sc__law_gone.nd rfl (Or.inl sc__law_gone_v7) (pe_op op_add (pv 7) pe_int))
      (pss_one (ps_while (passes_of rfl) (pt_val (pe_ix ix_list (pv 3) (pv 6) (fun _ _ => rfl)))
      (pss_cons (ps_set (i := 6) sc__law_gone.nd rfl (Or.inl sc__law_gone_v6) (pe_op op_mod (pe_op op_add (pv 6) pe_int) (pv 0)))
      (pss_one (ps_set (i := 7) sc__law_gone.nd rfl (Or.inl sc__law_gone_v7) (pe_op op_add (pv 7) pe_int)))))))))
      (pss_one (ps_ret (pe_tup (pa_cons (pv 4) (pa_cons (pv 7) pa_nil))))))))))
theorem sc__law_word : FnScope ["_law_e", "_law_flags", "_law_flag"] ["_law_e"] (defScope s__law_word) := ⟨rfl, rfl, rfl, by decide +kernel, rfl, by decide +kernel, by decide +kernel⟩
theorem sc__law_word_v0 : (defScope s__law_word).names.lookup ("_law_e" : Str) = some .local := by decide +kernel
theorem sc__law_word_v1 : (defScope s__law_word).names.lookup ("_law_flags" : Str) = some .local := by decide +kernel
def t__law_word (K : PySem.W.Frag) (cs : Cs) (D a : Addr) : TS :=
  (tSeq (tAsg (tLst (tCons (tCB (rIsE K D a) (tCons (tVar 0) (tCons (tC (.ref cs.BadRule)) tNil))) (tCons (tCB (rIsE K D a) (tCons (tVar 0) (tCons (tC (.ref cs.BadKey)) tNil))) (tCons (tCB (rIsE K D a) (tCons (tVar 0) (tCons (tC (.ref cs.BadSize)) tNil))) tNil)))) (gName 1))
  (tSeq (tAsg (tOp rCat (tVar 1) (tLst (tCons (tCB (rIsE K D a) (tCons (tVar 0) (tCons (tC (.ref cs.Full)) tNil))) tNil))) (gName 1))
  (tSeq (tDrop (tBM K "list" rAppend (tVar 1) (tCons (tCB (rIsE K D a) (tCons (tVar 0) (tCons (tC (.ref cs.TooMany)) tNil))) tNil)))
  (tSeq (tIfS (tOr (tTest (tOp rNe (tCB (rSum K) (tCons (tHotInts K (tVar 1)) tNil)) (tC (.int 1)))) (tNot (tB (tCB (rIsE K D a) (tCons (tVar 0) (tCons (tC (.ty "ValueError")) tNil))))))
  (tRet (tC (.str "other")))
  tNext)
  (tRet (tOp (rIxL K) (tLst (tCons (tC (.str "BadRule")) (tCons (tC (.str "BadKey")) (tCons (tC (.str "BadSize")) (tCons (tC (.str "Full")) (tCons (tC (.str "TooMany")) tNil)))))) (tBM K "list" (rIndex K) (tVar 1) (tCons (tC (.bl true)) tNil))))))))
local macro_rules | `(tactic| k_places) => `(tactic| first
  | ((with_reducible refine' c_isHr ?k1 ?_); (case k1 => assumption)) | ((with_reducible refine' c_isHt ?k1 ?_); (case k1 => assumption)) | (with_reducible refine' e_hot ?_))
theorem pure__law_word {K : PySem.W.Frag} {cs : Cs} {H : Hp} {c a : Addr} {nm : Str} {Q : VK} (kw : KitW K cs) (hw : wordOf cs c nm) (q : upR Q (.str nm) H) : t__law_word K cs c a { nx := fun _ H' => Q .non H', rt := Q } (start ["_law_e", "_law_flags", "_law_flag"] [.ref a]) H := by
  refine fin (σ := [some (.ref a), none, none]) ?_
  unfold t__law_word
  rcases hw with ⟨rfl, rfl⟩ | ⟨rfl, rfl⟩ | ⟨rfl, rfl⟩ | ⟨rfl, rfl⟩ | ⟨rfl, rfl⟩
  · obtain ⟨_, k1, k2, k3, k4, k5, kv⟩ := kw.r
    k_clsL
    refine ⟨_, [true, false, false, false, false], rfl, SqL.of upd_same, by decide, fun _ _ => ?_⟩
    k_clsL
    refine c_sum (ns := [1, 0, 0, 0, 0]) (SqL.of upd_same) ?_
    k_clsL
    refine m_index (j := 0) (z := .bl true) (by k_memK) rfl rfl rfl rfl (fun m z' hm hz => ?_) ?_
    · match m, hm with
      | m, hm => exact absurd hm (Nat.not_lt_zero m)
    k_clsL
    exact upX q (by k_offL)
  · obtain ⟨_, k1, k2, k3, k4, k5, kv⟩ := kw.k
    k_clsL
    refine ⟨_, [false, true, false, false, false], rfl, SqL.of upd_same, by decide, fun _ _ => ?_⟩
    k_clsL
    refine c_sum (ns := [0, 1, 0, 0, 0]) (SqL.of upd_same) ?_
    k_clsL
    refine m_index (j := 1) (z := .bl true) (by k_memK) rfl rfl rfl rfl (fun m z' hm hz => ?_) ?_
    · match m, hm with
      | 0, _ => cases hz; rfl
    k_clsL
    exact upX q (by k_offL)
  · obtain ⟨_, k1, k2, k3, k4, k5, kv⟩ := kw.s
    k_clsL
    refine ⟨_, [false, false, true, false, false], rfl, SqL.of upd_same, by decide, fun _ _ => ?_⟩
    k_clsL
    refine c_sum (ns := [0, 0, 1, 0, 0]) (SqL.of upd_same) ?_
    k_clsL
    refine m_index (j := 2) (z := .bl true) (by k_memK) rfl rfl rfl rfl (fun m z' hm hz => ?_) ?_
    · match m, hm with
      | 0, _ => cases hz; rfl
      | 1, _ => cases hz; rfl
    k_clsL
    exact upX q (by k_offL)
  · obtain ⟨_, k1, k2, k3, k4, k5, kv⟩ := kw.f
    k_clsL
    refine ⟨_, [false, false, false, true, false], rfl, SqL.of upd_same, by decide, fun _ _ => ?_⟩
    k_clsL
    refine c_sum (ns := [0, 0, 0, 1, 0]) (SqL.of upd_same) ?_
    k_clsL
    refine m_index (j := 3) (z := .bl true) (by k_memK) rfl rfl rfl rfl (fun m z' hm hz => ?_) ?_
    · match m, hm with
      | 0, _ => cases hz; rfl
      | 1, _ => cases hz; rfl
      | 2, _ => cases hz; rfl
    k_clsL
    exact upX q (by k_offL)
  · obtain ⟨_, k1, k2, k3, k4, k5, kv⟩ := kw.m
    k_clsL
    refine ⟨_, [false, false, false, false, true], rfl, SqL.of upd_same, by decide, fun _ _ => ?_⟩
    k_clsL
    refine c_sum (ns := [0, 0, 0, 0, 1]) (SqL.of upd_same) ?_
    k_clsL
    refine m_index (j := 4) (z := .bl true) (by k_memK) rfl rfl rfl rfl (fun m z' hm hz => ?_) ?_
    · match m, hm with
      | 0, _ => cases hz; rfl
      | 1, _ => cases hz; rfl
      | 2, _ => cases hz; rfl
      | 3, _ => cases hz; rfl
    k_clsL
    exact upX q (by k_offL)
theorem ok__law_word {P : Program} {w : World} {K : PySem.W.Frag} {mg : Str → Option Value} {base : Heap} {cs : Cs} (D__law_word : Dn K mg "_law_word" s__law_word ["_law_e"]) (kw : KitW K cs) (m_isinstance : mg "isinstance" = none) (m_int : mg "int" = none) (m_sum : mg "sum" = none) (m_ValueError : mg "ValueError" = none) (x_BadRule : ExcT K mg "BadRule" cs.BadRule) (x_BadKey : ExcT K mg "BadKey" cs.BadKey) (x_BadSize : ExcT K mg "BadSize" cs.BadSize) (x_Full : ExcT K mg "Full" cs.Full) (x_TooMany : ExcT K mg "TooMany" cs.TooMany) :
    CalX P w K mg base 1 "_law_word" ["_law_e"] (sp_word cs) := by
  refine calX_mk D__law_word sc__law_word fun f cdv A outer s H vs Q E p hot hr h => ?_
  obtain ⟨c, nm, rfl, h1, h2, hw, q⟩ := h
  have ex : ExcC K c := kw.exc hw
  obtain ⟨hh, vs, hd, hn⟩ := id hot
  have hfl : ∃ vs, p.2.data = .fields vs := ⟨vs, hd⟩
  have hc : HotC (cxH (L2N.CX P w) P w K mg base ["_law_e", "_law_flags", "_law_flag"] "_law_word" (defScope s__law_word) f cdv A outer s H E p) := ⟨p, hot, List.mem_cons_self⟩
  refine ⟨t__law_word K cs c p.1, ?_, pure__law_word kw hw q⟩
  exact (pss_cons (ps_set (i := 1) sc__law_word.nd rfl (Or.inl sc__law_word_v1) (pe_lst (pa_cons (pe_callB (call_isH ex h1 h2 hfl List.mem_cons_self) (by rfl) m_isinstance (by decide +kernel) (pa_cons (pv 0) (pa_cons (pe_glob (by rfl) x_BadRule.g rfl) pa_nil))) (pa_cons (pe_callB (call_isH ex h1 h2 hfl List.mem_cons_self) (by rfl) m_isinstance (by decide +kernel) (pa_cons (pv 0) (pa_cons (pe_glob (by rfl) x_BadKey.g rfl) pa_nil))) (pa_cons (pe_callB (call_isH ex h1 h2 hfl List.mem_cons_self) (by rfl) m_isinstance (by decide +kernel) (pa_cons (pv 0) (pa_cons (pe_glob (by rfl) x_BadSize.g rfl) pa_nil))) pa_nil)))))
      (pss_cons (ps_set (i := 1) sc__law_word.nd rfl (Or.inl sc__law_word_v1) (pe_op op_cat (pv 1) (pe_lst (pa_cons (pe_callB (call_isH ex h1 h2 hfl List.mem_cons_self) (by rfl) m_isinstance (by decide +kernel) (pa_cons (pv 0) (pa_cons (pe_glob (by rfl) x_Full.g rfl) pa_nil))) pa_nil))))
      (pss_cons (ps_expr (pe_bm PySem.F.plainAttrs_list PySem.F.slot_list_append PySem.F.type_list_append mt_append (pv 1) (pa_cons (pe_callB (call_isH ex h1 h2 hfl List.mem_cons_self) (by rfl) m_isinstance (by decide +kernel) (pa_cons (pv 0) (pa_cons (pe_glob (by rfl) x_TooMany.g rfl) pa_nil))) pa_nil)))
      (pss_cons (ps_if (PW.pt (pw_or (pt_cmpR op_ne (pe_callB (cr_sumH hc) (by rfl) m_sum (by decide +kernel) (pa_cons (pe_hotInts hc (pv 1) m_int (by decide +kernel) (by decide +kernel) rfl (by decide +kernel) (by decide +kernel) (by decide +kernel) (by decide) (fun _ => rfl)) pa_nil)) pe_int (nomark _)) (pw_or1 (pt_not (pt_val (pe_callB (call_isH ex h1 h2 hfl List.mem_cons_self) (by rfl) m_isinstance (by decide +kernel) (pa_cons (pv 0) (pa_cons (pe_bltn (v := .ty "ValueError") (by rfl) m_ValueError (by decide +kernel) rfl) pa_nil))))))))
      (pss_one (ps_ret pe_str))
      pss_nil)
      (pss_one (ps_ret (pe_ix ix_list (pe_lst (pa_cons pe_str (pa_cons pe_str (pa_cons pe_str (pa_cons pe_str (pa_cons pe_str pa_nil)))))) (pe_bm PySem.F.plainAttrs_list PySem.F.slot_list_index PySem.F.type_list_index mt_index (pv 1) (pa_cons pe_bl pa_nil)) (fun _ _ => rfl))))))))
theorem sc_is_count : FnScope ["thing", "least", "most"] ["thing", "least", "most"] (defScope s_is_count) := ⟨rfl, rfl, rfl, by decide +kernel, rfl, by decide +kernel, by decide +kernel⟩
theorem sc_is_count_v0 : (defScope s_is_count).names.lookup ("thing" : Str) = some .local := by decide +kernel
theorem sc_is_count_v1 : (defScope s_is_count).names.lookup ("least" : Str) = some .local := by decide +kernel
theorem sc_is_count_v2 : (defScope s_is_count).names.lookup ("most" : Str) = some .local := by decide +kernel
def t_is_count (K : PySem.W.Frag) (cs : Cs) (E : XK) : TS :=
  (tRet (tAndV (tCB (rIsi K) (tCons (tVar 0) (tCons (tC (.ty "int")) tNil))) (tAndV (tNotV (tCB (rIsi K) (tCons (tVar 0) (tCons (tC (.ty "bool")) tNil)))) (tChain (rI0 fun i j => .bl (decide (i ≤ j))) (rI0 fun i j => .bl (decide (i ≤ j))) (tVar 1) (tVar 0) (tVar 2)))))
def sp_is_count (K : PySem.W.Frag) (_ : Cs) : Sp := fun vs H Q _ => ∃ x T lo hi, vs = [x, .int lo, .int hi] ∧ Ty5 K H x T ∧ upR Q (.bl (cnt x lo hi)) H
theorem c_is_count {K : PySem.W.Frag} {cs : Cs} {H : Hp} {x : V} {T : String} {lo hi : Int} {Q : PV} {E : XK} (h : Ty5 K H x T) (k : Q (.bl (cnt x lo hi)) H) : kC (fun ws H Q => sp_is_count K cs ws H Q E) [x, .int lo, .int hi] H Q :=
  fun H1 e _ q => ⟨x, T, lo, hi, rfl, h.up e, fun H2 e2 => q _ _ _ k (e.tr e2)⟩
local macro_rules | `(tactic| k_places) => `(tactic| ((with_reducible refine' c_is_count ?k1 ?_); (case k1 => k_ownIn)))
theorem pure_is_count {K : PySem.W.Frag} {cs : Cs} {H : Hp} {vs : List V} {Q : VK} {E : XK} (h : sp_is_count K cs vs H Q E) : t_is_count K cs E { nx := fun _ H' => Q .non H', rt := Q } (start ["thing", "least", "most"] vs) H := by
  obtain ⟨x, T, lo, hi, rfl, h, q⟩ := h
  refine fin (σ := [some x, some (.int lo), some (.int hi)]) ?_
  unfold t_is_count
  cases h with
  | int i =>
    k_clsL
    refine ⟨fun h1 => ?_, fun h1 => ?_⟩
    · k_clsL
      exact upE q (by simp [cnt, h1])
    · k_clsL
      exact upE q (by simp [cnt, h1])
  | _ => k_clsL; exact q
theorem ok_is_count {P : Program} {w : World} {K : PySem.W.Frag} {mg : Str → Option Value} {base : Heap} {cs : Cs} (D_is_count : Dn K mg "is_count" s_is_count ["thing", "least", "most"]) (m_int : mg "int" = none) (m_isinstance : mg "isinstance" = none) (m_bool : mg "bool" = none) :
    Cal P w K mg base (L2N.CX P w) 1 "is_count" ["thing", "least", "most"] (sp_is_count K cs) := by
  refine cal_mk D_is_count sc_is_count (fun vs H Q E h => ?_) fun f cdv A outer s H vs Q E hr h => ⟨t_is_count K cs E, ?_, pure_is_count h⟩
  · unfold sp_is_count at h
    first | (obtain ⟨rfl, _⟩ := h; rfl) | (obtain ⟨_, rfl, _⟩ := h; rfl) | (obtain ⟨_, _, rfl, _⟩ := h; rfl) | (obtain ⟨_, _, _, rfl, _⟩ := h; rfl) | (obtain ⟨_, _, _, _, rfl, _⟩ := h; rfl) | (obtain ⟨_, _, _, _, _, rfl, _⟩ := h; rfl) | (obtain ⟨_, _, _, _, _, _, rfl, _⟩ := h; rfl) | (obtain ⟨_, _, _, _, _, _, _, rfl, _⟩ := h; rfl) | (obtain ⟨_, _, _, _, _, _, _, _, rfl, _⟩ := h; rfl) | (obtain ⟨_, _, _, _, _, _, _, _, _, rfl, _⟩ := h; rfl) | (obtain ⟨_, _, _, _, _, _, _, _, _, _, rfl, _⟩ := h; rfl) | (obtain ⟨_, _, _, _, _, _, _, _, _, _, _, rfl, _⟩ := h; rfl) | (obtain ⟨_, _, _, _, _, _, _, _, _, _, _, _, rfl, _⟩ := h; rfl) | (obtain ⟨_, _, _, _, _, _, _, _, _, _, _, _, _, rfl, _⟩ := h; rfl) | (obtain ⟨_, _, _, _, _, _, _, _, _, _, _, _, _, _, rfl, _⟩ := h; rfl) | (obtain ⟨_, _, _, _, _, _, _, _, _, _, _, _, _, _, _, rfl, _⟩ := h; rfl)
  · exact (pss_one (ps_ret (pe_and (pe_callB call_isi (by rfl) m_isinstance (by decide +kernel) (pa_cons (pv 0) (pa_cons (pe_bltn (v := .ty "int") (by rfl) m_int (by decide +kernel) rfl) pa_nil))) (pe_and (pe_not (pe_callB call_isi (by rfl) m_isinstance (by decide +kernel) (pa_cons (pv 0) (pa_cons (pe_bltn (v := .ty "bool") (by rfl) m_bool (by decide +kernel) rfl) pa_nil)))) (pe_one (pe_chain op_le op_le (pv 1) (pv 0) (pv 2)))))))
theorem sc_need_size : FnScope ["size"] ["size"] (defScope s_need_size) := ⟨rfl, rfl, rfl, by decide +kernel, rfl, by decide +kernel, by decide +kernel⟩
theorem sc_need_size_v0 : (defScope s_need_size).names.lookup ("size" : Str) = some .local := by decide +kernel
def t_need_size (K : PySem.W.Frag) (cs : Cs) (E : XK) : TS :=
  (tIfS (tNot (tB (tCall (sp_is_count K cs) [] E0 (tCons (tVar 0) (tCons (tC (.int 2)) (tCons (tC (.int 64)) tNil))))))
  (tRaise E cs.BadSize)
  tNext)
def sp_need_size (K : PySem.W.Frag) (cs : Cs) : Sp := fun vs H Q E => ∃ x T, vs = [x] ∧ Ty5 K H x T ∧ (cnt x 2 64 = true → upR Q .non H) ∧ (cnt x 2 64 = false → ∀ H2, Ex H H2 → E (.ref cs.BadSize) none H2)
theorem c_need_size {K : PySem.W.Frag} {cs : Cs} {H : Hp} {x : V} {T : String} {Q : PV} {E : XK} (h : Ty5 K H x T) (k : (cnt x 2 64 = true → Q .non H) ∧ (cnt x 2 64 = false → ∀ H2, Ex H H2 → E (.ref cs.BadSize) none H2)) : kC (fun ws H Q => sp_need_size K cs ws H Q E) [x] H Q :=
  fun H1 e _ q => ⟨x, T, rfl, h.up e, fun c H2 e2 => q _ _ _ (k.1 c) (e.tr e2), fun c H2 e2 => k.2 c H2 (e.tr e2)⟩
local macro_rules | `(tactic| k_places) => `(tactic| ((with_reducible refine' c_need_size ?k1 ?_); (case k1 => k_ownIn)))
theorem pure_need_size {K : PySem.W.Frag} {cs : Cs} {H : Hp} {vs : List V} {Q : VK} {E : XK} (h : sp_need_size K cs vs H Q E) : t_need_size K cs E { nx := fun _ H' => Q .non H', rt := Q } (start ["size"] vs) H := by
  obtain ⟨x, T, rfl, h, q, r⟩ := h
  refine fin (σ := [some x]) ?_
  unfold t_need_size
  k_clsL
  refine ⟨fun h1 => ?_, fun h1 => ?_⟩
  · exact s_raise (r (by simpa using h1))
  · k_clsL
    exact q (by simpa using h1)
theorem ok_need_size {P : Program} {w : World} {K : PySem.W.Frag} {mg : Str → Option Value} {base : Heap} {cs : Cs} (D_need_size : Dn K mg "need_size" s_need_size ["size"]) (cal_is_count : Cal P w K mg base (L2N.CX P w) 1 "is_count" ["thing", "least", "most"] (sp_is_count K cs)) (k_LEAST_SIZE : ∃ t, mg "LEAST_SIZE" = some (.int 2 t)) (k_MOST_SIZE : ∃ t, mg "MOST_SIZE" = some (.int 64 t)) (x_BadSize : ExcT K mg "BadSize" cs.BadSize) :
    Cal P w K mg base (L2N.CX P w) 2 "need_size" ["size"] (sp_need_size K cs) := by
  refine cal_mk D_need_size sc_need_size (fun vs H Q E h => ?_) fun f cdv A outer s H vs Q E hr h => ⟨t_need_size K cs E, ?_, pure_need_size h⟩
  · unfold sp_need_size at h
    first | (obtain ⟨rfl, _⟩ := h; rfl) | (obtain ⟨_, rfl, _⟩ := h; rfl) | (obtain ⟨_, _, rfl, _⟩ := h; rfl) | (obtain ⟨_, _, _, rfl, _⟩ := h; rfl) | (obtain ⟨_, _, _, _, rfl, _⟩ := h; rfl) | (obtain ⟨_, _, _, _, _, rfl, _⟩ := h; rfl) | (obtain ⟨_, _, _, _, _, _, rfl, _⟩ := h; rfl) | (obtain ⟨_, _, _, _, _, _, _, rfl, _⟩ := h; rfl) | (obtain ⟨_, _, _, _, _, _, _, _, rfl, _⟩ := h; rfl) | (obtain ⟨_, _, _, _, _, _, _, _, _, rfl, _⟩ := h; rfl) | (obtain ⟨_, _, _, _, _, _, _, _, _, _, rfl, _⟩ := h; rfl) | (obtain ⟨_, _, _, _, _, _, _, _, _, _, _, rfl, _⟩ := h; rfl) | (obtain ⟨_, _, _, _, _, _, _, _, _, _, _, _, rfl, _⟩ := h; rfl) | (obtain ⟨_, _, _, _, _, _, _, _, _, _, _, _, _, rfl, _⟩ := h; rfl) | (obtain ⟨_, _, _, _, _, _, _, _, _, _, _, _, _, _, rfl, _⟩ := h; rfl) | (obtain ⟨_, _, _, _, _, _, _, _, _, _, _, _, _, _, _, rfl, _⟩ := h; rfl)
  · exact (pss_one (ps_if (pt_not (pt_val (pe_cal cal_is_count hr (by decide) (by rfl) passN (pa_cons (pv 0) (pa_cons (pe_gI (n := 2) (by rfl) k_LEAST_SIZE) (pa_cons (pe_gI (n := 64) (by rfl) k_MOST_SIZE) pa_nil))))))
      (pss_one (ps_raiseT x_BadSize rfl (L2N.takes_of (E := E) rfl rfl rfl rfl) (by rfl)))
      pss_nil))
theorem sc_need_count : FnScope ["number", "least", "most"] ["number", "least", "most"] (defScope s_need_count) := ⟨rfl, rfl, rfl, by decide +kernel, rfl, by decide +kernel, by decide +kernel⟩
theorem sc_need_count_v0 : (defScope s_need_count).names.lookup ("number" : Str) = some .local := by decide +kernel
theorem sc_need_count_v1 : (defScope s_need_count).names.lookup ("least" : Str) = some .local := by decide +kernel
theorem sc_need_count_v2 : (defScope s_need_count).names.lookup ("most" : Str) = some .local := by decide +kernel
def t_need_count (K : PySem.W.Frag) (cs : Cs) (E : XK) : TS :=
  (tIfS (tNot (tB (tCall (sp_is_count K cs) [] E0 (tCons (tVar 0) (tCons (tVar 1) (tCons (tVar 2) tNil))))))
  (tRaise E cs.BadSize)
  tNext)
def sp_need_count (K : PySem.W.Frag) (cs : Cs) : Sp := fun vs H Q E => ∃ x T lo hi, vs = [x, .int lo, .int hi] ∧ Ty5 K H x T ∧ (cnt x lo hi = true → upR Q .non H) ∧ (cnt x lo hi = false → ∀ H2, Ex H H2 → E (.ref cs.BadSize) none H2)
theorem c_need_count {K : PySem.W.Frag} {cs : Cs} {H : Hp} {x : V} {T : String} {lo hi : Int} {Q : PV} {E : XK} (h : Ty5 K H x T) (k : (cnt x lo hi = true → Q .non H) ∧ (cnt x lo hi = false → ∀ H2, Ex H H2 → E (.ref cs.BadSize) none H2)) : kC (fun ws H Q => sp_need_count K cs ws H Q E) [x, .int lo, .int hi] H Q :=
  fun H1 e _ q => ⟨x, T, lo, hi, rfl, h.up e, fun c H2 e2 => q _ _ _ (k.1 c) (e.tr e2), fun c H2 e2 => k.2 c H2 (e.tr e2)⟩
local macro_rules | `(tactic| k_places) => `(tactic| ((with_reducible refine' c_need_count ?k1 ?_); (case k1 => k_ownIn)))
theorem pure_need_count {K : PySem.W.Frag} {cs : Cs} {H : Hp} {vs : List V} {Q : VK} {E : XK} (h : sp_need_count K cs vs H Q E) : t_need_count K cs E { nx := fun _ H' => Q .non H', rt := Q } (start ["number", "least", "most"] vs) H := by
  obtain ⟨x, T, lo, hi, rfl, h, q, r⟩ := h
  refine fin (σ := [some x, some (.int lo), some (.int hi)]) ?_
  unfold t_need_count
  k_clsL
  refine ⟨fun h1 => ?_, fun h1 => ?_⟩
  · exact s_raise (r (by simpa using h1))
  · k_clsL
    exact q (by simpa using h1)
theorem ok_need_count {P : Program} {w : World} {K : PySem.W.Frag} {mg : Str → Option Value} {base : Heap} {cs : Cs} (D_need_count : Dn K mg "need_count" s_need_count ["number", "least", "most"]) (cal_is_count : Cal P w K mg base (L2N.CX P w) 1 "is_count" ["thing", "least", "most"] (sp_is_count K cs)) (x_BadSize : ExcT K mg "BadSize" cs.BadSize) :
    Cal P w K mg base (L2N.CX P w) 2 "need_count" ["number", "least", "most"] (sp_need_count K cs) := by
  refine cal_mk D_need_count sc_need_count (fun vs H Q E h => ?_) fun f cdv A outer s H vs Q E hr h => ⟨t_need_count K cs E, ?_, pure_need_count h⟩
  · unfold sp_need_count at h
    first | (obtain ⟨rfl, _⟩ := h; rfl) | (obtain ⟨_, rfl, _⟩ := h; rfl) | (obtain ⟨_, _, rfl, _⟩ := h; rfl) | (obtain ⟨_, _, _, rfl, _⟩ := h; rfl) | (obtain ⟨_, _, _, _, rfl, _⟩ := h; rfl) | (obtain ⟨_, _, _, _, _, rfl, _⟩ := h; rfl) | (obtain ⟨_, _, _, _, _, _, rfl, _⟩ := h; rfl) | (obtain ⟨_, _, _, _, _, _, _, rfl, _⟩ := h; rfl) | (obtain ⟨_, _, _, _, _, _, _, _, rfl, _⟩ := h; rfl) | (obtain ⟨_, _, _, _, _, _, _, _, _, rfl, _⟩ := h; rfl) | (obtain ⟨_, _, _, _, _, _, _, _, _, _, rfl, _⟩ := h; rfl) | (obtain ⟨_, _, _, _, _, _, _, _, _, _, _, rfl, _⟩ := h; rfl) | (obtain ⟨_, _, _, _, _, _, _, _, _, _, _, _, rfl, _⟩ := h; rfl) | (obtain ⟨_, _, _, _, _, _, _, _, _, _, _, _, _, rfl, _⟩ := h; rfl) | (obtain ⟨_, _, _, _, _, _, _, _, _, _, _, _, _, _, rfl, _⟩ := h; rfl) | (obtain ⟨_, _, _, _, _, _, _, _, _, _, _, _, _, _, _, rfl, _⟩ := h; rfl)
  · exact (pss_one (ps_if (pt_not (pt_val (pe_cal cal_is_count hr (by decide) (by rfl) passN (pa_cons (pv 0) (pa_cons (pv 1) (pa_cons (pv 2) pa_nil))))))
      (pss_one (ps_raiseT x_BadSize rfl (L2N.takes_of (E := E) rfl rfl rfl rfl) (by rfl)))
      pss_nil))
theorem sc_power : FnScope ["size", "many", "found", "turn"] ["size", "many"] (defScope s_power) := ⟨rfl, rfl, rfl, by decide +kernel, rfl, by decide +kernel, by decide +kernel⟩
theorem sc_power_v0 : (defScope s_power).names.lookup ("size" : Str) = some .local := by decide +kernel
theorem sc_power_v1 : (defScope s_power).names.lookup ("many" : Str) = some .local := by decide +kernel
theorem sc_power_v2 : (defScope s_power).names.lookup ("found" : Str) = some .local := by decide +kernel
theorem sc_power_v3 : (defScope s_power).names.lookup ("turn" : Str) = some .local := by decide +kernel
def t_power (K : PySem.W.Frag) (cs : Cs) (E : XK) : TS :=
  (tSeq (tAsg (tC (.int 1)) (gName 2))
  (tSeq (tFor (iRng1 (tCons (tVar 1) tNil)) (gName 3)
  (tAsg (tOp (rI IntMulOk fun i j => .int (i * j)) (tVar 2) (tVar 0)) (gName 2)))
  (tRet (tVar 2))))
def sp_power (K : PySem.W.Frag) (_ : Cs) : Sp := fun vs H Q _ => ∃ s m : Nat, vs = [.int (s : Int), .int (m : Int)] ∧ s ≤ 1000 ∧ m ≤ 1000 ∧ upR Q (.int ((s ^ m : Nat) : Int)) H
theorem c_power {K : PySem.W.Frag} {cs : Cs} {H : Hp} {s m : Nat} {i j : Int} {Q : PV} {E : XK} (hi : i = s) (hj : j = m) (hs : s ≤ 1000) (hm : m ≤ 1000) (k : Q (.int ((s ^ m : Nat) : Int)) H) : kC (fun ws H Q => sp_power K cs ws H Q E) [.int i, .int j] H Q := by
  subst hi hj
  exact fun H1 e _ q => ⟨s, m, rfl, hs, hm, fun H2 e2 => q _ _ _ k (e.tr e2)⟩
theorem pure_power {K : PySem.W.Frag} {cs : Cs} {H : Hp} {vs : List V} {Q : VK} {E : XK} (h : sp_power K cs vs H Q E) : t_power K cs E { nx := fun _ H' => Q .non H', rt := Q } (start ["size", "many", "found", "turn"] vs) H := by
  obtain ⟨s, m, rfl, hs, hm, q⟩ := h
  refine fin (σ := [some (.int (s : Int)), some (.int (m : Int)), none, none]) ?_
  unfold t_power
  k_clsL
  refine s_for ?_
  k_clsL
  refine ⟨by omega, fun i σ H1 => H1 = H ∧ ∃ z, σ = [some (.int (s : Int)), some (.int (m : Int)), some (.int ((s ^ i : Nat) : Int)), z], ⟨rfl, none, rfl⟩, fun _ _ _ _ _ => trivial, ?_, ?_⟩
  · rintro i σ H1 hi ⟨rfl, z, rfl⟩
    refine g_name ?_
    k_clsL
    refine ⟨_, ⟨rfl, some (.int (i : Nat)), ?_⟩, Ex.rf⟩
    have e3 : ((s ^ i : Nat) : Int) * (s : Int) = ((s ^ (i + 1) : Nat) : Int) := by
      rw [Nat.pow_succ]
      push_cast
      rfl
    rw [e3]
    rfl
  · rintro σ H1 ⟨rfl, z, rfl⟩
    k_clsL
    exact q
theorem ok_power {P : Program} {w : World} {K : PySem.W.Frag} {mg : Str → Option Value} {base : Heap} {cs : Cs} (D_power : Dn K mg "power" s_power ["size", "many"]) (m_range : mg "range" = none) :
    Cal P w K mg base (L2N.CX P w) 1 "power" ["size", "many"] (sp_power K cs) := by
  refine cal_mk D_power sc_power (fun vs H Q E h => ?_) fun f cdv A outer s H vs Q E hr h => ⟨t_power K cs E, ?_, pure_power h⟩
  · unfold sp_power at h
    first | (obtain ⟨rfl, _⟩ := h; rfl) | (obtain ⟨_, rfl, _⟩ := h; rfl) | (obtain ⟨_, _, rfl, _⟩ := h; rfl) | (obtain ⟨_, _, _, rfl, _⟩ := h; rfl) | (obtain ⟨_, _, _, _, rfl, _⟩ := h; rfl) | (obtain ⟨_, _, _, _, _, rfl, _⟩ := h; rfl) | (obtain ⟨_, _, _, _, _, _, rfl, _⟩ := h; rfl) | (obtain ⟨_, _, _, _, _, _, _, rfl, _⟩ := h; rfl) | (obtain ⟨_, _, _, _, _, _, _, _, rfl, _⟩ := h; rfl) | (obtain ⟨_, _, _, _, _, _, _, _, _, rfl, _⟩ := h; rfl) | (obtain ⟨_, _, _, _, _, _, _, _, _, _, rfl, _⟩ := h; rfl) | (obtain ⟨_, _, _, _, _, _, _, _, _, _, _, rfl, _⟩ := h; rfl) | (obtain ⟨_, _, _, _, _, _, _, _, _, _, _, _, rfl, _⟩ := h; rfl) | (obtain ⟨_, _, _, _, _, _, _, _, _, _, _, _, _, rfl, _⟩ := h; rfl) | (obtain ⟨_, _, _, _, _, _, _, _, _, _, _, _, _, _, rfl, _⟩ := h; rfl) | (obtain ⟨_, _, _, _, _, _, _, _, _, _, _, _, _, _, _, rfl, _⟩ := h; rfl)
  · exact (pss_cons (ps_set (i := 2) sc_power.nd rfl (Or.inl sc_power_v2) pe_int)
      (pss_cons (ps_for (passes_of rfl) rfl (pi_range1 (by rfl) m_range (pa_cons (pv 1) pa_nil)) (pg_name (i := 3) sc_power.nd rfl (Or.inl sc_power_v3))
      (pss_one (ps_set (i := 2) sc_power.nd rfl (Or.inl sc_power_v2) (pe_op op_mulX (pv 2) (pv 0)))))
      (pss_one (ps_ret (pv 2)))))
theorem sc_scatterings : FnScope ["size", "many", "found", "turn", "longer", "one", "place"] ["size", "many"] (defScope s_scatterings) := ⟨rfl, rfl, rfl, by decide +kernel, rfl, by decide +kernel, by decide +kernel⟩
theorem sc_scatterings_v0 : (defScope s_scatterings).names.lookup ("size" : Str) = some .local := by decide +kernel
theorem sc_scatterings_v1 : (defScope s_scatterings).names.lookup ("many" : Str) = some .local := by decide +kernel
theorem sc_scatterings_v2 : (defScope s_scatterings).names.lookup ("found" : Str) = some .local := by decide +kernel
theorem sc_scatterings_v3 : (defScope s_scatterings).names.lookup ("turn" : Str) = some .local := by decide +kernel
theorem sc_scatterings_v4 : (defScope s_scatterings).names.lookup ("longer" : Str) = some .local := by decide +kernel
theorem sc_scatterings_v5 : (defScope s_scatterings).names.lookup ("one" : Str) = some .cell := by decide +kernel
def t_scatterings (K : PySem.W.Frag) (cs : Cs) (E : XK) : TS :=
  (tSeq (tAsg (tLst (tCons (tTup tNil) tNil)) (gName 2))
  (tSeq (tFor (iRng1 (tCons (tVar 1) tNil)) (gName 3)
  (tSeq (tAsg (tLst tNil) (gName 4))
  (tSeq (tFor (iList K (tVar 2)) (gName 5)
  (tDrop (tBM K "list" rExtend (tVar 4) (tCons (tLc (iRng1 (tCons (tVar 0) tNil)) (gName 6) tYes (tOp (rCatA K) (tVar 5) (tTup (tCons (tVar 6) tNil))) [6]) tNil))))
  (tAsg (tVar 4) (gName 2)))))
  (tRet (tVar 2))))
/-- tuples of whole numbers stand at ps -/
inductive TLs (H : Hp) : List Addr → List (List Nat) → Prop where
  | nil : TLs H [] []
  | cons {a : Addr} {ps : List Addr} {b : List Nat} {xs : List (List Nat)} (h : H a = some (.tup (b.map fun n : Nat => V.int (n : Int)))) (r : TLs H ps xs) : TLs H (a :: ps) (b :: xs)
theorem TLs.up {H H' : Hp} (e : Ex H H') : ∀ {ps : List Addr} {xs : List (List Nat)}, TLs H ps xs → TLs H' ps xs
  | _, _, .nil => .nil
  | _, _, .cons h r => .cons (e _ _ h) (r.up e)
theorem TLs.len {H : Hp} : ∀ {ps : List Addr} {xs : List (List Nat)}, TLs H ps xs → ps.length = xs.length
  | _, _, .nil => rfl
  | _, _, .cons _ r => congrArg (· + 1) r.len
theorem TLs.at {H : Hp} : ∀ {ps : List Addr} {xs : List (List Nat)}, TLs H ps xs → ∀ {i : Nat} {p : Addr}, ps[i]? = some p → ∃ b, xs[i]? = some b ∧ H p = some (.tup (b.map fun n : Nat => V.int (n : Int)))
  | _, _, .nil, i, p, h => by simp at h
  | _, _, .cons (b := b) h r, 0, p, e => by
    have e' : _ = p := Option.some.inj e
    subst e'
    exact ⟨b, rfl, h⟩
  | _, _, .cons h r, i + 1, p, e => r.at (i := i) e
theorem TLs.app {H : Hp} : ∀ {ps qs : List Addr} {xs ys : List (List Nat)}, TLs H ps xs → TLs H qs ys → TLs H (ps ++ qs) (xs ++ ys)
  | _, _, _, _, .nil, s => s
  | _, _, _, _, .cons h r, s => .cons h (r.app s)
theorem scatN_len (s : Nat) : ∀ m, (scatN s m).length = s ^ m
  | 0 => rfl
  | m + 1 => by
    have h : ∀ l : List (List Nat), (l.flatMap fun one => (List.range s).map fun p => one ++ [p]).length = l.length * s := fun l => by
      induction l with
      | nil => simp
      | cons a l ih => rw [List.flatMap_cons, List.length_append, ih, List.length_map, List.length_range, List.length_cons, Nat.succ_mul]; omega
    rw [scatN, h, scatN_len s m, Nat.pow_succ]
theorem scatN_at {s : Nat} : ∀ m, ∀ h ∈ scatN s m, h.length = m ∧ ∀ x ∈ h, x < s
  | 0, h, hh => by
    rw [scatN, List.mem_singleton] at hh
    subst hh
    exact ⟨rfl, fun _ h => absurd h List.not_mem_nil⟩
  | m + 1, h, hh => by
    rw [scatN] at hh
    obtain ⟨one, h1, h2⟩ := List.mem_flatMap.mp hh
    obtain ⟨p, h3, rfl⟩ := List.mem_map.mp h2
    obtain ⟨i1, i2⟩ := scatN_at m one h1
    refine ⟨by simp [i1], fun x hx => ?_⟩
    rcases List.mem_append.mp hx with hx | hx
    · exact i2 x hx
    · rw [List.mem_singleton.mp hx]
      exact List.mem_range.mp h3
def sp_scatterings (K : PySem.W.Frag) (_ : Cs) : Sp := fun vs H Q _ => ∃ s m : Nat, vs = [.int (s : Int), .int (m : Int)] ∧ 1 ≤ s ∧ s ≤ 64 ∧ m ≤ 64 ∧ s ^ m ≤ 4096 ∧ ∀ (H' : Hp) (p : Addr) (ps : List Addr), Ex H H' → H p = none → H' p = some (.lst (ps.map V.ref)) → TLs H' ps (scatN s m) → upR Q (.ref p) H'
theorem c_scatterings {K : PySem.W.Frag} {cs : Cs} {H : Hp} {s m : Nat} {i j : Int} {Q : PV} {E : XK} (hi : i = s) (hj : j = m) (h1 : 1 ≤ s) (hs : s ≤ 64) (hm : m ≤ 64) (hp : s ^ m ≤ 4096) (k : ∀ (H' : Hp) (p : Addr) (ps : List Addr), Ex H H' → H p = none → H' p = some (.lst (ps.map V.ref)) → TLs H' ps (scatN s m) → Q (.ref p) H') :
    kC (fun ws H Q => sp_scatterings K cs ws H Q E) [.int i, .int j] H Q := by
  subst hi hj
  exact fun H1 e _ q => ⟨s, m, rfl, h1, hs, hm, hp, fun H' p ps e1 hpp hl hL H2 e2 => q _ _ _ (k H' p ps (e.tr e1) (e.fresh hpp) hl hL) e2⟩
theorem pure_scatterings {K : PySem.W.Frag} {cs : Cs} {H : Hp} {vs : List V} {Q : VK} {E : XK} (h : sp_scatterings K cs vs H Q E) : t_scatterings K cs E { nx := fun _ H' => Q .non H', rt := Q } (start ["size", "many", "found", "turn", "longer", "one", "place"] vs) H := by
  obtain ⟨s, m, rfl, h1, hs, hm, hp, q⟩ := h
  refine fin (σ := [some (.int (s : Int)), some (.int (m : Int)), none, none, none, none, none]) ?_
  unfold t_scatterings
  k_clsL
  rename_i t0 ht0 f0 hf0
  refine s_for ?_
  k_clsL
  refine ⟨by omega, fun i σ H1 => Ex H H1 ∧ ∃ f ps z3 z4 z5, σ = [some (.int (s : Int)), some (.int (m : Int)), some (.ref f), z3, z4, z5, none] ∧ H f = none ∧ H1 f = some (.lst (ps.map V.ref)) ∧ TLs H1 ps (scatN s i),
    ⟨by k_offL, f0, [t0], none, none, none, rfl, Ex.fresh (Ex.news ht0) hf0, upd_same, .cons (by show _ = some (HO.tup []); k_memK) .nil⟩, fun _ _ _ _ _ => trivial, ?_, ?_⟩
  · rintro i σ H1 hi ⟨e1, f, ps, z3, z4, z5, rfl, hfn, hf1, hT⟩
    refine g_name ?_
    k_clsL
    rename_i g hg
    have hpw : s ^ (i + 1) ≤ 4096 := Nat.le_trans (Nat.pow_le_pow_right h1 hi) hp
    have hgf : g ≠ f := fun e => by rw [e, hf1] at hg; cases hg
    refine s_for ?_
    k_clsL
    refine ⟨fun j σ H2 => Ex H1 H2 ∧ ∃ qs z5, σ = [some (.int (s : Int)), some (.int (m : Int)), some (.ref f), some (.int (i : Nat)), some (.ref g), z5, none] ∧ H2 g = some (.lst (qs.map V.ref)) ∧ TLs H2 qs (((scatN s i).take j).flatMap fun one => (List.range s).map fun p => one ++ [p]), ?_, fun j σ H2 _ hw => SqL.of (hw.1 _ _ hf1), ?_, ?_⟩
    · exact ⟨Ex.news hg, [], z5, rfl, upd_same, .nil⟩
    · rintro j σ H2 hj ⟨e2, qs, z5, rfl, hg2, hT2⟩ x hx
      rw [List.getElem?_map] at hx
      have hj2 : j < ps.length := by simpa using hj
      rw [List.getElem?_eq_getElem hj2] at hx
      have hx : V.ref ps[j] = x := Option.some.inj hx
      subst hx
      obtain ⟨one, ho1, ho2⟩ := hT.at (List.getElem?_eq_getElem hj2)
      obtain ⟨hol, _⟩ := scatN_at i one (List.mem_of_getElem? ho1)
      refine g_name ?_
      k_clsL
      refine e_lc ?_
      k_clsL
      refine ⟨by omega, fun D hD => ⟨fun c H3 => Ex H2 H3 ∧ ∃ rs : List Addr, H3 D = some (.lst (rs.map V.ref)) ∧ TLs H3 rs ((List.range c).map fun p => one ++ [p]) ∧ ∀ r ∈ rs, r ≠ D, ?_, fun _ _ _ _ => trivial, ?_, ?_⟩⟩
      · exact ⟨Ex.news hD, [], upd_same, .nil, fun _ h => absurd h List.not_mem_nil⟩
      · rintro c H3 hc ⟨e3, rs, hD3, hT3, hne3⟩
        refine g_name ⟨rfl, t_yes ⟨fun _ => ?_, fun h => by cases h⟩⟩
        k_clsL
        rename_i t1 ht1
        have hot : H3 ps[j] = some (.tup (one.map fun n : Nat => V.int (n : Int))) := e3 _ _ (e2 _ _ ho2)
        refine r_catA (Ex.news ht1 _ _ hot) upd_same (by simp) (Nat.le_trans (m := 100) (by simp; omega) (by decide)) fun r H4 e4 hr4 => ?_
        have e34 : Ex H3 H4 := (Ex.news ht1).tr e4
        have hD4 := e34 _ _ hD3
        have hrD : r ≠ D := fun e => by
          rw [e, hD4] at hr4
          cases hr4
        refine ⟨rs.map V.ref, _, hD4, ?_, ⟨?_, rs ++ [r], ?_, ?_, ?_⟩, Ex.rf⟩
        · rw [List.length_map, hT3.len, List.length_map, List.length_range]
          exact Nat.lt_of_le_of_lt (by omega : c ≤ 100) (by decide)
        · exact (e3.tr e34).mutr hD
        · rw [List.map_append]
          exact upd_same
        · rw [List.range_succ, List.map_append]
          refine TLs.app ?_ (.cons ?_ .nil)
          · have : ∀ {ps : List Addr} {xs : List (List Nat)}, TLs H4 ps xs → (∀ q ∈ ps, q ≠ D) → TLs (upd H4 D (.lst (rs.map V.ref ++ [.ref r]))) ps xs := by
              intro ps xs h
              induction h with
              | nil => exact fun _ => .nil
              | cons h r ih => exact fun hn => .cons (by rw [L2.upd_ne (hn _ List.mem_cons_self)]; exact h) (ih fun q hq => hn q (List.mem_cons_of_mem _ hq))
            exact this (hT3.up e34) hne3
          · rw [L2.upd_ne hrD, hr4]
            simp
        · intro q hq
          rcases List.mem_append.mp hq with hq | hq
          · exact hne3 q hq
          · rw [List.mem_singleton.mp hq]
            exact hrD
      · rintro H3 ⟨e3, rs, hD3, hT3, hne3⟩
        k_clsL
        have hg3 := e3 _ _ hg2
        have hTa := TLs.app (hT2.up e3) hT3
        have hlen : (qs ++ rs).length ≤ 4096 := by
          rw [hTa.len, List.length_append, List.length_map, List.length_range]
          have hfl : ∀ l : List (List Nat), (l.flatMap fun one => (List.range s).map fun p => one ++ [p]).length = l.length * s := fun l => by
            induction l with
            | nil => simp
            | cons a l ih => rw [List.flatMap_cons, List.length_append, ih, List.length_map, List.length_range, List.length_cons, Nat.succ_mul]; omega
          rw [hfl]
          have hjl : j < (scatN s i).length := by rw [← hT.len]; exact hj2
          have : ((scatN s i).take j).length = j := by rw [List.length_take]; omega
          rw [this]
          have h7 : (j + 1) * s ≤ s ^ (i + 1) := by
            rw [Nat.pow_succ, ← scatN_len s i]
            exact Nat.mul_le_mul_right s hjl
          have h6 : (j + 1) * s = j * s + s := Nat.succ_mul j s
          rw [← h6]
          exact Nat.le_trans h7 hpw
        rw [List.length_append] at hlen
        refine m_extend (xs := qs.map V.ref) (zs := rs.map V.ref) hg3 hD3 (by rw [List.length_map, List.length_map]; omega) ?_
        have hgu : ∀ {ps : List Addr} {xs : List (List Nat)}, TLs H3 ps xs → TLs (upd H3 g (.lst (qs.map V.ref ++ rs.map V.ref))) ps xs := by
          intro ps xs h
          induction h with
          | nil => exact .nil
          | cons h r ih => exact .cons (by rw [L2.upd_ne (fun e => by rw [e, hg3] at h; cases h)]; exact h) ih
        refine ⟨_, ⟨?_, qs ++ rs, _, rfl, ?_, ?_⟩, Ex.rf⟩
        · exact (e2.tr e3).mutr hg
        · rw [List.map_append]
          exact upd_same
        · rw [List.take_succ, ho1, Option.toList_some, List.flatMap_append, List.flatMap_singleton]
          exact hgu hTa
    · rintro σ H2 ⟨e2, qs, z5, rfl, hg2, hT2⟩
      rw [List.length_map, hT.len, List.take_length] at hT2
      k_clsL
      exact ⟨_, ⟨e1.tr e2, g, qs, _, _, _, rfl, e1.fresh hg, hg2, hT2⟩, Ex.rf⟩
  · rintro σ H1 ⟨e1, f, ps, z3, z4, z5, rfl, hfn, hf1, hT⟩
    k_clsL
    exact q H1 f ps e1 hfn hf1 hT
theorem ok_scatterings {P : Program} {w : World} {K : PySem.W.Frag} {mg : Str → Option Value} {base : Heap} {cs : Cs} (D_scatterings : Dn K mg "scatterings" s_scatterings ["size", "many"]) (m_range : mg "range" = none) :
    Cal P w K mg base (L2N.CX P w) 1 "scatterings" ["size", "many"] (sp_scatterings K cs) := by
  refine cal_mk D_scatterings sc_scatterings (fun vs H Q E h => ?_) fun f cdv A outer s H vs Q E hr h => ⟨t_scatterings K cs E, ?_, pure_scatterings h⟩
  · unfold sp_scatterings at h
    first | (obtain ⟨rfl, _⟩ := h; rfl) | (obtain ⟨_, rfl, _⟩ := h; rfl) | (obtain ⟨_, _, rfl, _⟩ := h; rfl) | (obtain ⟨_, _, _, rfl, _⟩ := h; rfl) | (obtain ⟨_, _, _, _, rfl, _⟩ := h; rfl) | (obtain ⟨_, _, _, _, _, rfl, _⟩ := h; rfl) | (obtain ⟨_, _, _, _, _, _, rfl, _⟩ := h; rfl) | (obtain ⟨_, _, _, _, _, _, _, rfl, _⟩ := h; rfl) | (obtain ⟨_, _, _, _, _, _, _, _, rfl, _⟩ := h; rfl) | (obtain ⟨_, _, _, _, _, _, _, _, _, rfl, _⟩ := h; rfl) | (obtain ⟨_, _, _, _, _, _, _, _, _, _, rfl, _⟩ := h; rfl) | (obtain ⟨_, _, _, _, _, _, _, _, _, _, _, rfl, _⟩ := h; rfl) | (obtain ⟨_, _, _, _, _, _, _, _, _, _, _, _, rfl, _⟩ := h; rfl) | (obtain ⟨_, _, _, _, _, _, _, _, _, _, _, _, _, rfl, _⟩ := h; rfl) | (obtain ⟨_, _, _, _, _, _, _, _, _, _, _, _, _, _, rfl, _⟩ := h; rfl) | (obtain ⟨_, _, _, _, _, _, _, _, _, _, _, _, _, _, _, rfl, _⟩ := h; rfl)
  · exact (pss_cons (ps_set (i := 2) sc_scatterings.nd rfl (Or.inl sc_scatterings_v2) (pe_lst (pa_cons (pe_tup pa_nil) pa_nil)))
      (pss_cons (ps_for (passes_of rfl) rfl (pi_range1 (by rfl) m_range (pa_cons (pv 1) pa_nil)) (pg_name (i := 3) sc_scatterings.nd rfl (Or.inl sc_scatterings_v3))
      (pss_cons (ps_set (i := 4) sc_scatterings.nd rfl (Or.inl sc_scatterings_v4) (pe_lst pa_nil))
      (pss_cons (ps_for (passes_of rfl) rfl (pi_list (pv 2)) (pg_name (i := 5) sc_scatterings.nd rfl (Or.inr sc_scatterings_v5))
      (pss_one (ps_expr (pe_bm PySem.F.plainAttrs_list PySem.F.slot_list_extend PySem.F.type_list_extend mt_extend (pv 4) (pa_cons (pe_lc (own := [("place", 6)]) (g := (gName 6)) (tt := tYes) (by rfl) sc_scatterings.nd (pi_range1 (by rfl) m_range (pa_cons (pv 0) pa_nil)) (blkOk_by (own := [("place", 6)]) (N := ["size", "many", "found", "turn", "longer", "one", "place"]) (sc := defScope s_scatterings) (by decide +kernel)) (fun _ _ _ _ _ => (pg_name (i := 6) sc_scatterings.nd rfl (Or.inl rfl))) (fun _ _ _ _ _ => pts_nil) (fun _ _ _ _ _ => (pe_op op_catA (pv 5) (pe_tup (pa_cons (pv 6) pa_nil))))) pa_nil)))))
      (pss_one (ps_set (i := 2) sc_scatterings.nd rfl (Or.inl sc_scatterings_v2) (pv 4))))))
      (pss_one (ps_ret (pv 2)))))
theorem sc_laid : FnScope ["homes", "size", "found", "number", "place"] ["homes", "size"] (defScope s_laid) := ⟨rfl, rfl, rfl, by decide +kernel, rfl, by decide +kernel, by decide +kernel⟩
theorem sc_laid_v0 : (defScope s_laid).names.lookup ("homes" : Str) = some .local := by decide +kernel
theorem sc_laid_v1 : (defScope s_laid).names.lookup ("size" : Str) = some .local := by decide +kernel
theorem sc_laid_v2 : (defScope s_laid).names.lookup ("found" : Str) = some .local := by decide +kernel
theorem sc_laid_v3 : (defScope s_laid).names.lookup ("number" : Str) = some .local := by decide +kernel
theorem sc_laid_v4 : (defScope s_laid).names.lookup ("place" : Str) = some .local := by decide +kernel
def t_laid (K : PySem.W.Frag) (cs : Cs) (E : XK) : TS :=
  (tSeq (tAsg (tOp rRep (tLst (tCons (tC .non) tNil)) (tVar 1)) (gName 2))
  (tSeq (tFor (iEnumA K (tCons (tVar 0) tNil)) (gTup K 2 (gCons (gName 3) (gCons (gName 4) gNil)))
  (tSeq (tWhile (tTest (tOp rNotNone (tOp (rIxL K) (tVar 2) (tVar 4)) (tC .non)))
  (tAsg (tOp (rI (fun _ j => 0 < j) fun i j => .int (i % j)) (tOp (rI0 fun i j => .int (i + j)) (tVar 4) (tC (.int 1))) (tVar 1)) (gName 4)))
  (tAsg (tVar 3) (gSub (tVar 2) (tVar 4) rSetL))))
  (tRet (tVar 2))))
def oV : Option Nat → V
  | none => .non
  | some n => .int (n : Int)
/-- taken places of a row, as a list no longer than its turns -/
theorem laidI_occ (size : Nat) (homes : List Nat) : ∀ i, ∃ occ : List Nat, occ.length ≤ i ∧ ∀ j, j < size → frO (laidI size homes i) j = false → j ∈ occ
  | 0 => ⟨[], Nat.le_refl _, fun j hj h => by
    unfold frO laidI at h
    rw [List.getD_eq_getElem?_getD, List.getElem?_replicate] at h
    simp [hj] at h⟩
  | i + 1 => by
    obtain ⟨occ, h1, h2⟩ := laidI_occ size homes i
    refine ⟨prb (frO (laidI size homes i)) size size (homes.getD i 0) :: occ, by simp; omega, fun j hj h => ?_⟩
    by_cases e : j = prb (frO (laidI size homes i)) size size (homes.getD i 0)
    · exact e ▸ List.mem_cons_self
    · refine List.mem_cons_of_mem _ (h2 j hj ?_)
      unfold frO at h ⊢
      rw [laidI, List.getD_eq_getElem?_getD, List.getElem?_set_ne (Ne.symm e), ← List.getD_eq_getElem?_getD] at h
      exact h
theorem laidI_len (size : Nat) (homes : List Nat) : ∀ i, (laidI size homes i).length = size
  | 0 => by simp [laidI]
  | i + 1 => by rw [laidI, List.length_set, laidI_len size homes i]
theorem frO_at {l : List (Option Nat)} {p : Nat} (h : p < l.length) : ((l.map oV)[p]? = some (oV (l.getD p none))) := by
  rw [List.getElem?_map, List.getD_eq_getElem?_getD, List.getElem?_eq_getElem h]
  rfl
def sp_laid (K : PySem.W.Frag) (_ : Cs) : Sp := fun vs H Q _ => ∃ (a : Addr) (homes : List Nat) (size : Nat), vs = [.ref a, .int (size : Int)] ∧ (SqL K H a (homes.map fun n : Nat => V.int (n : Int)) ∨ SqT K H a (homes.map fun n : Nat => V.int (n : Int))) ∧ 0 < size ∧ size ≤ 64 ∧ homes.length ≤ size ∧ (∀ h ∈ homes, h < size) ∧
  ∀ (H' : Hp) (p : Addr), Ex H H' → H p = none → H' p = some (.lst ((laidI size homes homes.length).map oV)) → upR Q (.ref p) H'
theorem c_laid {K : PySem.W.Frag} {cs : Cs} {H : Hp} {a : Addr} {homes : List Nat} {size : Nat} {i : Int} {Q : PV} {E : XK} (hi : i = size) (hs : SqL K H a (homes.map fun n : Nat => V.int (n : Int)) ∨ SqT K H a (homes.map fun n : Nat => V.int (n : Int))) (h0 : 0 < size) (h6 : size ≤ 64) (hl : homes.length ≤ size) (hh : ∀ h ∈ homes, h < size)
    (k : ∀ (H' : Hp) (p : Addr), Ex H H' → H p = none → H' p = some (.lst ((laidI size homes homes.length).map oV)) → Q (.ref p) H') : kC (fun ws H Q => sp_laid K cs ws H Q E) [.ref a, .int i] H Q := by
  subst hi
  exact fun H1 e _ q => ⟨a, homes, size, rfl, hs.imp e.sl e.st, h0, h6, hl, hh, fun H' p e1 hp h1 H2 e2 => q _ _ _ (k H' p (e.tr e1) (e.fresh hp) h1) e2⟩
theorem pure_laid {K : PySem.W.Frag} {cs : Cs} {H : Hp} {vs : List V} {Q : VK} {E : XK} (h : sp_laid K cs vs H Q E) : t_laid K cs E { nx := fun _ H' => Q .non H', rt := Q } (start ["homes", "size", "found", "number", "place"] vs) H := by
  obtain ⟨a, homes, size, rfl, hs, h0, h6, hl, hh, q⟩ := h
  refine fin (σ := [some (.ref a), some (.int (size : Int)), none, none, none]) ?_
  unfold t_laid
  k_clsL
  rename_i a1 ha1
  refine r_rep1 (x := .non) (n := size) (by k_memK) (by omega) fun f hf => ?_
  k_clsL
  refine s_for ?_
  k_clsL
  have ef : Ex H (upd (upd H a1 (.lst [.non])) f (.lst (List.replicate size .non))) := by k_offL
  refine ⟨a, _, H, rfl, ef, hs, fun G hG => ⟨fun i s H1 => Ex (upd H a1 (.lst [.non])) H1 ∧ ∃ z3 z4, s = [some (.ref a), some (.int (size : Int)), some (.ref f), z3, z4] ∧ H1 f = some (.lst ((laidI size homes i).map oV)), ⟨by k_offL, none, none, rfl, ?_⟩, ?_, ?_, ?_⟩⟩
  · rw [upd_same]
    simp [laidI, oV]
  · exact fun i s H1 _ hw => hG _ ((Ex.news ha1).tr hw.1)
  · rintro i s H1 hi ⟨e1, z3, z4, rfl, hf1⟩ T x z hT hx hz
    have hi2 : i < homes.length := by simpa using hi
    have hx : V.int (i : Nat) = x := Option.some.inj hx
    have hz : (homes.map fun n : Nat => V.int (n : Int))[i]? = some z := hz
    rw [List.getElem?_map, List.getElem?_eq_getElem hi2] at hz
    have hz : V.int ((homes[i] : Nat) : Int) = z := Option.some.inj hz
    subst hx hz
    have hhi := hh _ (List.getElem_mem hi2)
    have hgi : homes.getD i 0 = homes[i] := by rw [List.getD_eq_getElem?_getD, List.getElem?_eq_getElem hi2]; rfl
    have hlen := laidI_len size homes i
    obtain ⟨occ, ho1, ho2⟩ := laidI_occ size homes i
    have htf : frO (laidI size homes i) (prb (frO (laidI size homes i)) size size homes[i]) = true := prb_free _ _ hhi (free_some h0 occ (by omega) ho2)
    have htl : prb (frO (laidI size homes i)) size size homes[i] < size := prb_lt h0 _ _ hhi
    have hnext : laidI size homes (i + 1) = (laidI size homes i).set (prb (frO (laidI size homes i)) size size homes[i]) (some i) := by rw [laidI, hgi]
    k_clsL
    generalize htg : prb (frO (laidI size homes i)) size size homes[i] = tg at *
    generalize laidI size homes i = L at *
    refine s_while (fun k s' H2 => Ex (upd H1 T (.tup [.int (i : Nat), .int ((homes[i] : Nat) : Int)])) H2 ∧ ∃ p : Nat, p < size ∧ prb (frO L) size k p = tg ∧ s' = [some (.ref a), some (.int (size : Int)), some (.ref f), some (.int (i : Nat)), some (.int (p : Int))]) size ⟨Ex.rf, homes[i], hhi, htg, rfl⟩ ?_
    rintro k s' H2 ⟨e2, p, hp, hpt, rfl⟩
    have hf2 := e2 _ _ (Ex.news hT _ _ hf1)
    k_clsL
    refine r_ixL (SqL.of hf2) (atI_nat (frO_at (by omega))) ?_
    k_clsL
    cases hg : L.getD p none with
    | none =>
      show kR rNotNone .non .non _ _
      k_clsL
      have hfp : frO L p = true := by unfold frO; rw [hg]; rfl
      have ept : p = tg := by
        rw [← hpt]
        cases k with
        | zero => rfl
        | succ k => unfold prb; rw [if_pos hfp]
      subst ept
      refine g_subL ?_
      k_clsL
      refine ⟨f, _, _, p, rfl, rfl, hf2, ?_, ?_⟩
      · rw [List.length_map, hlen]
        exact ixN_nat htl
      · refine ⟨_, ⟨?_, _, _, rfl, ?_⟩, Ex.rf⟩
        · exact Ex.mutr (e1.tr ((Ex.news hT).tr e2)) hf
        · rw [upd_same, hnext, List.map_set]
          rfl
    | some v =>
      show kR rNotNone (.int (v : Int)) .non _ _
      k_clsL
      have hfp : ¬ frO L p = true := by unfold frO; rw [hg]; simp
      cases k with
      | zero =>
        have : p = tg := hpt
        rw [this] at hfp
        exact absurd htf hfp
      | succ k =>
        refine ⟨k, _, by omega, ⟨e2, (p + 1) % size, Nat.mod_lt _ h0, ?_, ?_⟩, Ex.rf⟩
        · rw [← hpt, prb, if_neg hfp]
        · rfl
  · rintro s H1 ⟨e1, z3, z4, rfl, hf1⟩
    rw [List.length_map] at hf1
    k_clsL
    exact q H1 f ((Ex.news ha1).tr e1) (Ex.fresh (Ex.news ha1) hf) hf1
theorem ok_laid {P : Program} {w : World} {K : PySem.W.Frag} {mg : Str → Option Value} {base : Heap} {cs : Cs} (D_laid : Dn K mg "laid" s_laid ["homes", "size"]) (m_enumerate : mg "enumerate" = none) :
    Cal P w K mg base (L2N.CX P w) 1 "laid" ["homes", "size"] (sp_laid K cs) := by
  refine cal_mk D_laid sc_laid (fun vs H Q E h => ?_) fun f cdv A outer s H vs Q E hr h => ⟨t_laid K cs E, ?_, pure_laid h⟩
  · unfold sp_laid at h
    first | (obtain ⟨rfl, _⟩ := h; rfl) | (obtain ⟨_, rfl, _⟩ := h; rfl) | (obtain ⟨_, _, rfl, _⟩ := h; rfl) | (obtain ⟨_, _, _, rfl, _⟩ := h; rfl) | (obtain ⟨_, _, _, _, rfl, _⟩ := h; rfl) | (obtain ⟨_, _, _, _, _, rfl, _⟩ := h; rfl) | (obtain ⟨_, _, _, _, _, _, rfl, _⟩ := h; rfl) | (obtain ⟨_, _, _, _, _, _, _, rfl, _⟩ := h; rfl) | (obtain ⟨_, _, _, _, _, _, _, _, rfl, _⟩ := h; rfl) | (obtain ⟨_, _, _, _, _, _, _, _, _, rfl, _⟩ := h; rfl) | (obtain ⟨_, _, _, _, _, _, _, _, _, _, rfl, _⟩ := h; rfl) | (obtain ⟨_, _, _, _, _, _, _, _, _, _, _, rfl, _⟩ := h; rfl) | (obtain ⟨_, _, _, _, _, _, _, _, _, _, _, _, rfl, _⟩ := h; rfl) | (obtain ⟨_, _, _, _, _, _, _, _, _, _, _, _, _, rfl, _⟩ := h; rfl) | (obtain ⟨_, _, _, _, _, _, _, _, _, _, _, _, _, _, rfl, _⟩ := h; rfl) | (obtain ⟨_, _, _, _, _, _, _, _, _, _, _, _, _, _, _, rfl, _⟩ := h; rfl)
  · exact (pss_cons (ps_set (i := 2) sc_laid.nd rfl (Or.inl sc_laid_v2) (pe_op op_rep (pe_lst (pa_cons pe_non pa_nil)) (pv 1)))
      (pss_cons (ps_for (passes_of rfl) rfl (pi_enumA (by rfl) m_enumerate (pa_cons (pv 0) pa_nil)) (pg_tup rfl (pgs_cons (pg_name (i := 3) sc_laid.nd rfl (Or.inl sc_laid_v3)) (pgs_cons (pg_name (i := 4) sc_laid.nd rfl (Or.inl sc_laid_v4)) pgs_nil)))
      (pss_cons (ps_while (passes_of rfl) (pt_cmpR op_notN (pe_ix ix_list (pv 2) (pv 4) (fun _ _ => rfl)) pe_non (nomark _))
      (pss_one (ps_set (i := 4) sc_laid.nd rfl (Or.inl sc_laid_v4) (pe_op op_mod (pe_op op_add (pv 4) pe_int) (pv 1)))))
      (pss_one (ps_asg (pv 3) (pg_sub (pv 2) (pv 4) set_list)))))
      (pss_one (ps_ret (pv 2)))))
theorem sc_ways_of : FnScope ["homes", "size", "found", "place", "number"] ["homes", "size"] (defScope s_ways_of) := ⟨rfl, rfl, rfl, by decide +kernel, rfl, by decide +kernel, by decide +kernel⟩
theorem sc_ways_of_v0 : (defScope s_ways_of).names.lookup ("homes" : Str) = some .local := by decide +kernel
theorem sc_ways_of_v1 : (defScope s_ways_of).names.lookup ("size" : Str) = some .local := by decide +kernel
theorem sc_ways_of_v2 : (defScope s_ways_of).names.lookup ("found" : Str) = some .local := by decide +kernel
theorem sc_ways_of_v3 : (defScope s_ways_of).names.lookup ("place" : Str) = some .local := by decide +kernel
theorem sc_ways_of_v4 : (defScope s_ways_of).names.lookup ("number" : Str) = some .local := by decide +kernel
def t_ways_of (K : PySem.W.Frag) (cs : Cs) (E : XK) : TS :=
  (tSeq (tAsg (tC (.int 0)) (gName 2))
  (tSeq (tFor (iEnum K (tCons (tCall (sp_laid K cs) [] E0 (tCons (tVar 0) (tCons (tVar 1) tNil))) tNil)) (gTup K 2 (gCons (gName 3) (gCons (gName 4) gNil)))
  (tIfS (tTest (tOp rNotNone (tVar 4) (tC .non)))
  (tAsg (tOp (rI0 fun i j => .int (i + j)) (tVar 2) (tOp (rI (fun _ j => 0 < j) fun i j => .int (i % j)) (tOp (rI0 fun i j => .int (i - j)) (tVar 3) (tOp (rIxT K) (tVar 0) (tVar 4))) (tVar 1))) (gName 2))
  tNext))
  (tRet (tVar 2))))
theorem wayS_step {size : Nat} {homes : List Nat} {l : List (Option Nat)} {p : Nat} : wayS size homes l (p + 1) = wayS size homes l p + wayAt size homes p (l.getD p none) := rfl
theorem laidI_val {size : Nat} {homes : List Nat} : ∀ i, ∀ o ∈ laidI size homes i, ∀ n, o = some n → n < i
  | 0, o, h, n, e => by
    have := (List.mem_replicate.mp h).2
    rw [this] at e
    cases e
  | i + 1, o, h, n, e => by
    rw [laidI] at h
    rcases List.mem_or_eq_of_mem_set h with h | h
    · exact Nat.lt_succ_of_lt (laidI_val i o h n e)
    · rw [h] at e
      cases e
      exact Nat.lt_succ_self i
def sp_ways_of (K : PySem.W.Frag) (_ : Cs) : Sp := fun vs H Q _ => ∃ (a : Addr) (homes : List Nat) (size : Nat), vs = [.ref a, .int (size : Int)] ∧ H a = some (.tup (homes.map fun n : Nat => V.int (n : Int))) ∧ 0 < size ∧ size ≤ 64 ∧ homes.length ≤ size ∧ (∀ h ∈ homes, h < size) ∧ upR Q (.int ((wayN size homes : Nat) : Int)) H
theorem c_ways_of {K : PySem.W.Frag} {cs : Cs} {H : Hp} {a : Addr} {homes : List Nat} {size : Nat} {i : Int} {Q : PV} {E : XK} (hi : i = size) (hs : H a = some (.tup (homes.map fun n : Nat => V.int (n : Int)))) (h0 : 0 < size) (h6 : size ≤ 64) (hl : homes.length ≤ size) (hh : ∀ h ∈ homes, h < size) (k : Q (.int ((wayN size homes : Nat) : Int)) H) :
    kC (fun ws H Q => sp_ways_of K cs ws H Q E) [.ref a, .int i] H Q := by
  subst hi
  exact fun H1 e _ q => ⟨a, homes, size, rfl, e _ _ hs, h0, h6, hl, hh, fun H2 e2 => q _ _ _ k (e.tr e2)⟩
theorem pure_ways_of {K : PySem.W.Frag} {cs : Cs} {H : Hp} {vs : List V} {Q : VK} {E : XK} (h : sp_ways_of K cs vs H Q E) : t_ways_of K cs E { nx := fun _ H' => Q .non H', rt := Q } (start ["homes", "size", "found", "place", "number"] vs) H := by
  obtain ⟨a, homes, size, rfl, hs, h0, h6, hl, hh, q⟩ := h
  refine fin (σ := [some (.ref a), some (.int (size : Int)), none, none, none]) ?_
  unfold t_ways_of
  k_clsL
  refine s_for ?_
  k_clsL
  refine c_laid rfl (.inr (SqT.of hs)) h0 h6 hl hh fun H1 p e1 hpn hp => ?_
  have hlen := laidI_len size homes homes.length
  have hval := laidI_val (size := size) (homes := homes) homes.length
  have hN : wayN size homes = wayS size homes (laidI size homes homes.length) size := rfl
  rw [hN] at q
  generalize laidI size homes homes.length = L at *
  k_clsL
  refine ⟨fun i s H2 => Ex H1 H2 ∧ ∃ z3 z4, s = [some (.ref a), some (.int (size : Int)), some (.int ((wayS size homes L i : Nat) : Int)), z3, z4], ⟨Ex.rf, none, none, rfl⟩, fun i s H2 _ hw => SqL.of (hw.1 _ _ hp), ?_, ?_⟩
  · rintro i s H2 hi ⟨e2, z3, z4, rfl⟩ T x z hT hx hz
    have hi2 : i < L.length := by simpa using hi
    have hx : V.int (i : Nat) = x := Option.some.inj hx
    have hz : (L.map oV)[i]? = some z := hz
    rw [frO_at hi2] at hz
    have hz := Option.some.inj hz
    subst hx hz
    have hmem : L.getD i none ∈ L := by
      rw [List.getD_eq_getElem?_getD, List.getElem?_eq_getElem hi2]
      exact List.getElem_mem hi2
    have hst := wayS_step (size := size) (homes := homes) (l := L) (p := i)
    k_clsL
    cases hg : L.getD i none with
    | none =>
      show kR rNotNone .non .non _ _
      k_clsL
      refine ⟨_, ⟨e2, some (.int (i : Nat)), some .non, ?_⟩, Ex.news hT⟩
      rw [hst, hg]
      rfl
    | some v =>
      show kR rNotNone (.int (v : Int)) .non _ _
      have hv : v < homes.length := hval _ hmem v hg
      have hh2 := hh _ (List.getElem_mem hv)
      k_clsL
      refine r_ixT (v := .int ((homes[v] : Nat) : Int)) (SqT.of (Ex.news hT _ _ (e2 _ _ (e1 _ _ hs)))) (atI_nat (by rw [List.getElem?_map, List.getElem?_eq_getElem hv]; rfl)) ?_
      k_clsL
      refine ⟨_, ⟨e2, some (.int (i : Nat)), some (.int (v : Int)), ?_⟩, Ex.news hT⟩
      rw [hst, hg]
      have hd : homes.getD v 0 = homes[v] := by rw [List.getD_eq_getElem?_getD, List.getElem?_eq_getElem hv]; rfl
      have e3 : ((i : Int) - ((homes[v] : Nat) : Int)) % (size : Int) = (((i + size - homes[v]) % size : Nat) : Int) := by
        rw [Int.natCast_emod, show ((i + size - homes[v] : Nat) : Int) = (i : Int) - ((homes[v] : Nat) : Int) + (size : Int) by omega, Int.add_emod_right]
      rw [e3, wayAt, hd]
      rfl
  · rintro s H2 ⟨e2, z3, z4, rfl⟩
    rw [List.length_map, hlen]
    k_clsL
    exact upX q (e1.tr e2)
theorem ok_ways_of {P : Program} {w : World} {K : PySem.W.Frag} {mg : Str → Option Value} {base : Heap} {cs : Cs} (D_ways_of : Dn K mg "ways_of" s_ways_of ["homes", "size"]) (cal_laid : Cal P w K mg base (L2N.CX P w) 1 "laid" ["homes", "size"] (sp_laid K cs)) (m_enumerate : mg "enumerate" = none) :
    Cal P w K mg base (L2N.CX P w) 2 "ways_of" ["homes", "size"] (sp_ways_of K cs) := by
  refine cal_mk D_ways_of sc_ways_of (fun vs H Q E h => ?_) fun f cdv A outer s H vs Q E hr h => ⟨t_ways_of K cs E, ?_, pure_ways_of h⟩
  · unfold sp_ways_of at h
    first | (obtain ⟨rfl, _⟩ := h; rfl) | (obtain ⟨_, rfl, _⟩ := h; rfl) | (obtain ⟨_, _, rfl, _⟩ := h; rfl) | (obtain ⟨_, _, _, rfl, _⟩ := h; rfl) | (obtain ⟨_, _, _, _, rfl, _⟩ := h; rfl) | (obtain ⟨_, _, _, _, _, rfl, _⟩ := h; rfl) | (obtain ⟨_, _, _, _, _, _, rfl, _⟩ := h; rfl) | (obtain ⟨_, _, _, _, _, _, _, rfl, _⟩ := h; rfl) | (obtain ⟨_, _, _, _, _, _, _, _, rfl, _⟩ := h; rfl) | (obtain ⟨_, _, _, _, _, _, _, _, _, rfl, _⟩ := h; rfl) | (obtain ⟨_, _, _, _, _, _, _, _, _, _, rfl, _⟩ := h; rfl) | (obtain ⟨_, _, _, _, _, _, _, _, _, _, _, rfl, _⟩ := h; rfl) | (obtain ⟨_, _, _, _, _, _, _, _, _, _, _, _, rfl, _⟩ := h; rfl) | (obtain ⟨_, _, _, _, _, _, _, _, _, _, _, _, _, rfl, _⟩ := h; rfl) | (obtain ⟨_, _, _, _, _, _, _, _, _, _, _, _, _, _, rfl, _⟩ := h; rfl) | (obtain ⟨_, _, _, _, _, _, _, _, _, _, _, _, _, _, _, rfl, _⟩ := h; rfl)
  · exact (pss_cons (ps_set (i := 2) sc_ways_of.nd rfl (Or.inl sc_ways_of_v2) pe_int)
      (pss_cons (ps_for (passes_of rfl) rfl (pi_enum (by rfl) m_enumerate (pa_cons (pe_cal cal_laid hr (by decide) (by rfl) passN (pa_cons (pv 0) (pa_cons (pv 1) pa_nil))) pa_nil)) (pg_tup rfl (pgs_cons (pg_name (i := 3) sc_ways_of.nd rfl (Or.inl sc_ways_of_v3)) (pgs_cons (pg_name (i := 4) sc_ways_of.nd rfl (Or.inl sc_ways_of_v4)) pgs_nil)))
      (pss_one (ps_if (pt_cmpR op_notN (pv 4) pe_non (nomark _))
      (pss_one (ps_set (i := 2) sc_ways_of.nd rfl (Or.inl sc_ways_of_v2) (pe_op op_add (pv 2) (pe_op op_mod (pe_op op_sub (pv 3) (pe_ix ix_tup (pv 0) (pv 4) (fun _ _ => rfl))) (pv 1)))))
      pss_nil)))
      (pss_one (ps_ret (pv 2)))))
theorem sc_spread : FnScope ["size", "many", "counts", "homes", "far"] ["size", "many"] (defScope s_spread) := ⟨rfl, rfl, rfl, by decide +kernel, rfl, by decide +kernel, by decide +kernel⟩
theorem sc_spread_v0 : (defScope s_spread).names.lookup ("size" : Str) = some .local := by decide +kernel
theorem sc_spread_v1 : (defScope s_spread).names.lookup ("many" : Str) = some .local := by decide +kernel
theorem sc_spread_v2 : (defScope s_spread).names.lookup ("counts" : Str) = some .cell := by decide +kernel
theorem sc_spread_v3 : (defScope s_spread).names.lookup ("homes" : Str) = some .local := by decide +kernel
theorem sc_spread_v4 : (defScope s_spread).names.lookup ("far" : Str) = some .local := by decide +kernel
def t_spread (K : PySem.W.Frag) (cs : Cs) (E : XK) : TS :=
  (tSeq (tDrop (tCall (sp_need_size K cs) [] E (tCons (tVar 0) tNil)))
  (tSeq (tDrop (tCall (sp_need_count K cs) [] E (tCons (tVar 1) (tCons (tC (.int 0)) (tCons (tOp (rI0 fun i j => .int (i - j)) (tVar 0) (tC (.int 1))) tNil)))))
  (tSeq (tIfS (tTest (tOp (rI0 fun i j => .bl (decide (j < i))) (tCall (sp_power K cs) [] E0 (tCons (tVar 0) (tCons (tVar 1) tNil))) (tC (.int 4096))))
  (tRaise E cs.TooMany)
  tNext)
  (tSeq (tAsg tDNewK (gName 2))
  (tSeq (tFor (iList K (tCall (sp_scatterings K cs) [] E0 (tCons (tVar 0) (tCons (tVar 1) tNil)))) (gName 3)
  (tSeq (tAsg (tCall (sp_ways_of K cs) [] E0 (tCons (tVar 3) (tCons (tVar 0) tNil))) (gName 4))
  (tAsg (tOp (rI0 fun i j => .int (i + j)) (tDGet2 (tVar 2) (tVar 4) (tC (.int 0))) (tC (.int 1))) (gSub (tVar 2) (tVar 4) rSetD))))
  (tRet (tLc (iRng1 (tCons (tOp (rI0 fun i j => .int (i + j)) (tCB rMaxK (tCons (tVar 2) tNil)) (tC (.int 1))) tNil)) (gName 4) tYes (tDGet2 (tVar 2) (tVar 4) (tC (.int 0))) [4])))))))
/-- what spread answers -/
def SpreadW (cs : Cs) (x y : V) (G : Nat → Nat → Prop) (B : Addr → Str → Prop) : Prop :=
  (((cnt x 2 64 = false) ∨ ∃ s : Nat, x = .int (s : Int) ∧ 2 ≤ s ∧ s ≤ 64 ∧ cnt y 0 ((s : Int) - 1) = false) ∧ B cs.BadSize "BadSize") ∨ ∃ s m : Nat, x = .int (s : Int) ∧ y = .int (m : Int) ∧ 2 ≤ s ∧ s ≤ 64 ∧ m + 1 ≤ s ∧ ((4096 < s ^ m ∧ B cs.TooMany "TooMany") ∨ (s ^ m ≤ 4096 ∧ G s m))
theorem SpreadW.up {cs : Cs} {x y : V} {G G' : Nat → Nat → Prop} {B B' : Addr → Str → Prop} (g : ∀ s m, G s m → G' s m) (b : ∀ c nm, wordOf cs c nm → B c nm → B' c nm) (h : SpreadW cs x y G B) : SpreadW cs x y G' B' := by
  rcases h with ⟨h, k⟩ | ⟨s, m, h1, h2, h3, h4, h5, h6 | h6⟩
  · exact .inl ⟨h, b _ _ w_size k⟩
  · exact .inr ⟨s, m, h1, h2, h3, h4, h5, .inl ⟨h6.1, b _ _ w_many h6.2⟩⟩
  · exact .inr ⟨s, m, h1, h2, h3, h4, h5, .inr ⟨h6.1, g _ _ h6.2⟩⟩
def SpG (Q : PV) (H : Hp) (s m : Nat) : Prop := ∀ (H' : Hp) (p : Addr) (M : Nat), Ex H H' → H p = none → 0 < cntP s m M → (∀ j, 0 < cntP s m j → j ≤ M) → H' p = some (.lst ((nI ((List.range (M + 1)).map fun f => cntP s m f)).map V.int)) → Q (.ref p) H'
theorem SpG.up {Q : PV} {Q1 : VK} {H H1 : Hp} {s m : Nat} (e : Ex H H1) (q : ∀ v H0 H2, Q v H0 → Ex H0 H2 → Q1 v H2) (h : SpG Q H s m) : SpG (upR Q1) H1 s m := fun H' p M e1 hp h1 h2 hl H2 e2 => q _ _ _ (h H' p M (e.tr e1) (e.fresh hp) h1 h2 hl) e2
def sp_spread (K : PySem.W.Frag) (cs : Cs) : Sp := fun vs H Q E => ∃ x y T T', vs = [x, y] ∧ Ty5 K H x T ∧ Ty5 K H y T' ∧ SpreadW cs x y (SpG (upR Q) H) (fun c _ => ∀ H2, Ex H H2 → E (.ref c) none H2)
theorem c_spread {K : PySem.W.Frag} {cs : Cs} {H : Hp} {x y : V} {T T' : String} {Q : PV} {E : XK} (hx : Ty5 K H x T) (hy : Ty5 K H y T') (h : SpreadW cs x y (SpG Q H) (fun c _ => ∀ H2, Ex H H2 → E (.ref c) none H2)) : kC (fun ws H Q => sp_spread K cs ws H Q E) [x, y] H Q :=
  fun H1 e _ q => ⟨x, y, T, T', rfl, hx.up e, hy.up e, h.up (fun s m g => g.up e q) fun c nm _ k H2 e2 => k H2 (e.tr e2)⟩
theorem pure_spread {K : PySem.W.Frag} {cs : Cs} {H : Hp} {vs : List V} {Q : VK} {E : XK} (h : sp_spread K cs vs H Q E) : t_spread K cs E { nx := fun _ H' => Q .non H', rt := Q } (start ["size", "many", "counts", "homes", "far"] vs) H := by
  obtain ⟨x, y, T, T', rfl, hx, hy, h⟩ := h
  refine fin (σ := [some x, some y, none, none, none]) ?_
  unfold t_spread
  rcases h with ⟨h | ⟨s, rfl, h2, h6, h⟩, k⟩ | ⟨s, m, rfl, rfl, h2, h6, hm, h⟩
  · k_clsL
    exact bF h k
  · k_clsL
    refine bT (cnt_ok (by omega) (by omega)) ?_
    k_clsL
    exact bF h k
  · k_clsL
    refine bT (cnt_ok (by omega) (by omega)) ?_
    k_clsL
    refine bT (cnt_ok (by omega) (by omega)) ?_
    k_clsL
    refine c_power rfl rfl (by omega) (by omega) ?_
    k_clsL
    rcases h with ⟨h, k⟩ | ⟨h, k⟩
    · refine bT (decide_eq_true (by omega)) ?_
      exact s_raise k
    · refine bF (decide_eq_false (by omega)) ?_
      k_clsL
      rename_i d hd
      refine s_for ?_
      k_clsL
      refine c_scatterings rfl rfl (by omega) h6 (by omega) h fun H1 l ps e1 hl hl1 hT => ?_
      have hpl : ps.length = s ^ m := by rw [hT.len, scatN_len]
      refine ⟨l, _, rfl, SqL.of hl1, fun i σ H2 => (∀ a o, a ≠ d → H1 a = some o → H2 a = some o) ∧ ∃ z3 z4, σ = [some (.int (s : Int)), some (.int (m : Int)), some (.ref d), z3, z4] ∧ CntD H2 d (fun f => ((scatN s m).take i).countP fun h => wayN s h == f) i, ?_, ?_, ?_, ?_⟩
      · exact ⟨fun a o _ h => h, none, none, rfl, cntD_new.up e1⟩
      · exact fun i σ H2 _ hw => SqL.of (hw.1 _ _ (fun e => by rw [e, upd_same] at hl; cases hl) hl1)
      · rintro i σ H2 hi ⟨e2, z3, z4, rfl, hC⟩ x hx
        rw [List.length_map, hpl] at hi
        have hi2 : i < ps.length := by omega
        rw [List.getElem?_map, List.getElem?_eq_getElem hi2] at hx
        have hx : V.ref ps[i] = x := Option.some.inj hx
        subst hx
        obtain ⟨hs, ho1, ho2⟩ := hT.at (List.getElem?_eq_getElem hi2)
        obtain ⟨hol, hox⟩ := scatN_at m hs (List.mem_of_getElem? ho1)
        have hd1 : H1 d = some (.dK []) := e1 _ _ upd_same
        have hpd : ps[i] ≠ d := fun e => by rw [e, hd1] at ho2; cases ho2
        refine g_name ?_
        k_clsL
        refine c_ways_of rfl (e2 _ _ hpd ho2) (by omega) h6 (by omega) hox ?_
        k_clsL
        refine e_getC ?_
        k_clsL
        refine ⟨⟨_, _, hC⟩, ?_⟩
        k_clsL
        refine ⟨_, _, _, hC, rfl, ?_⟩
        k_clsL
        refine g_setC ?_
        k_clsL
        refine ⟨d, _, i, _, ((scatN s m).take i).countP (fun h => wayN s h == wayN s hs) + 1, rfl, rfl, hC, by omega, rfl, by omega, fun kvs hC2 => ?_⟩
        refine ⟨_, ⟨fun a o ha h => by rw [L2.upd_ne ha]; exact e2 a o ha h, _, _, rfl, ?_⟩, Ex.rf⟩
        have ef : (fun k => if k = wayN s hs then ((scatN s m).take i).countP (fun h => wayN s h == wayN s hs) + 1 else ((scatN s m).take i).countP fun h => wayN s h == k) = fun f => ((scatN s m).take (i + 1)).countP fun h => wayN s h == f := by
          funext f
          rw [List.take_succ, ho1, List.countP_append]
          by_cases z : f = wayN s hs
          · subst z
            simp
          · rw [if_neg z]
            simp [Ne.symm z]
        rw [ef] at hC2
        exact hC2
      · rintro σ H2 ⟨e2, z3, z4, rfl, hC⟩
        rw [List.length_map, hpl, ← scatN_len s m, List.take_length] at hC
        have hpos : 0 < s ^ m := Nat.pow_pos (by omega)
        have eH2 : Ex H H2 := fun a o h => e2 a o (fun e => by rw [e, hd] at h; cases h) (e1 a o (by rw [L2.upd_ne (fun e => by rw [e, hd] at h; cases h)]; exact h))
        obtain ⟨h0, hh0⟩ : ∃ h0, (scatN s m)[0]? = some h0 := ⟨_, List.getElem?_eq_getElem (by rw [scatN_len]; exact hpos)⟩
        have hj0 : 0 < (scatN s m).countP fun h => wayN s h == wayN s h0 := List.countP_pos_iff.mpr ⟨h0, List.mem_of_getElem? hh0, by simp⟩
        k_clsL
        refine e_lcZ ?_
        k_clsL
        refine c_maxD (j0 := wayN s h0) hC hj0 fun M hM1 hM2 => ?_
        have hMb : M < 100000 := by
          obtain ⟨hs, hm1, hm2⟩ := List.countP_pos_iff.mp hM1
          have hw : wayN s hs ≤ s * s := by
            have : ∀ n, wayS s hs (laidI s hs hs.length) n ≤ n * s := fun n => by
              induction n with
              | zero => exact Nat.zero_le _
              | succ n ih =>
                rw [wayS_step, Nat.succ_mul]
                refine Nat.add_le_add ih ?_
                unfold wayAt
                split
                · exact Nat.zero_le _
                · exact Nat.le_of_lt (Nat.mod_lt _ (by omega))
            exact this s
          have h9 : s * s ≤ 64 * 64 := Nat.mul_le_mul h6 h6
          have h8 : wayN s hs = M := by simpa using hm2
          omega
        k_clsL
        refine ⟨(by show M + 1 < 2 ^ 61; omega), trivial, (by show M + 1 ≤ 100000; omega), (nI ((List.range (M + 1)).map fun f => cntP s m f)).map V.int, by simp [nI], fun D acc i hD hi => ?_, fun D hD => ?_⟩
        · have hi : i < M + 1 := hi
          refine g_name ⟨rfl, t_yes ⟨rfl, ?_⟩⟩
          have hC3 := hC.up (Ex.news (o := .lst acc) hD)
          refine e_getC ?_
          k_clsL
          refine ⟨⟨_, _, hC3⟩, ?_⟩
          k_clsL
          refine ⟨_, _, i, hC3, rfl, ?_, by k_offL⟩
          rw [nI_map, List.getElem?_map, List.getElem?_range hi]
          rfl
        · refine k _ _ M ?_ ?_ hM1 hM2 upd_same
          · exact Ex.newr eH2 hD
          · exact eH2.fresh hD
theorem ok_spread {P : Program} {w : World} {K : PySem.W.Frag} {mg : Str → Option Value} {base : Heap} {cs : Cs} (D_spread : Dn K mg "spread" s_spread ["size", "many"]) (cal_need_size : Cal P w K mg base (L2N.CX P w) 2 "need_size" ["size"] (sp_need_size K cs)) (cal_need_count : Cal P w K mg base (L2N.CX P w) 2 "need_count" ["number", "least", "most"] (sp_need_count K cs)) (cal_power : Cal P w K mg base (L2N.CX P w) 1 "power" ["size", "many"] (sp_power K cs)) (cal_scatterings : Cal P w K mg base (L2N.CX P w) 1 "scatterings" ["size", "many"] (sp_scatterings K cs)) (cal_ways_of : Cal P w K mg base (L2N.CX P w) 2 "ways_of" ["homes", "size"] (sp_ways_of K cs)) (m_range : mg "range" = none) (m_max : mg "max" = none) (k_MOST_SCATTERINGS : ∃ t, mg "MOST_SCATTERINGS" = some (.int 4096 t)) (x_TooMany : ExcT K mg "TooMany" cs.TooMany) :
    Cal P w K mg base (L2N.CX P w) 3 "spread" ["size", "many"] (sp_spread K cs) := by
  refine cal_mk D_spread sc_spread (fun vs H Q E h => ?_) fun f cdv A outer s H vs Q E hr h => ⟨t_spread K cs E, ?_, pure_spread h⟩
  · unfold sp_spread at h
    first | (obtain ⟨rfl, _⟩ := h; rfl) | (obtain ⟨_, rfl, _⟩ := h; rfl) | (obtain ⟨_, _, rfl, _⟩ := h; rfl) | (obtain ⟨_, _, _, rfl, _⟩ := h; rfl) | (obtain ⟨_, _, _, _, rfl, _⟩ := h; rfl) | (obtain ⟨_, _, _, _, _, rfl, _⟩ := h; rfl) | (obtain ⟨_, _, _, _, _, _, rfl, _⟩ := h; rfl) | (obtain ⟨_, _, _, _, _, _, _, rfl, _⟩ := h; rfl) | (obtain ⟨_, _, _, _, _, _, _, _, rfl, _⟩ := h; rfl) | (obtain ⟨_, _, _, _, _, _, _, _, _, rfl, _⟩ := h; rfl) | (obtain ⟨_, _, _, _, _, _, _, _, _, _, rfl, _⟩ := h; rfl) | (obtain ⟨_, _, _, _, _, _, _, _, _, _, _, rfl, _⟩ := h; rfl) | (obtain ⟨_, _, _, _, _, _, _, _, _, _, _, _, rfl, _⟩ := h; rfl) | (obtain ⟨_, _, _, _, _, _, _, _, _, _, _, _, _, rfl, _⟩ := h; rfl) | (obtain ⟨_, _, _, _, _, _, _, _, _, _, _, _, _, _, rfl, _⟩ := h; rfl) | (obtain ⟨_, _, _, _, _, _, _, _, _, _, _, _, _, _, _, rfl, _⟩ := h; rfl)
  · exact (pss_cons (ps_expr (pe_cal cal_need_size hr (by decide) (by rfl) (L2N.passes_call (L2N.takes_of (E := E) rfl rfl rfl rfl) fun _ _ _ _ h => h) (pa_cons (pv 0) pa_nil)))
      (pss_cons (ps_expr (pe_cal cal_need_count hr (by decide) (by rfl) (L2N.passes_call (L2N.takes_of (E := E) rfl rfl rfl rfl) fun _ _ _ _ h => h) (pa_cons (pv 1) (pa_cons pe_int (pa_cons (pe_op op_sub (pv 0) pe_int) pa_nil)))))
      (pss_cons (ps_if (pt_cmpR op_gt (pe_cal cal_power hr (by decide) (by rfl) passN (pa_cons (pv 0) (pa_cons (pv 1) pa_nil))) (pe_gI (n := 4096) (by rfl) k_MOST_SCATTERINGS) (nomark _))
      (pss_one (ps_raiseT x_TooMany rfl (L2N.takes_of (E := E) rfl rfl rfl rfl) (by rfl)))
      pss_nil)
      (pss_cons (ps_set (i := 2) sc_spread.nd rfl (Or.inr sc_spread_v2) pe_dnewK)
      (pss_cons (ps_for (passes_of rfl) rfl (pi_list (pe_cal cal_scatterings hr (by decide) (by rfl) passN (pa_cons (pv 0) (pa_cons (pv 1) pa_nil)))) (pg_name (i := 3) sc_spread.nd rfl (Or.inl sc_spread_v3))
      (pss_cons (ps_set (i := 4) sc_spread.nd rfl (Or.inl sc_spread_v4) (pe_cal cal_ways_of hr (by decide) (by rfl) passN (pa_cons (pv 3) (pa_cons (pv 0) pa_nil))))
      (pss_one (ps_asg (pe_op op_add (pe_dget2 (units_of hr) (pv 2) (pv 4) pe_int ⟨rfl, rfl, rfl, rfl⟩) pe_int) (pg_sub (pv 2) (pv 4) (set_dict (units_of hr)))))))
      (pss_one (ps_ret (pe_lc (own := [("far", 4)]) (g := (gName 4)) (tt := tYes) (by rfl) sc_spread.nd (pi_range1 (by rfl) m_range (pa_cons (pe_op op_add (pe_callB (cr_maxK rfl) (by rfl) m_max (by decide +kernel) (pa_cons (pv 2) pa_nil)) pe_int) pa_nil)) (blkOk_by (own := [("far", 4)]) (N := ["size", "many", "counts", "homes", "far"]) (sc := defScope s_spread) (by decide +kernel)) (fun _ _ _ _ _ => (pg_name (i := 4) sc_spread.nd rfl (Or.inl rfl))) (fun _ _ _ _ _ => pts_nil) (fun _ _ _ _ _ => (pe_dget2 (units_of hr) (pv 2) (pv 4) pe_int ⟨rfl, rfl, rfl, rfl⟩))))))))))
theorem sc_fraction : FnScope ["top", "under", "one", "other"] ["top", "under"] (defScope s_fraction) := ⟨rfl, rfl, rfl, by decide +kernel, rfl, by decide +kernel, by decide +kernel⟩
theorem sc_fraction_v0 : (defScope s_fraction).names.lookup ("top" : Str) = some .local := by decide +kernel
theorem sc_fraction_v1 : (defScope s_fraction).names.lookup ("under" : Str) = some .local := by decide +kernel
theorem sc_fraction_v2 : (defScope s_fraction).names.lookup ("one" : Str) = some .local := by decide +kernel
theorem sc_fraction_v3 : (defScope s_fraction).names.lookup ("other" : Str) = some .local := by decide +kernel
def t_fraction (K : PySem.W.Frag) (cs : Cs) (E : XK) : TS :=
  (tSeq (tPar 2 3 (tCons (tCB (fun xs H Q => ∃ i, xs = [V.int i] ∧ Q (.int (if i < 0 then -i else i)) H) (tCons (tVar 0) tNil)) (tCons (tVar 1) tNil)))
  (tSeq (tWhile (tTest (tOp (rI0 fun i j => .bl (decide (j < i))) (tVar 3) (tC (.int 0))))
  (tPar 2 3 (tCons (tVar 3) (tCons (tOp (rI (fun _ j => 0 < j) fun i j => .int (i % j)) (tVar 2) (tVar 3)) tNil))))
  (tRet (tTup (tCons (tOp (rI CDivW fun i j => .int (i / j)) (tVar 0) (tVar 2)) (tCons (tOp (rI CDivW fun i j => .int (i / j)) (tVar 1) (tVar 2)) tNil))))))
def sp_fraction (K : PySem.W.Frag) (_ : Cs) : Sp := fun vs H Q _ => ∃ m n : Nat, vs = [.int (m : Int), .int (n : Int)] ∧ 0 < n ∧ n < 2 ^ 4000 ∧ ∀ p, H p = none → upR Q (.ref p) (upd H p (.tup [.int ((fr m n).1 : Nat), .int ((fr m n).2 : Nat)]))
theorem c_fraction {K : PySem.W.Frag} {cs : Cs} {H : Hp} {i j : Int} {m n : Nat} {Q : PV} {E : XK} (hi : i = (m : Int)) (hj : j = (n : Int)) (h0 : 0 < n) (hb : n < 2 ^ 4000) (k : ∀ p, H p = none → Q (.ref p) (upd H p (.tup [.int ((fr m n).1 : Nat), .int ((fr m n).2 : Nat)]))) :
    kC (fun ws H Q => sp_fraction K cs ws H Q E) [.int i, .int j] H Q := by
  subst hi hj
  exact fun H1 e _ q => ⟨m, n, rfl, h0, hb, fun p hp H2 e2 => q _ _ _ (k p (e.fresh hp)) ((e.ups _ _).tr e2)⟩
theorem pure_fraction {K : PySem.W.Frag} {cs : Cs} {H : Hp} {vs : List V} {Q : VK} {E : XK} (h : sp_fraction K cs vs H Q E) : t_fraction K cs E { nx := fun _ H' => Q .non H', rt := Q } (start ["top", "under", "one", "other"] vs) H := by
  obtain ⟨m, n, rfl, h0, hb, q⟩ := h
  refine fin (σ := [some (.int m), some (.int n), none, none]) ?_
  unfold t_fraction
  k_clsL
  refine s_while (fun z s H1 => ∃ a b : Nat, z = b ∧ s = [some (.int m), some (.int n), some (.int a), some (.int b)] ∧ Nat.gcd a b = Nat.gcd m n ∧ H1 = H) n ⟨m, n, rfl, by rw [abs_nat]; rfl, rfl, rfl⟩ ?_
  rintro z s H1 ⟨a, b, rfl, rfl, hg, rfl⟩
  k_clsL
  refine ⟨fun h1 => ?_, fun h1 => ?_⟩
  · have hb0 : 0 < z := by simpa using h1
    k_clsL
    refine ⟨a % z, _, Nat.mod_lt _ hb0, ⟨z, a % z, rfl, ?_, ?_, rfl⟩, Ex.rf⟩
    · rw [Int.natCast_emod]; rfl
    · rw [gcd_turn]; exact hg
  · have hb0 : z = 0 := by simpa using h1
    subst hb0
    rw [Nat.gcd_zero_right] at hg
    subst hg
    have hp : 0 < Nat.gcd m n := Nat.gcd_pos_of_pos_right m h0
    have hl : Nat.gcd m n ≤ n := Nat.le_of_dvd h0 (Nat.gcd_dvd_right m n)
    have hd : ∀ i : Int, CDivW i ((Nat.gcd m n : Nat) : Int) := fun i => divw hp (Nat.lt_of_le_of_lt hl hb) (by decide) (by decide)
    have hd1 := hd m
    have hd2 := hd n
    k_clsL
    exact q _ (by assumption)
theorem ok_fraction {P : Program} {w : World} {K : PySem.W.Frag} {mg : Str → Option Value} {base : Heap} {cs : Cs} (D_fraction : Dn K mg "fraction" s_fraction ["top", "under"]) (m_abs : mg "abs" = none) :
    Cal P w K mg base (L2N.CX P w) 1 "fraction" ["top", "under"] (sp_fraction K cs) := by
  refine cal_mk D_fraction sc_fraction (fun vs H Q E h => ?_) fun f cdv A outer s H vs Q E hr h => ⟨t_fraction K cs E, ?_, pure_fraction h⟩
  · unfold sp_fraction at h
    first | (obtain ⟨rfl, _⟩ := h; rfl) | (obtain ⟨_, rfl, _⟩ := h; rfl) | (obtain ⟨_, _, rfl, _⟩ := h; rfl) | (obtain ⟨_, _, _, rfl, _⟩ := h; rfl) | (obtain ⟨_, _, _, _, rfl, _⟩ := h; rfl) | (obtain ⟨_, _, _, _, _, rfl, _⟩ := h; rfl) | (obtain ⟨_, _, _, _, _, _, rfl, _⟩ := h; rfl) | (obtain ⟨_, _, _, _, _, _, _, rfl, _⟩ := h; rfl) | (obtain ⟨_, _, _, _, _, _, _, _, rfl, _⟩ := h; rfl) | (obtain ⟨_, _, _, _, _, _, _, _, _, rfl, _⟩ := h; rfl) | (obtain ⟨_, _, _, _, _, _, _, _, _, _, rfl, _⟩ := h; rfl) | (obtain ⟨_, _, _, _, _, _, _, _, _, _, _, rfl, _⟩ := h; rfl) | (obtain ⟨_, _, _, _, _, _, _, _, _, _, _, _, rfl, _⟩ := h; rfl) | (obtain ⟨_, _, _, _, _, _, _, _, _, _, _, _, _, rfl, _⟩ := h; rfl) | (obtain ⟨_, _, _, _, _, _, _, _, _, _, _, _, _, _, rfl, _⟩ := h; rfl) | (obtain ⟨_, _, _, _, _, _, _, _, _, _, _, _, _, _, _, rfl, _⟩ := h; rfl)
  · exact (pss_cons (ps_par (i := 2) (j := 3) rfl sc_fraction.nd rfl rfl (by decide) sc_fraction_v2 sc_fraction_v3 (pa_cons (pe_callB call_abs (by rfl) m_abs (by decide +kernel) (pa_cons (pv 0) pa_nil)) (pa_cons (pv 1) pa_nil)) (by rfl))
      (pss_cons (ps_while (passes_of rfl) (pt_cmpR op_gt (pv 3) pe_int (nomark _))
      (pss_one (ps_par (i := 2) (j := 3) rfl sc_fraction.nd rfl rfl (by decide) sc_fraction_v2 sc_fraction_v3 (pa_cons (pv 3) (pa_cons (pe_op op_mod (pv 2) (pv 3)) pa_nil)) (by rfl))))
      (pss_one (ps_ret (pe_tup (pa_cons (pe_op op_fdivW (pv 0) (pv 2)) (pa_cons (pe_op op_fdivW (pv 1) (pv 2)) pa_nil)))))))
theorem sc_times : FnScope ["one", "other"] ["one", "other"] (defScope s_times) := ⟨rfl, rfl, rfl, by decide +kernel, rfl, by decide +kernel, by decide +kernel⟩
theorem sc_times_v0 : (defScope s_times).names.lookup ("one" : Str) = some .local := by decide +kernel
theorem sc_times_v1 : (defScope s_times).names.lookup ("other" : Str) = some .local := by decide +kernel
def t_times (K : PySem.W.Frag) (cs : Cs) (E : XK) : TS :=
  (tRet (tCall (sp_fraction K cs) [] E0 (tCons (tOp (rI IntMulOk fun i j => .int (i * j)) (tOp (rIxT K) (tVar 0) (tC (.int 0))) (tOp (rIxT K) (tVar 1) (tC (.int 0)))) (tCons (tOp (rI IntMulOk fun i j => .int (i * j)) (tOp (rIxT K) (tVar 0) (tC (.int 1))) (tOp (rIxT K) (tVar 1) (tC (.int 1)))) tNil))))
def sp_times (K : PySem.W.Frag) (_ : Cs) : Sp := fun vs H Q _ => ∃ (p q : Addr) (a b c d : Nat), vs = [.ref p, .ref q] ∧ SqT K H p [.int a, .int b] ∧ SqT K H q [.int c, .int d] ∧ 0 < b ∧ 0 < d ∧ (a < big ∧ b < big ∧ c < big ∧ d < big) ∧
  ∀ r, H r = none → upR Q (.ref r) (upd H r (.tup [.int ((timesN (a, b) (c, d)).1 : Nat), .int ((timesN (a, b) (c, d)).2 : Nat)]))
theorem c_times {K : PySem.W.Frag} {cs : Cs} {H : Hp} {p q : Addr} {a b c d : Nat} {Q : PV} {E : XK} (h1 : SqT K H p [.int a, .int b]) (h2 : SqT K H q [.int c, .int d]) (hb : 0 < b) (hd : 0 < d) (hs : a < big ∧ b < big ∧ c < big ∧ d < big)
    (k : ∀ r, H r = none → Q (.ref r) (upd H r (.tup [.int ((timesN (a, b) (c, d)).1 : Nat), .int ((timesN (a, b) (c, d)).2 : Nat)]))) : kC (fun ws H Q => sp_times K cs ws H Q E) [.ref p, .ref q] H Q :=
  fun H1 e _ qq => ⟨p, q, a, b, c, d, rfl, e.st h1, e.st h2, hb, hd, hs, fun r hr H2 e2 => qq _ _ _ (k r (e.fresh hr)) ((e.ups _ _).tr e2)⟩
theorem pure_times {K : PySem.W.Frag} {cs : Cs} {H : Hp} {vs : List V} {Q : VK} {E : XK} (h : sp_times K cs vs H Q E) : t_times K cs E { nx := fun _ H' => Q .non H', rt := Q } (start ["one", "other"] vs) H := by
  obtain ⟨p, q, a, b, c, d, rfl, h1, h2, hb, hd, ⟨s1, s2, s3, s4⟩, k⟩ := h
  unfold big at s1 s2 s3 s4
  refine fin (σ := [some (.ref p), some (.ref q)]) ?_
  unfold t_times
  have m1 : IntMulOk (a : Int) c := mulw s1 s3 (by decide) (by decide) (by decide)
  have m3 : IntMulOk (b : Int) d := mulw s2 s4 (by decide) (by decide) (by decide)
  k_clsL
  refine c_fraction (m := a * c) (n := b * d) (by simp) (by simp) (Nat.mul_pos hb hd) (Nat.lt_trans (Nat.mul_lt_mul'' s2 s4) (by rw [← Nat.pow_add]; exact Nat.pow_lt_pow_right (by decide) (by decide))) fun r hr => ?_
  exact k r hr
theorem ok_times {P : Program} {w : World} {K : PySem.W.Frag} {mg : Str → Option Value} {base : Heap} {cs : Cs} (D_times : Dn K mg "times" s_times ["one", "other"]) (cal_fraction : Cal P w K mg base (L2N.CX P w) 1 "fraction" ["top", "under"] (sp_fraction K cs)) :
    Cal P w K mg base (L2N.CX P w) 2 "times" ["one", "other"] (sp_times K cs) := by
  refine cal_mk D_times sc_times (fun vs H Q E h => ?_) fun f cdv A outer s H vs Q E hr h => ⟨t_times K cs E, ?_, pure_times h⟩
  · unfold sp_times at h
    first | (obtain ⟨rfl, _⟩ := h; rfl) | (obtain ⟨_, rfl, _⟩ := h; rfl) | (obtain ⟨_, _, rfl, _⟩ := h; rfl) | (obtain ⟨_, _, _, rfl, _⟩ := h; rfl) | (obtain ⟨_, _, _, _, rfl, _⟩ := h; rfl) | (obtain ⟨_, _, _, _, _, rfl, _⟩ := h; rfl) | (obtain ⟨_, _, _, _, _, _, rfl, _⟩ := h; rfl) | (obtain ⟨_, _, _, _, _, _, _, rfl, _⟩ := h; rfl) | (obtain ⟨_, _, _, _, _, _, _, _, rfl, _⟩ := h; rfl) | (obtain ⟨_, _, _, _, _, _, _, _, _, rfl, _⟩ := h; rfl) | (obtain ⟨_, _, _, _, _, _, _, _, _, _, rfl, _⟩ := h; rfl) | (obtain ⟨_, _, _, _, _, _, _, _, _, _, _, rfl, _⟩ := h; rfl) | (obtain ⟨_, _, _, _, _, _, _, _, _, _, _, _, rfl, _⟩ := h; rfl) | (obtain ⟨_, _, _, _, _, _, _, _, _, _, _, _, _, rfl, _⟩ := h; rfl) | (obtain ⟨_, _, _, _, _, _, _, _, _, _, _, _, _, _, rfl, _⟩ := h; rfl) | (obtain ⟨_, _, _, _, _, _, _, _, _, _, _, _, _, _, _, rfl, _⟩ := h; rfl)
  · exact (pss_one (ps_ret (pe_cal cal_fraction hr (by decide) (by rfl) passN (pa_cons (pe_op op_mulX (pe_ix ix_tup (pv 0) pe_int (fun _ _ => rfl)) (pe_ix ix_tup (pv 1) pe_int (fun _ _ => rfl))) (pa_cons (pe_op op_mulX (pe_ix ix_tup (pv 0) pe_int (fun _ _ => rfl)) (pe_ix ix_tup (pv 1) pe_int (fun _ _ => rfl))) pa_nil)))))
theorem sc_plus : FnScope ["one", "other"] ["one", "other"] (defScope s_plus) := ⟨rfl, rfl, rfl, by decide +kernel, rfl, by decide +kernel, by decide +kernel⟩
theorem sc_plus_v0 : (defScope s_plus).names.lookup ("one" : Str) = some .local := by decide +kernel
theorem sc_plus_v1 : (defScope s_plus).names.lookup ("other" : Str) = some .local := by decide +kernel
def t_plus (K : PySem.W.Frag) (cs : Cs) (E : XK) : TS :=
  (tRet (tCall (sp_fraction K cs) [] E0 (tCons (tOp (rI0 fun i j => .int (i + j)) (tOp (rI IntMulOk fun i j => .int (i * j)) (tOp (rIxT K) (tVar 0) (tC (.int 0))) (tOp (rIxT K) (tVar 1) (tC (.int 1)))) (tOp (rI IntMulOk fun i j => .int (i * j)) (tOp (rIxT K) (tVar 1) (tC (.int 0))) (tOp (rIxT K) (tVar 0) (tC (.int 1))))) (tCons (tOp (rI IntMulOk fun i j => .int (i * j)) (tOp (rIxT K) (tVar 0) (tC (.int 1))) (tOp (rIxT K) (tVar 1) (tC (.int 1)))) tNil))))
def sp_plus (K : PySem.W.Frag) (_ : Cs) : Sp := fun vs H Q _ => ∃ (p q : Addr) (a b c d : Nat), vs = [.ref p, .ref q] ∧ SqT K H p [.int a, .int b] ∧ SqT K H q [.int c, .int d] ∧ 0 < b ∧ 0 < d ∧ (a < big ∧ b < big ∧ c < big ∧ d < big) ∧
  ∀ r, H r = none → upR Q (.ref r) (upd H r (.tup [.int ((plusN (a, b) (c, d)).1 : Nat), .int ((plusN (a, b) (c, d)).2 : Nat)]))
theorem c_plus {K : PySem.W.Frag} {cs : Cs} {H : Hp} {p q : Addr} {a b c d : Nat} {Q : PV} {E : XK} (h1 : SqT K H p [.int a, .int b]) (h2 : SqT K H q [.int c, .int d]) (hb : 0 < b) (hd : 0 < d) (hs : a < big ∧ b < big ∧ c < big ∧ d < big)
    (k : ∀ r, H r = none → Q (.ref r) (upd H r (.tup [.int ((plusN (a, b) (c, d)).1 : Nat), .int ((plusN (a, b) (c, d)).2 : Nat)]))) : kC (fun ws H Q => sp_plus K cs ws H Q E) [.ref p, .ref q] H Q :=
  fun H1 e _ qq => ⟨p, q, a, b, c, d, rfl, e.st h1, e.st h2, hb, hd, hs, fun r hr H2 e2 => qq _ _ _ (k r (e.fresh hr)) ((e.ups _ _).tr e2)⟩
theorem pure_plus {K : PySem.W.Frag} {cs : Cs} {H : Hp} {vs : List V} {Q : VK} {E : XK} (h : sp_plus K cs vs H Q E) : t_plus K cs E { nx := fun _ H' => Q .non H', rt := Q } (start ["one", "other"] vs) H := by
  obtain ⟨p, q, a, b, c, d, rfl, h1, h2, hb, hd, ⟨s1, s2, s3, s4⟩, k⟩ := h
  unfold big at s1 s2 s3 s4
  refine fin (σ := [some (.ref p), some (.ref q)]) ?_
  unfold t_plus
  have m1 : IntMulOk (a : Int) d := mulw s1 s4 (by decide) (by decide) (by decide)
  have m2 : IntMulOk (c : Int) b := mulw s3 s2 (by decide) (by decide) (by decide)
  have m3 : IntMulOk (b : Int) d := mulw s2 s4 (by decide) (by decide) (by decide)
  k_clsL
  refine c_fraction (m := a * d + c * b) (n := b * d) (by simp) (by simp) (Nat.mul_pos hb hd) (Nat.lt_trans (Nat.mul_lt_mul'' s2 s4) (by rw [← Nat.pow_add]; exact Nat.pow_lt_pow_right (by decide) (by decide))) fun r hr => ?_
  exact k r hr
theorem ok_plus {P : Program} {w : World} {K : PySem.W.Frag} {mg : Str → Option Value} {base : Heap} {cs : Cs} (D_plus : Dn K mg "plus" s_plus ["one", "other"]) (cal_fraction : Cal P w K mg base (L2N.CX P w) 1 "fraction" ["top", "under"] (sp_fraction K cs)) :
    Cal P w K mg base (L2N.CX P w) 2 "plus" ["one", "other"] (sp_plus K cs) := by
  refine cal_mk D_plus sc_plus (fun vs H Q E h => ?_) fun f cdv A outer s H vs Q E hr h => ⟨t_plus K cs E, ?_, pure_plus h⟩
  · unfold sp_plus at h
    first | (obtain ⟨rfl, _⟩ := h; rfl) | (obtain ⟨_, rfl, _⟩ := h; rfl) | (obtain ⟨_, _, rfl, _⟩ := h; rfl) | (obtain ⟨_, _, _, rfl, _⟩ := h; rfl) | (obtain ⟨_, _, _, _, rfl, _⟩ := h; rfl) | (obtain ⟨_, _, _, _, _, rfl, _⟩ := h; rfl) | (obtain ⟨_, _, _, _, _, _, rfl, _⟩ := h; rfl) | (obtain ⟨_, _, _, _, _, _, _, rfl, _⟩ := h; rfl) | (obtain ⟨_, _, _, _, _, _, _, _, rfl, _⟩ := h; rfl) | (obtain ⟨_, _, _, _, _, _, _, _, _, rfl, _⟩ := h; rfl) | (obtain ⟨_, _, _, _, _, _, _, _, _, _, rfl, _⟩ := h; rfl) | (obtain ⟨_, _, _, _, _, _, _, _, _, _, _, rfl, _⟩ := h; rfl) | (obtain ⟨_, _, _, _, _, _, _, _, _, _, _, _, rfl, _⟩ := h; rfl) | (obtain ⟨_, _, _, _, _, _, _, _, _, _, _, _, _, rfl, _⟩ := h; rfl) | (obtain ⟨_, _, _, _, _, _, _, _, _, _, _, _, _, _, rfl, _⟩ := h; rfl) | (obtain ⟨_, _, _, _, _, _, _, _, _, _, _, _, _, _, _, rfl, _⟩ := h; rfl)
  · exact (pss_one (ps_ret (pe_cal cal_fraction hr (by decide) (by rfl) passN (pa_cons (pe_op op_add (pe_op op_mulX (pe_ix ix_tup (pv 0) pe_int (fun _ _ => rfl)) (pe_ix ix_tup (pv 1) pe_int (fun _ _ => rfl))) (pe_op op_mulX (pe_ix ix_tup (pv 1) pe_int (fun _ _ => rfl)) (pe_ix ix_tup (pv 0) pe_int (fun _ _ => rfl)))) (pa_cons (pe_op op_mulX (pe_ix ix_tup (pv 0) pe_int (fun _ _ => rfl)) (pe_ix ix_tup (pv 1) pe_int (fun _ _ => rfl))) pa_nil)))))
theorem sc_falling : FnScope ["size", "many", "weight", "found", "part", "turn"] ["size", "many", "weight"] (defScope s_falling) := ⟨rfl, rfl, rfl, by decide +kernel, rfl, by decide +kernel, by decide +kernel⟩
theorem sc_falling_v0 : (defScope s_falling).names.lookup ("size" : Str) = some .local := by decide +kernel
theorem sc_falling_v1 : (defScope s_falling).names.lookup ("many" : Str) = some .local := by decide +kernel
theorem sc_falling_v2 : (defScope s_falling).names.lookup ("weight" : Str) = some .local := by decide +kernel
theorem sc_falling_v3 : (defScope s_falling).names.lookup ("found" : Str) = some .local := by decide +kernel
theorem sc_falling_v4 : (defScope s_falling).names.lookup ("part" : Str) = some .local := by decide +kernel
theorem sc_falling_v5 : (defScope s_falling).names.lookup ("turn" : Str) = some .local := by decide +kernel
def t_falling (K : PySem.W.Frag) (cs : Cs) (E : XK) : TS :=
  (tSeq (tAsg (tTup (tCons (tC (.int 0)) (tCons (tC (.int 1)) tNil))) (gName 3))
  (tSeq (tAsg (tTup (tCons (tC (.int 1)) (tCons (tC (.int 1)) tNil))) (gName 4))
  (tSeq (tFor (iRng1 (tCons (tOp (rI0 fun i j => .int (i + j)) (tVar 1) (tC (.int 1))) tNil)) (gName 5)
  (tSeq (tAsg (tCall (sp_plus K cs) [] E0 (tCons (tVar 3) (tCons (tCall (sp_times K cs) [] E0 (tCons (tVar 4) (tCons (tTup (tCons (tOp (rI0 fun i j => .int (i + j)) (tC (.int 1)) (tOp (rI IntMulOk fun i j => .int (i * j)) (tVar 2) (tVar 5))) (tCons (tC (.int 1)) tNil))) tNil))) tNil))) (gName 3))
  (tAsg (tCall (sp_times K cs) [] E0 (tCons (tVar 4) (tCons (tTup (tCons (tOp (rI0 fun i j => .int (i - j)) (tVar 1) (tVar 5)) (tCons (tVar 0) tNil))) tNil))) (gName 4))))
  (tRet (tVar 3)))))
def sp_falling (K : PySem.W.Frag) (_ : Cs) : Sp := fun vs H Q _ => ∃ s m w : Nat, vs = [.int s, .int m, .int w] ∧ 0 < s ∧ s ≤ 64 ∧ m ≤ 64 ∧ w ≤ 1 ∧ okF s m w = true ∧ ∀ p, H p = none → upR Q (.ref p) (upd H p (.tup [.int ((fallN s m w).1 : Nat), .int ((fallN s m w).2 : Nat)]))
theorem c_falling {K : PySem.W.Frag} {cs : Cs} {H : Hp} {s m w : Nat} {i j l : Int} {Q : PV} {E : XK} (hi : i = s) (hj : j = m) (hl : l = w) (h0 : 0 < s) (h1 : s ≤ 64) (h2 : m ≤ 64) (hw : w ≤ 1) (ok : okF s m w = true)
    (k : ∀ p, H p = none → Q (.ref p) (upd H p (.tup [.int ((fallN s m w).1 : Nat), .int ((fallN s m w).2 : Nat)]))) : kC (fun ws H Q => sp_falling K cs ws H Q E) [.int i, .int j, .int l] H Q := by
  subst hi hj hl
  exact fun H1 e _ q => ⟨s, m, w, rfl, h0, h1, h2, hw, ok, fun p hp H2 e2 => q _ _ _ (k p (e.fresh hp)) ((e.ups _ _).tr e2)⟩
theorem pure_falling {K : PySem.W.Frag} {cs : Cs} {H : Hp} {vs : List V} {Q : VK} {E : XK} (h : sp_falling K cs vs H Q E) : t_falling K cs E { nx := fun _ H' => Q .non H', rt := Q } (start ["size", "many", "weight", "found", "part", "turn"] vs) H := by
  obtain ⟨s, m, w, rfl, h0, h1, h2, hw, ok, k⟩ := h
  refine fin (σ := [some (.int s), some (.int m), some (.int w), none, none, none]) ?_
  unfold t_falling
  k_clsL
  rename_i p hp q hq
  refine s_for1 (m + 1) (fun i σ H1 => Ex H H1 ∧ ∃ p q z, (H p = none ∧ σ = [some (.int s), some (.int m), some (.int w), some (.ref p), some (.ref q), z]) ∧ H1 p = some (.tup [.int ((stF s m w i).1.1 : Nat), .int ((stF s m w i).1.2 : Nat)]) ∧ SqT K H1 q [.int ((stF s m w i).2.1 : Nat), .int ((stF s m w i).2.2 : Nat)]) ?_
  k_clsL
  refine ⟨by simp, by omega, ⟨by k_offL, p, q, none, ⟨hp, rfl⟩, at_new hq upd_same, SqT.of upd_same⟩, ?_, ?_⟩
  · rintro i σ H1 hi ⟨e1, p, q, z, ⟨hp, rfl⟩, a1, a2⟩
    obtain ⟨o1, o2, o3⟩ := okF_at ok (i := i) (by omega)
    obtain ⟨b1, b2, b3⟩ := okP_iff o1
    obtain ⟨d1, d2, d3⟩ := okP_iff o2
    obtain ⟨g1, g2, g3⟩ := okP_iff o3
    have hb : 65 < big := by decide
    k_clsL
    refine c_times (c := 1 + w * i) (d := 1) (by k_memK) (SqT.of ?_) d3 (by decide) ⟨d1, d2, ?_, by omega⟩ fun r hr => ?_
    · rw [upd_same]; simp
    · have : w * i ≤ 1 * i := Nat.mul_le_mul_right i hw
      omega
    k_clsL
    refine c_plus (SqT.of (at_new hr (at_new (by assumption) a1))) (SqT.of upd_same) b3 g3 ⟨b1, b2, g1, g2⟩ fun r2 hr2 => ?_
    k_clsL
    refine c_times (c := m - i) (d := s) (by k_memK) (SqT.of ?_) d3 h0 ⟨d1, d2, by omega, by omega⟩ fun r3 hr3 => ?_
    · rw [upd_same]
      have : (m : Int) - (i : Int) = ((m - i : Nat) : Int) := by omega
      rw [this]
    k_clsL
    refine ⟨_, ⟨by k_offL, r2, r3, some (.int i), ⟨?_, rfl⟩, at_new hr3 (at_new (by assumption) upd_same), SqT.of upd_same⟩, Ex.rf⟩
    exact (show Ex H _ from by k_offL).fresh hr2
  · rintro σ H1 ⟨e1, p, q, z, ⟨hp, rfl⟩, a1, a2⟩
    k_clsL
    refine upX (k p hp) fun a o h => ?_
    by_cases ha : a = p
    · subst ha
      rw [upd_same] at h
      rw [a1]
      exact h
    · rw [upd_ne ha] at h
      exact e1 _ _ h
theorem ok_falling {P : Program} {w : World} {K : PySem.W.Frag} {mg : Str → Option Value} {base : Heap} {cs : Cs} (D_falling : Dn K mg "falling" s_falling ["size", "many", "weight"]) (cal_times : Cal P w K mg base (L2N.CX P w) 2 "times" ["one", "other"] (sp_times K cs)) (cal_plus : Cal P w K mg base (L2N.CX P w) 2 "plus" ["one", "other"] (sp_plus K cs)) (m_range : mg "range" = none) :
    Cal P w K mg base (L2N.CX P w) 3 "falling" ["size", "many", "weight"] (sp_falling K cs) := by
  refine cal_mk D_falling sc_falling (fun vs H Q E h => ?_) fun f cdv A outer s H vs Q E hr h => ⟨t_falling K cs E, ?_, pure_falling h⟩
  · unfold sp_falling at h
    first | (obtain ⟨rfl, _⟩ := h; rfl) | (obtain ⟨_, rfl, _⟩ := h; rfl) | (obtain ⟨_, _, rfl, _⟩ := h; rfl) | (obtain ⟨_, _, _, rfl, _⟩ := h; rfl) | (obtain ⟨_, _, _, _, rfl, _⟩ := h; rfl) | (obtain ⟨_, _, _, _, _, rfl, _⟩ := h; rfl) | (obtain ⟨_, _, _, _, _, _, rfl, _⟩ := h; rfl) | (obtain ⟨_, _, _, _, _, _, _, rfl, _⟩ := h; rfl) | (obtain ⟨_, _, _, _, _, _, _, _, rfl, _⟩ := h; rfl) | (obtain ⟨_, _, _, _, _, _, _, _, _, rfl, _⟩ := h; rfl) | (obtain ⟨_, _, _, _, _, _, _, _, _, _, rfl, _⟩ := h; rfl) | (obtain ⟨_, _, _, _, _, _, _, _, _, _, _, rfl, _⟩ := h; rfl) | (obtain ⟨_, _, _, _, _, _, _, _, _, _, _, _, rfl, _⟩ := h; rfl) | (obtain ⟨_, _, _, _, _, _, _, _, _, _, _, _, _, rfl, _⟩ := h; rfl) | (obtain ⟨_, _, _, _, _, _, _, _, _, _, _, _, _, _, rfl, _⟩ := h; rfl) | (obtain ⟨_, _, _, _, _, _, _, _, _, _, _, _, _, _, _, rfl, _⟩ := h; rfl)
  · exact (pss_cons (ps_set (i := 3) sc_falling.nd rfl (Or.inl sc_falling_v3) (pe_tup (pa_cons pe_int (pa_cons pe_int pa_nil))))
      (pss_cons (ps_set (i := 4) sc_falling.nd rfl (Or.inl sc_falling_v4) (pe_tup (pa_cons pe_int (pa_cons pe_int pa_nil))))
      (pss_cons (ps_for (passes_of rfl) rfl (pi_range1 (by rfl) m_range (pa_cons (pe_op op_add (pv 1) pe_int) pa_nil)) (pg_name (i := 5) sc_falling.nd rfl (Or.inl sc_falling_v5))
      (pss_cons (ps_set (i := 3) sc_falling.nd rfl (Or.inl sc_falling_v3) (pe_cal cal_plus hr (by decide) (by rfl) passN (pa_cons (pv 3) (pa_cons (pe_cal cal_times hr (by decide) (by rfl) passN (pa_cons (pv 4) (pa_cons (pe_tup (pa_cons (pe_op op_add pe_int (pe_op op_mulX (pv 2) (pv 5))) (pa_cons pe_int pa_nil))) pa_nil))) pa_nil))))
      (pss_one (ps_set (i := 4) sc_falling.nd rfl (Or.inl sc_falling_v4) (pe_cal cal_times hr (by decide) (by rfl) passN (pa_cons (pv 4) (pa_cons (pe_tup (pa_cons (pe_op op_sub (pv 1) (pv 5)) (pa_cons (pv 0) pa_nil))) pa_nil)))))))
      (pss_one (ps_ret (pv 3))))))
theorem sc_half : FnScope ["one"] ["one"] (defScope s_half) := ⟨rfl, rfl, rfl, by decide +kernel, rfl, by decide +kernel, by decide +kernel⟩
theorem sc_half_v0 : (defScope s_half).names.lookup ("one" : Str) = some .local := by decide +kernel
def t_half (K : PySem.W.Frag) (cs : Cs) (E : XK) : TS :=
  (tRet (tCall (sp_fraction K cs) [] E0 (tCons (tOp (rI0 fun i j => .int (i + j)) (tOp (rIxT K) (tVar 0) (tC (.int 0))) (tOp (rIxT K) (tVar 0) (tC (.int 1)))) (tCons (tOp (rI IntMulOk fun i j => .int (i * j)) (tC (.int 2)) (tOp (rIxT K) (tVar 0) (tC (.int 1)))) tNil))))
def sp_half (K : PySem.W.Frag) (_ : Cs) : Sp := fun vs H Q _ => ∃ (p : Addr) (a b : Nat), vs = [.ref p] ∧ SqT K H p [.int a, .int b] ∧ 0 < b ∧ (a < big ∧ b < big) ∧ ∀ r, H r = none → upR Q (.ref r) (upd H r (.tup [.int ((halfN (a, b)).1 : Nat), .int ((halfN (a, b)).2 : Nat)]))
theorem c_half {K : PySem.W.Frag} {cs : Cs} {H : Hp} {p : Addr} {a b : Nat} {Q : PV} {E : XK} (h1 : SqT K H p [.int a, .int b]) (hb : 0 < b) (hs : a < big ∧ b < big) (k : ∀ r, H r = none → Q (.ref r) (upd H r (.tup [.int ((halfN (a, b)).1 : Nat), .int ((halfN (a, b)).2 : Nat)]))) :
    kC (fun ws H Q => sp_half K cs ws H Q E) [.ref p] H Q :=
  fun H1 e _ qq => ⟨p, a, b, rfl, e.st h1, hb, hs, fun r hr H2 e2 => qq _ _ _ (k r (e.fresh hr)) ((e.ups _ _).tr e2)⟩
theorem pure_half {K : PySem.W.Frag} {cs : Cs} {H : Hp} {vs : List V} {Q : VK} {E : XK} (h : sp_half K cs vs H Q E) : t_half K cs E { nx := fun _ H' => Q .non H', rt := Q } (start ["one"] vs) H := by
  obtain ⟨p, a, b, rfl, h1, hb, ⟨s1, s2⟩, k⟩ := h
  unfold big at s1 s2
  refine fin (σ := [some (.ref p)]) ?_
  unfold t_half
  k_clsL
  refine c_fraction (m := a + b) (n := 2 * b) (by simp) (by simp) (by omega) (Nat.lt_of_lt_of_le (Nat.mul_lt_mul_of_pos_left s2 (by decide : 0 < 2)) (by rw [← Nat.pow_succ']; exact Nat.pow_le_pow_right (by decide) (by decide))) fun r hr => ?_
  exact k r hr
theorem ok_half {P : Program} {w : World} {K : PySem.W.Frag} {mg : Str → Option Value} {base : Heap} {cs : Cs} (D_half : Dn K mg "half" s_half ["one"]) (cal_fraction : Cal P w K mg base (L2N.CX P w) 1 "fraction" ["top", "under"] (sp_fraction K cs)) :
    Cal P w K mg base (L2N.CX P w) 2 "half" ["one"] (sp_half K cs) := by
  refine cal_mk D_half sc_half (fun vs H Q E h => ?_) fun f cdv A outer s H vs Q E hr h => ⟨t_half K cs E, ?_, pure_half h⟩
  · unfold sp_half at h
    first | (obtain ⟨rfl, _⟩ := h; rfl) | (obtain ⟨_, rfl, _⟩ := h; rfl) | (obtain ⟨_, _, rfl, _⟩ := h; rfl) | (obtain ⟨_, _, _, rfl, _⟩ := h; rfl) | (obtain ⟨_, _, _, _, rfl, _⟩ := h; rfl) | (obtain ⟨_, _, _, _, _, rfl, _⟩ := h; rfl) | (obtain ⟨_, _, _, _, _, _, rfl, _⟩ := h; rfl) | (obtain ⟨_, _, _, _, _, _, _, rfl, _⟩ := h; rfl) | (obtain ⟨_, _, _, _, _, _, _, _, rfl, _⟩ := h; rfl) | (obtain ⟨_, _, _, _, _, _, _, _, _, rfl, _⟩ := h; rfl) | (obtain ⟨_, _, _, _, _, _, _, _, _, _, rfl, _⟩ := h; rfl) | (obtain ⟨_, _, _, _, _, _, _, _, _, _, _, rfl, _⟩ := h; rfl) | (obtain ⟨_, _, _, _, _, _, _, _, _, _, _, _, rfl, _⟩ := h; rfl) | (obtain ⟨_, _, _, _, _, _, _, _, _, _, _, _, _, rfl, _⟩ := h; rfl) | (obtain ⟨_, _, _, _, _, _, _, _, _, _, _, _, _, _, rfl, _⟩ := h; rfl) | (obtain ⟨_, _, _, _, _, _, _, _, _, _, _, _, _, _, _, rfl, _⟩ := h; rfl)
  · exact (pss_one (ps_ret (pe_cal cal_fraction hr (by decide) (by rfl) passN (pa_cons (pe_op op_add (pe_ix ix_tup (pv 0) pe_int (fun _ _ => rfl)) (pe_ix ix_tup (pv 0) pe_int (fun _ _ => rfl))) (pa_cons (pe_op op_mulX pe_int (pe_ix ix_tup (pv 0) pe_int (fun _ _ => rfl))) pa_nil)))))
theorem sc_hit : FnScope ["size", "many"] ["size", "many"] (defScope s_hit) := ⟨rfl, rfl, rfl, by decide +kernel, rfl, by decide +kernel, by decide +kernel⟩
theorem sc_hit_v0 : (defScope s_hit).names.lookup ("size" : Str) = some .local := by decide +kernel
theorem sc_hit_v1 : (defScope s_hit).names.lookup ("many" : Str) = some .local := by decide +kernel
def t_hit (K : PySem.W.Frag) (cs : Cs) (E : XK) : TS :=
  (tSeq (tDrop (tCall (sp_need_size K cs) [] E (tCons (tVar 0) tNil)))
  (tSeq (tDrop (tCall (sp_need_count K cs) [] E (tCons (tVar 1) (tCons (tC (.int 1)) (tCons (tOp (rI0 fun i j => .int (i - j)) (tVar 0) (tC (.int 1))) tNil)))))
  (tRet (tCall (sp_half K cs) [] E0 (tCons (tCall (sp_falling K cs) [] E0 (tCons (tVar 0) (tCons (tOp (rI0 fun i j => .int (i - j)) (tVar 1) (tC (.int 1))) (tCons (tC (.int 0)) tNil)))) tNil)))))
/-- a pair of a size and a count that is one -/
def sp_hit (K : PySem.W.Frag) (cs : Cs) : Sp := fun vs H Q E => ∃ x T y T', vs = [x, y] ∧ Ty5 K H x T ∧ Ty5 K H y T' ∧ ((∃ s m : Nat, x = .int s ∧ y = .int m ∧ 2 ≤ s ∧ s ≤ 64 ∧ 1 ≤ m ∧ m + 1 ≤ s ∧ okF s (m - 1) 0 = true ∧ okP (fallN s (m - 1) 0) = true ∧
  ∀ p, H p = none → upR Q (.ref p) (upd H p (.tup [.int ((hitN s m).1 : Nat), .int ((hitN s m).2 : Nat)]))) ∨ ((∀ s : Nat, x = .int s → cnt x 2 64 = true → cnt y 1 (s - 1) = false) ∧ ∀ H2, Ex H H2 → E (.ref cs.BadSize) none H2))
theorem c_hit {K : PySem.W.Frag} {cs : Cs} {H : Hp} {s m : Nat} {i j : Int} {Q : PV} {E : XK} (hi : i = s) (hj : j = m) (h2 : 2 ≤ s) (h64 : s ≤ 64) (h1 : 1 ≤ m) (hm : m + 1 ≤ s) (ok : okF s (m - 1) 0 = true) (ok2 : okP (fallN s (m - 1) 0) = true)
    (k : ∀ p, H p = none → Q (.ref p) (upd H p (.tup [.int ((hitN s m).1 : Nat), .int ((hitN s m).2 : Nat)]))) : kC (fun ws H Q => sp_hit K cs ws H Q E) [.int i, .int j] H Q := by
  subst hi hj
  exact fun H1 e _ q => ⟨_, _, _, _, rfl, .int _, .int _, .inl ⟨s, m, rfl, rfl, h2, h64, h1, hm, ok, ok2, fun p hp H2 e2 => q _ _ _ (k p (e.fresh hp)) ((e.ups _ _).tr e2)⟩⟩
theorem cE_hit {K : PySem.W.Frag} {cs : Cs} {H : Hp} {x y : V} {T T' : String} {Q : PV} {E : XK} (hx : Ty5 K H x T) (hy : Ty5 K H y T') (hb : ∀ s : Nat, x = .int s → cnt x 2 64 = true → cnt y 1 (s - 1) = false) (k : ∀ H2, Ex H H2 → E (.ref cs.BadSize) none H2) : kC (fun ws H Q => sp_hit K cs ws H Q E) [x, y] H Q :=
  fun H1 e _ q => ⟨_, _, _, _, rfl, hx.up e, hy.up e, .inr ⟨hb, fun H2 e2 => k H2 (e.tr e2)⟩⟩
theorem pure_hit {K : PySem.W.Frag} {cs : Cs} {H : Hp} {vs : List V} {Q : VK} {E : XK} (h : sp_hit K cs vs H Q E) : t_hit K cs E { nx := fun _ H' => Q .non H', rt := Q } (start ["size", "many"] vs) H := by
  obtain ⟨x, T, y, T', rfl, hx, hy, h⟩ := h
  refine fin (σ := [some x, some y]) ?_
  unfold t_hit
  k_clsL
  rcases h with ⟨s, m, rfl, rfl, h2, h64, h1, hm, ok, ok2, k⟩ | ⟨hb, r⟩
  · have e1 : cnt (.int (s : Int)) 2 64 = true := cnt_ok (by omega) (by omega)
    have e2 : cnt (.int (m : Int)) 1 ((s : Int) - 1) = true := cnt_ok (by omega) (by omega)
    rw [e1]
    refine ⟨fun _ => ?_, fun h => Bool.noConfusion h⟩
    k_clsL
    rw [e2]
    refine ⟨fun _ => ?_, fun h => Bool.noConfusion h⟩
    k_clsL
    obtain ⟨b1, b2, b3⟩ := okP_iff ok2
    refine c_falling (s := s) (m := m - 1) (w := 0) rfl (by omega) (by rfl) (by omega) (by omega) (by omega) (by decide) ok fun p hp => ?_
    k_clsL
    refine c_half (SqT.of upd_same) b3 ⟨b1, b2⟩ fun r hr => ?_
    refine upX (k r ((Ex.news hp).fresh hr)) fun a o h => ?_
    by_cases ha : a = r
    · subst ha
      rw [upd_same] at h ⊢
      exact h
    · rw [upd_ne ha] at h ⊢
      exact (Ex.news hp) _ _ h
  · refine ⟨fun h1 => ?_, fun _ => r⟩
    cases hx with
    | int i =>
      obtain ⟨s, hs⟩ : ∃ s : Nat, i = s := ⟨i.toNat, by simp [cnt] at h1; omega⟩
      subst hs
      have e2 := hb s rfl h1
      k_clsL
      rw [e2]
      exact ⟨fun h => Bool.noConfusion h, fun _ => r⟩
    | _ => simp [cnt] at h1
theorem ok_hit {P : Program} {w : World} {K : PySem.W.Frag} {mg : Str → Option Value} {base : Heap} {cs : Cs} (D_hit : Dn K mg "hit" s_hit ["size", "many"]) (cal_need_size : Cal P w K mg base (L2N.CX P w) 2 "need_size" ["size"] (sp_need_size K cs)) (cal_need_count : Cal P w K mg base (L2N.CX P w) 2 "need_count" ["number", "least", "most"] (sp_need_count K cs)) (cal_falling : Cal P w K mg base (L2N.CX P w) 3 "falling" ["size", "many", "weight"] (sp_falling K cs)) (cal_half : Cal P w K mg base (L2N.CX P w) 2 "half" ["one"] (sp_half K cs)) :
    Cal P w K mg base (L2N.CX P w) 4 "hit" ["size", "many"] (sp_hit K cs) := by
  refine cal_mk D_hit sc_hit (fun vs H Q E h => ?_) fun f cdv A outer s H vs Q E hr h => ⟨t_hit K cs E, ?_, pure_hit h⟩
  · unfold sp_hit at h
    first | (obtain ⟨rfl, _⟩ := h; rfl) | (obtain ⟨_, rfl, _⟩ := h; rfl) | (obtain ⟨_, _, rfl, _⟩ := h; rfl) | (obtain ⟨_, _, _, rfl, _⟩ := h; rfl) | (obtain ⟨_, _, _, _, rfl, _⟩ := h; rfl) | (obtain ⟨_, _, _, _, _, rfl, _⟩ := h; rfl) | (obtain ⟨_, _, _, _, _, _, rfl, _⟩ := h; rfl) | (obtain ⟨_, _, _, _, _, _, _, rfl, _⟩ := h; rfl) | (obtain ⟨_, _, _, _, _, _, _, _, rfl, _⟩ := h; rfl) | (obtain ⟨_, _, _, _, _, _, _, _, _, rfl, _⟩ := h; rfl) | (obtain ⟨_, _, _, _, _, _, _, _, _, _, rfl, _⟩ := h; rfl) | (obtain ⟨_, _, _, _, _, _, _, _, _, _, _, rfl, _⟩ := h; rfl) | (obtain ⟨_, _, _, _, _, _, _, _, _, _, _, _, rfl, _⟩ := h; rfl) | (obtain ⟨_, _, _, _, _, _, _, _, _, _, _, _, _, rfl, _⟩ := h; rfl) | (obtain ⟨_, _, _, _, _, _, _, _, _, _, _, _, _, _, rfl, _⟩ := h; rfl) | (obtain ⟨_, _, _, _, _, _, _, _, _, _, _, _, _, _, _, rfl, _⟩ := h; rfl)
  · exact (pss_cons (ps_expr (pe_cal cal_need_size hr (by decide) (by rfl) (L2N.passes_call (L2N.takes_of (E := E) rfl rfl rfl rfl) fun _ _ _ _ h => h) (pa_cons (pv 0) pa_nil)))
      (pss_cons (ps_expr (pe_cal cal_need_count hr (by decide) (by rfl) (L2N.passes_call (L2N.takes_of (E := E) rfl rfl rfl rfl) fun _ _ _ _ h => h) (pa_cons (pv 1) (pa_cons pe_int (pa_cons (pe_op op_sub (pv 0) pe_int) pa_nil)))))
      (pss_one (ps_ret (pe_cal cal_half hr (by decide) (by rfl) passN (pa_cons (pe_cal cal_falling hr (by decide) (by rfl) passN (pa_cons (pv 0) (pa_cons (pe_op op_sub (pv 1) pe_int) (pa_cons pe_int pa_nil)))) pa_nil))))))
theorem sc_miss : FnScope ["size", "many"] ["size", "many"] (defScope s_miss) := ⟨rfl, rfl, rfl, by decide +kernel, rfl, by decide +kernel, by decide +kernel⟩
theorem sc_miss_v0 : (defScope s_miss).names.lookup ("size" : Str) = some .local := by decide +kernel
theorem sc_miss_v1 : (defScope s_miss).names.lookup ("many" : Str) = some .local := by decide +kernel
def t_miss (K : PySem.W.Frag) (cs : Cs) (E : XK) : TS :=
  (tSeq (tDrop (tCall (sp_need_size K cs) [] E (tCons (tVar 0) tNil)))
  (tSeq (tDrop (tCall (sp_need_count K cs) [] E (tCons (tVar 1) (tCons (tC (.int 0)) (tCons (tOp (rI0 fun i j => .int (i - j)) (tVar 0) (tC (.int 1))) tNil)))))
  (tRet (tCall (sp_half K cs) [] E0 (tCons (tCall (sp_falling K cs) [] E0 (tCons (tVar 0) (tCons (tVar 1) (tCons (tC (.int 1)) tNil)))) tNil)))))
/-- a pair of a size and a count that is one -/
def sp_miss (K : PySem.W.Frag) (cs : Cs) : Sp := fun vs H Q E => ∃ x T y T', vs = [x, y] ∧ Ty5 K H x T ∧ Ty5 K H y T' ∧ ((∃ s m : Nat, x = .int s ∧ y = .int m ∧ 2 ≤ s ∧ s ≤ 64 ∧ 0 ≤ m ∧ m + 1 ≤ s ∧ okF s (m) 1 = true ∧ okP (fallN s (m) 1) = true ∧
  ∀ p, H p = none → upR Q (.ref p) (upd H p (.tup [.int ((missN s m).1 : Nat), .int ((missN s m).2 : Nat)]))) ∨ ((∀ s : Nat, x = .int s → cnt x 2 64 = true → cnt y 0 (s - 1) = false) ∧ ∀ H2, Ex H H2 → E (.ref cs.BadSize) none H2))
theorem c_miss {K : PySem.W.Frag} {cs : Cs} {H : Hp} {s m : Nat} {i j : Int} {Q : PV} {E : XK} (hi : i = s) (hj : j = m) (h2 : 2 ≤ s) (h64 : s ≤ 64) (h1 : 0 ≤ m) (hm : m + 1 ≤ s) (ok : okF s (m) 1 = true) (ok2 : okP (fallN s (m) 1) = true)
    (k : ∀ p, H p = none → Q (.ref p) (upd H p (.tup [.int ((missN s m).1 : Nat), .int ((missN s m).2 : Nat)]))) : kC (fun ws H Q => sp_miss K cs ws H Q E) [.int i, .int j] H Q := by
  subst hi hj
  exact fun H1 e _ q => ⟨_, _, _, _, rfl, .int _, .int _, .inl ⟨s, m, rfl, rfl, h2, h64, h1, hm, ok, ok2, fun p hp H2 e2 => q _ _ _ (k p (e.fresh hp)) ((e.ups _ _).tr e2)⟩⟩
theorem cE_miss {K : PySem.W.Frag} {cs : Cs} {H : Hp} {x y : V} {T T' : String} {Q : PV} {E : XK} (hx : Ty5 K H x T) (hy : Ty5 K H y T') (hb : ∀ s : Nat, x = .int s → cnt x 2 64 = true → cnt y 0 (s - 1) = false) (k : ∀ H2, Ex H H2 → E (.ref cs.BadSize) none H2) : kC (fun ws H Q => sp_miss K cs ws H Q E) [x, y] H Q :=
  fun H1 e _ q => ⟨_, _, _, _, rfl, hx.up e, hy.up e, .inr ⟨hb, fun H2 e2 => k H2 (e.tr e2)⟩⟩
theorem pure_miss {K : PySem.W.Frag} {cs : Cs} {H : Hp} {vs : List V} {Q : VK} {E : XK} (h : sp_miss K cs vs H Q E) : t_miss K cs E { nx := fun _ H' => Q .non H', rt := Q } (start ["size", "many"] vs) H := by
  obtain ⟨x, T, y, T', rfl, hx, hy, h⟩ := h
  refine fin (σ := [some x, some y]) ?_
  unfold t_miss
  k_clsL
  rcases h with ⟨s, m, rfl, rfl, h2, h64, h1, hm, ok, ok2, k⟩ | ⟨hb, r⟩
  · have e1 : cnt (.int (s : Int)) 2 64 = true := cnt_ok (by omega) (by omega)
    have e2 : cnt (.int (m : Int)) 0 ((s : Int) - 1) = true := cnt_ok (by omega) (by omega)
    rw [e1]
    refine ⟨fun _ => ?_, fun h => Bool.noConfusion h⟩
    k_clsL
    rw [e2]
    refine ⟨fun _ => ?_, fun h => Bool.noConfusion h⟩
    k_clsL
    obtain ⟨b1, b2, b3⟩ := okP_iff ok2
    refine c_falling (s := s) (m := m) (w := 1) rfl (by omega) (by rfl) (by omega) (by omega) (by omega) (by decide) ok fun p hp => ?_
    k_clsL
    refine c_half (SqT.of upd_same) b3 ⟨b1, b2⟩ fun r hr => ?_
    refine upX (k r ((Ex.news hp).fresh hr)) fun a o h => ?_
    by_cases ha : a = r
    · subst ha
      rw [upd_same] at h ⊢
      exact h
    · rw [upd_ne ha] at h ⊢
      exact (Ex.news hp) _ _ h
  · refine ⟨fun h1 => ?_, fun _ => r⟩
    cases hx with
    | int i =>
      obtain ⟨s, hs⟩ : ∃ s : Nat, i = s := ⟨i.toNat, by simp [cnt] at h1; omega⟩
      subst hs
      have e2 := hb s rfl h1
      k_clsL
      rw [e2]
      exact ⟨fun h => Bool.noConfusion h, fun _ => r⟩
    | _ => simp [cnt] at h1
theorem ok_miss {P : Program} {w : World} {K : PySem.W.Frag} {mg : Str → Option Value} {base : Heap} {cs : Cs} (D_miss : Dn K mg "miss" s_miss ["size", "many"]) (cal_need_size : Cal P w K mg base (L2N.CX P w) 2 "need_size" ["size"] (sp_need_size K cs)) (cal_need_count : Cal P w K mg base (L2N.CX P w) 2 "need_count" ["number", "least", "most"] (sp_need_count K cs)) (cal_falling : Cal P w K mg base (L2N.CX P w) 3 "falling" ["size", "many", "weight"] (sp_falling K cs)) (cal_half : Cal P w K mg base (L2N.CX P w) 2 "half" ["one"] (sp_half K cs)) :
    Cal P w K mg base (L2N.CX P w) 4 "miss" ["size", "many"] (sp_miss K cs) := by
  refine cal_mk D_miss sc_miss (fun vs H Q E h => ?_) fun f cdv A outer s H vs Q E hr h => ⟨t_miss K cs E, ?_, pure_miss h⟩
  · unfold sp_miss at h
    first | (obtain ⟨rfl, _⟩ := h; rfl) | (obtain ⟨_, rfl, _⟩ := h; rfl) | (obtain ⟨_, _, rfl, _⟩ := h; rfl) | (obtain ⟨_, _, _, rfl, _⟩ := h; rfl) | (obtain ⟨_, _, _, _, rfl, _⟩ := h; rfl) | (obtain ⟨_, _, _, _, _, rfl, _⟩ := h; rfl) | (obtain ⟨_, _, _, _, _, _, rfl, _⟩ := h; rfl) | (obtain ⟨_, _, _, _, _, _, _, rfl, _⟩ := h; rfl) | (obtain ⟨_, _, _, _, _, _, _, _, rfl, _⟩ := h; rfl) | (obtain ⟨_, _, _, _, _, _, _, _, _, rfl, _⟩ := h; rfl) | (obtain ⟨_, _, _, _, _, _, _, _, _, _, rfl, _⟩ := h; rfl) | (obtain ⟨_, _, _, _, _, _, _, _, _, _, _, rfl, _⟩ := h; rfl) | (obtain ⟨_, _, _, _, _, _, _, _, _, _, _, _, rfl, _⟩ := h; rfl) | (obtain ⟨_, _, _, _, _, _, _, _, _, _, _, _, _, rfl, _⟩ := h; rfl) | (obtain ⟨_, _, _, _, _, _, _, _, _, _, _, _, _, _, rfl, _⟩ := h; rfl) | (obtain ⟨_, _, _, _, _, _, _, _, _, _, _, _, _, _, _, rfl, _⟩ := h; rfl)
  · exact (pss_cons (ps_expr (pe_cal cal_need_size hr (by decide) (by rfl) (L2N.passes_call (L2N.takes_of (E := E) rfl rfl rfl rfl) fun _ _ _ _ h => h) (pa_cons (pv 0) pa_nil)))
      (pss_cons (ps_expr (pe_cal cal_need_count hr (by decide) (by rfl) (L2N.passes_call (L2N.takes_of (E := E) rfl rfl rfl rfl) fun _ _ _ _ h => h) (pa_cons (pv 1) (pa_cons pe_int (pa_cons (pe_op op_sub (pv 0) pe_int) pa_nil)))))
      (pss_one (ps_ret (pe_cal cal_half hr (by decide) (by rfl) passN (pa_cons (pe_cal cal_falling hr (by decide) (by rfl) passN (pa_cons (pv 0) (pa_cons (pv 1) (pa_cons pe_int pa_nil)))) pa_nil))))))
theorem sc__law_told : FnScope ["_law_way", "_law_size", "_law_many", "_law_e"] ["_law_way", "_law_size", "_law_many"] (defScope s__law_told) := ⟨rfl, rfl, rfl, by decide +kernel, rfl, by decide +kernel, by decide +kernel⟩
theorem sc__law_told_v0 : (defScope s__law_told).names.lookup ("_law_way" : Str) = some .local := by decide +kernel
theorem sc__law_told_v1 : (defScope s__law_told).names.lookup ("_law_size" : Str) = some .local := by decide +kernel
theorem sc__law_told_v2 : (defScope s__law_told).names.lookup ("_law_many" : Str) = some .local := by decide +kernel
theorem sc__law_told_v3 : (defScope s__law_told).names.lookup ("_law_e" : Str) = some .local := by decide +kernel
def t__law_told (K : PySem.W.Frag) (cs : Cs) (E : XK) : TS :=
  (tTry K cs (.ref cs.StrewError) 3 fun W => (tSeq (tIfS (tTest (tOp rEq (tVar 0) (tC (.int 0))))
  (tRet (tCallS (sp_spread K cs) (WE W) (tCons (tVar 1) (tCons (tVar 2) tNil))))
  tNext)
  (tSeq (tIfS (tTest (tOp rEq (tVar 0) (tC (.int 1))))
  (tRet (tCallS (sp_hit K cs) (WE W) (tCons (tVar 1) (tCons (tVar 2) tNil))))
  tNext)
  (tRet (tCallS (sp_miss K cs) (WE W) (tCons (tVar 1) (tCons (tVar 2) tNil)))))))
def HitW (cs : Cs) (x y : V) (G : Nat → Nat → Prop) (B : Addr → Str → Prop) : Prop :=
  (∃ s m : Nat, x = .int (s : Int) ∧ y = .int (m : Int) ∧ 2 ≤ s ∧ s ≤ 64 ∧ 1 ≤ m ∧ m + 1 ≤ s ∧ okF s (m - 1) 0 = true ∧ okP (fallN s (m - 1) 0) = true ∧ G s m) ∨ ((∀ s : Nat, x = .int s → cnt x 2 64 = true → cnt y 1 (s - 1) = false) ∧ B cs.BadSize "BadSize")
def MissW (cs : Cs) (x y : V) (G : Nat → Nat → Prop) (B : Addr → Str → Prop) : Prop :=
  (∃ s m : Nat, x = .int (s : Int) ∧ y = .int (m : Int) ∧ 2 ≤ s ∧ s ≤ 64 ∧ m + 1 ≤ s ∧ okF s m 1 = true ∧ okP (fallN s m 1) = true ∧ G s m) ∨ ((∀ s : Nat, x = .int s → cnt x 2 64 = true → cnt y 0 (s - 1) = false) ∧ B cs.BadSize "BadSize")
theorem HitW.up {cs : Cs} {x y : V} {G G' : Nat → Nat → Prop} {B B' : Addr → Str → Prop} (g : ∀ s m, G s m → G' s m) (b : ∀ c nm, wordOf cs c nm → B c nm → B' c nm) (h : HitW cs x y G B) : HitW cs x y G' B' := by
  rcases h with ⟨s, m, h1, h2, h3, h4, h5, h6, h7, h8, k⟩ | ⟨h, k⟩
  · exact .inl ⟨s, m, h1, h2, h3, h4, h5, h6, h7, h8, g _ _ k⟩
  · exact .inr ⟨h, b _ _ w_size k⟩
theorem MissW.up {cs : Cs} {x y : V} {G G' : Nat → Nat → Prop} {B B' : Addr → Str → Prop} (g : ∀ s m, G s m → G' s m) (b : ∀ c nm, wordOf cs c nm → B c nm → B' c nm) (h : MissW cs x y G B) : MissW cs x y G' B' := by
  rcases h with ⟨s, m, h1, h2, h3, h4, h5, h6, h7, k⟩ | ⟨h, k⟩
  · exact .inl ⟨s, m, h1, h2, h3, h4, h5, h6, h7, g _ _ k⟩
  · exact .inr ⟨h, b _ _ w_size k⟩
def PrG (f : Nat → Nat → Nat × Nat) (Q : PV) (H : Hp) (s m : Nat) : Prop := ∀ p, H p = none → Q (.ref p) (upd H p (.tup [.int (((f s m).1 : Nat) : Int), .int (((f s m).2 : Nat) : Int)]))
theorem PrG.up {f : Nat → Nat → Nat × Nat} {Q : PV} {Q1 : VK} {H H1 : Hp} {s m : Nat} (e : Ex H H1) (q : ∀ v H0 H2, Q v H0 → Ex H0 H2 → Q1 v H2) (h : PrG f Q H s m) : PrG f (upR Q1) H1 s m := fun p hp H2 e2 => q _ _ _ (h p (e.fresh hp)) ((e.ups _ _).tr e2)
def sp__law_told (K : PySem.W.Frag) (cs : Cs) : Sp := fun vs H Q E => ∃ w x y T T', vs = [.int w, x, y] ∧ Ty5 K H x T ∧ Ty5 K H y T' ∧ ((w = 0 ∧ SpreadW cs x y (SpG (upR Q) H) (fun _ nm => upR Q (.str nm) H)) ∨ (w = 1 ∧ HitW cs x y (PrG hitN (upR Q) H) (fun _ nm => upR Q (.str nm) H)) ∨ (w = 2 ∧ MissW cs x y (PrG missN (upR Q) H) (fun _ nm => upR Q (.str nm) H)))
theorem c_told0 {K : PySem.W.Frag} {cs : Cs} {H : Hp} {x y : V} {T T' : String} {Q : PV} {E : XK} (hx : Ty5 K H x T) (hy : Ty5 K H y T') (h : SpreadW cs x y (SpG Q H) (fun _ nm => Q (.str nm) H)) : kC (fun ws H Q => sp__law_told K cs ws H Q E) [.int 0, x, y] H Q :=
  fun H1 e _ q => ⟨0, x, y, T, T', rfl, hx.up e, hy.up e, .inl ⟨rfl, h.up (fun s m g => g.up e q) fun c nm _ k H2 e2 => q _ _ _ k (e.tr e2)⟩⟩
theorem c_told1 {K : PySem.W.Frag} {cs : Cs} {H : Hp} {x y : V} {T T' : String} {Q : PV} {E : XK} (hx : Ty5 K H x T) (hy : Ty5 K H y T') (h : HitW cs x y (PrG hitN Q H) (fun _ nm => Q (.str nm) H)) : kC (fun ws H Q => sp__law_told K cs ws H Q E) [.int 1, x, y] H Q :=
  fun H1 e _ q => ⟨1, x, y, T, T', rfl, hx.up e, hy.up e, .inr (.inl ⟨rfl, h.up (fun s m g => g.up e q) fun c nm _ k H2 e2 => q _ _ _ k (e.tr e2)⟩)⟩
theorem c_told2 {K : PySem.W.Frag} {cs : Cs} {H : Hp} {x y : V} {T T' : String} {Q : PV} {E : XK} (hx : Ty5 K H x T) (hy : Ty5 K H y T') (h : MissW cs x y (PrG missN Q H) (fun _ nm => Q (.str nm) H)) : kC (fun ws H Q => sp__law_told K cs ws H Q E) [.int 2, x, y] H Q :=
  fun H1 e _ q => ⟨2, x, y, T, T', rfl, hx.up e, hy.up e, .inr (.inr ⟨rfl, h.up (fun s m g => g.up e q) fun c nm _ k H2 e2 => q _ _ _ k (e.tr e2)⟩)⟩
theorem pure__law_told {K : PySem.W.Frag} {cs : Cs} {H : Hp} {vs : List V} {Q : VK} {E : XK} (kx : ExmW K cs) (h : sp__law_told K cs vs H Q E) : t__law_told K cs E { nx := fun _ H' => Q .non H', rt := Q } (start ["_law_way", "_law_size", "_law_many", "_law_e"] vs) H := by
  obtain ⟨w, x, y, T, T', rfl, hx, hy, h⟩ := h
  refine fin (σ := [some (.int w), some x, some y, none]) ?_
  unfold t__law_told
  refine s_try kx fun W hW => ?_
  rcases h with ⟨rfl, h⟩ | ⟨rfl, h⟩ | ⟨rfl, h⟩
  · k_clsL
    refine e_callS ?_
    k_clsL
    exact c_spread hx hy (h.up (fun _ _ k => k) fun c nm hw k H2 e2 => by
      show W (.ref c) none [some (.int 0), some x, some y, none] H2
      exact hW c nm _ H hw (Nat.lt_succ_self _) k H2 e2)
  · k_clsL
    refine e_callS ?_
    k_clsL
    rcases h with ⟨s, m, rfl, rfl, h3, h4, h5, h6, h7, h8, k⟩ | ⟨h, k⟩
    · exact c_hit rfl rfl h3 h4 h5 h6 h7 h8 k
    · refine cE_hit hx hy h fun H2 e2 => ?_
      show W (.ref cs.BadSize) none [some (.int 1), some x, some y, none] H2
      exact hW _ "BadSize" _ H w_size (Nat.lt_succ_self _) k H2 e2
  · k_clsL
    refine e_callS ?_
    k_clsL
    rcases h with ⟨s, m, rfl, rfl, h3, h4, h6, h7, h8, k⟩ | ⟨h, k⟩
    · exact c_miss rfl rfl h3 h4 (Nat.zero_le m) h6 h7 h8 k
    · refine cE_miss hx hy h fun H2 e2 => ?_
      show W (.ref cs.BadSize) none [some (.int 2), some x, some y, none] H2
      exact hW _ "BadSize" _ H w_size (Nat.lt_succ_self _) k H2 e2
theorem ok__law_told {P : Program} {w : World} {K : PySem.W.Frag} {mg : Str → Option Value} {base : Heap} {cs : Cs} (D__law_told : Dn K mg "_law_told" s__law_told ["_law_way", "_law_size", "_law_many"]) (cal__law_word : CalX P w K mg base 1 "_law_word" ["_law_e"] (sp_word cs)) (cal_spread : Cal P w K mg base (L2N.CX P w) 3 "spread" ["size", "many"] (sp_spread K cs)) (cal_hit : Cal P w K mg base (L2N.CX P w) 4 "hit" ["size", "many"] (sp_hit K cs)) (cal_miss : Cal P w K mg base (L2N.CX P w) 4 "miss" ["size", "many"] (sp_miss K cs)) (kx : ExmW K cs) (x_StrewError : ExcT K mg "StrewError" cs.StrewError) :
    Cal P w K mg base (L2N.CX P w) 5 "_law_told" ["_law_way", "_law_size", "_law_many"] (sp__law_told K cs) := by
  refine cal_mk D__law_told sc__law_told (fun vs H Q E h => ?_) fun f cdv A outer s H vs Q E hr h => ⟨t__law_told K cs E, ?_, pure__law_told kx h⟩
  · unfold sp__law_told at h
    first | (obtain ⟨rfl, _⟩ := h; rfl) | (obtain ⟨_, rfl, _⟩ := h; rfl) | (obtain ⟨_, _, rfl, _⟩ := h; rfl) | (obtain ⟨_, _, _, rfl, _⟩ := h; rfl) | (obtain ⟨_, _, _, _, rfl, _⟩ := h; rfl) | (obtain ⟨_, _, _, _, _, rfl, _⟩ := h; rfl) | (obtain ⟨_, _, _, _, _, _, rfl, _⟩ := h; rfl) | (obtain ⟨_, _, _, _, _, _, _, rfl, _⟩ := h; rfl) | (obtain ⟨_, _, _, _, _, _, _, _, rfl, _⟩ := h; rfl) | (obtain ⟨_, _, _, _, _, _, _, _, _, rfl, _⟩ := h; rfl) | (obtain ⟨_, _, _, _, _, _, _, _, _, _, rfl, _⟩ := h; rfl) | (obtain ⟨_, _, _, _, _, _, _, _, _, _, _, rfl, _⟩ := h; rfl) | (obtain ⟨_, _, _, _, _, _, _, _, _, _, _, _, rfl, _⟩ := h; rfl) | (obtain ⟨_, _, _, _, _, _, _, _, _, _, _, _, _, rfl, _⟩ := h; rfl) | (obtain ⟨_, _, _, _, _, _, _, _, _, _, _, _, _, _, rfl, _⟩ := h; rfl) | (obtain ⟨_, _, _, _, _, _, _, _, _, _, _, _, _, _, _, rfl, _⟩ := h; rfl)
  · exact (pss_one (ps_tryT (i := 3) rfl rfl sc__law_told.nd rfl sc__law_told_v3 (by rfl) x_StrewError.g cal__law_word hr (by decide) (by rfl) (fun W pn xe tk => (pss_cons (ps_if (pt_cmpR op_eq (pv 0) pe_int (nomark _))
      (pss_one (ps_ret (pe_calS cal_spread hr (by decide) (by rfl) (fun σ => L2N.passAt tk σ) (pa_cons (pv 1) (pa_cons (pv 2) pa_nil)))))
      pss_nil)
      (pss_cons (ps_if (pt_cmpR op_eq (pv 0) pe_int (nomark _))
      (pss_one (ps_ret (pe_calS cal_hit hr (by decide) (by rfl) (fun σ => L2N.passAt tk σ) (pa_cons (pv 1) (pa_cons (pv 2) pa_nil)))))
      pss_nil)
      (pss_one (ps_ret (pe_calS cal_miss hr (by decide) (by rfl) (fun σ => L2N.passAt tk σ) (pa_cons (pv 1) (pa_cons (pv 2) pa_nil)))))))) (fun _ _ => pv 3)))
theorem sc__law_fraction : FnScope ["_law_top", "_law_under", "_law_one", "_law_other"] ["_law_top", "_law_under"] (defScope s__law_fraction) := ⟨rfl, rfl, rfl, by decide +kernel, rfl, by decide +kernel, by decide +kernel⟩
theorem sc__law_fraction_v0 : (defScope s__law_fraction).names.lookup ("_law_top" : Str) = some .local := by decide +kernel
theorem sc__law_fraction_v1 : (defScope s__law_fraction).names.lookup ("_law_under" : Str) = some .local := by decide +kernel
theorem sc__law_fraction_v2 : (defScope s__law_fraction).names.lookup ("_law_one" : Str) = some .local := by decide +kernel
theorem sc__law_fraction_v3 : (defScope s__law_fraction).names.lookup ("_law_other" : Str) = some .local := by decide +kernel
def t__law_fraction (K : PySem.W.Frag) (cs : Cs) (E : XK) : TS :=
  (tSeq (tPar 2 3 (tCons (tVar 0) (tCons (tVar 1) tNil)))
  (tSeq (tWhile (tTest (tOp (rI0 fun i j => .bl (decide (j < i))) (tVar 3) (tC (.int 0))))
  (tPar 2 3 (tCons (tVar 3) (tCons (tOp (rI (fun _ j => 0 < j) fun i j => .int (i % j)) (tVar 2) (tVar 3)) tNil))))
  (tRet (tTup (tCons (tOp (rI CDivW fun i j => .int (i / j)) (tVar 0) (tVar 2)) (tCons (tOp (rI CDivW fun i j => .int (i / j)) (tVar 1) (tVar 2)) tNil))))))
def sp__law_fraction (K : PySem.W.Frag) (_ : Cs) : Sp := fun vs H Q _ => ∃ m n : Nat, vs = [.int (m : Int), .int (n : Int)] ∧ 0 < n ∧ n < 2 ^ 4000 ∧ ∀ p, H p = none → upR Q (.ref p) (upd H p (.tup [.int ((fr m n).1 : Nat), .int ((fr m n).2 : Nat)]))
theorem c__law_fraction {K : PySem.W.Frag} {cs : Cs} {H : Hp} {i j : Int} {m n : Nat} {Q : PV} {E : XK} (hi : i = (m : Int)) (hj : j = (n : Int)) (h0 : 0 < n) (hb : n < 2 ^ 4000) (k : ∀ p, H p = none → Q (.ref p) (upd H p (.tup [.int ((fr m n).1 : Nat), .int ((fr m n).2 : Nat)]))) :
    kC (fun ws H Q => sp__law_fraction K cs ws H Q E) [.int i, .int j] H Q := by
  subst hi hj
  exact fun H1 e _ q => ⟨m, n, rfl, h0, hb, fun p hp H2 e2 => q _ _ _ (k p (e.fresh hp)) ((e.ups _ _).tr e2)⟩
theorem pure__law_fraction {K : PySem.W.Frag} {cs : Cs} {H : Hp} {vs : List V} {Q : VK} {E : XK} (h : sp__law_fraction K cs vs H Q E) : t__law_fraction K cs E { nx := fun _ H' => Q .non H', rt := Q } (start ["_law_top", "_law_under", "_law_one", "_law_other"] vs) H := by
  obtain ⟨m, n, rfl, h0, hb, q⟩ := h
  refine fin (σ := [some (.int m), some (.int n), none, none]) ?_
  unfold t__law_fraction
  k_clsL
  refine s_while (fun z s H1 => ∃ a b : Nat, z = b ∧ s = [some (.int m), some (.int n), some (.int a), some (.int b)] ∧ Nat.gcd a b = Nat.gcd m n ∧ H1 = H) n ⟨m, n, rfl, rfl, rfl, rfl⟩ ?_
  rintro z s H1 ⟨a, b, rfl, rfl, hg, rfl⟩
  k_clsL
  refine ⟨fun h1 => ?_, fun h1 => ?_⟩
  · have hb0 : 0 < z := by simpa using h1
    k_clsL
    refine ⟨a % z, _, Nat.mod_lt _ hb0, ⟨z, a % z, rfl, ?_, ?_, rfl⟩, Ex.rf⟩
    · rw [Int.natCast_emod]; rfl
    · rw [gcd_turn]; exact hg
  · have hb0 : z = 0 := by simpa using h1
    subst hb0
    rw [Nat.gcd_zero_right] at hg
    subst hg
    have hp : 0 < Nat.gcd m n := Nat.gcd_pos_of_pos_right m h0
    have hl : Nat.gcd m n ≤ n := Nat.le_of_dvd h0 (Nat.gcd_dvd_right m n)
    have hd : ∀ i : Int, CDivW i ((Nat.gcd m n : Nat) : Int) := fun i => divw hp (Nat.lt_of_le_of_lt hl hb) (by decide) (by decide)
    have hd1 := hd m
    have hd2 := hd n
    k_clsL
    exact q _ (by assumption)
theorem ok__law_fraction {P : Program} {w : World} {K : PySem.W.Frag} {mg : Str → Option Value} {base : Heap} {cs : Cs} (D__law_fraction : Dn K mg "_law_fraction" s__law_fraction ["_law_top", "_law_under"]) :
    Cal P w K mg base (L2N.CX P w) 1 "_law_fraction" ["_law_top", "_law_under"] (sp__law_fraction K cs) := by
  refine cal_mk D__law_fraction sc__law_fraction (fun vs H Q E h => ?_) fun f cdv A outer s H vs Q E hr h => ⟨t__law_fraction K cs E, ?_, pure__law_fraction h⟩
  · unfold sp__law_fraction at h
    first | (obtain ⟨rfl, _⟩ := h; rfl) | (obtain ⟨_, rfl, _⟩ := h; rfl) | (obtain ⟨_, _, rfl, _⟩ := h; rfl) | (obtain ⟨_, _, _, rfl, _⟩ := h; rfl) | (obtain ⟨_, _, _, _, rfl, _⟩ := h; rfl) | (obtain ⟨_, _, _, _, _, rfl, _⟩ := h; rfl) | (obtain ⟨_, _, _, _, _, _, rfl, _⟩ := h; rfl) | (obtain ⟨_, _, _, _, _, _, _, rfl, _⟩ := h; rfl) | (obtain ⟨_, _, _, _, _, _, _, _, rfl, _⟩ := h; rfl) | (obtain ⟨_, _, _, _, _, _, _, _, _, rfl, _⟩ := h; rfl) | (obtain ⟨_, _, _, _, _, _, _, _, _, _, rfl, _⟩ := h; rfl) | (obtain ⟨_, _, _, _, _, _, _, _, _, _, _, rfl, _⟩ := h; rfl) | (obtain ⟨_, _, _, _, _, _, _, _, _, _, _, _, rfl, _⟩ := h; rfl) | (obtain ⟨_, _, _, _, _, _, _, _, _, _, _, _, _, rfl, _⟩ := h; rfl) | (obtain ⟨_, _, _, _, _, _, _, _, _, _, _, _, _, _, rfl, _⟩ := h; rfl) | (obtain ⟨_, _, _, _, _, _, _, _, _, _, _, _, _, _, _, rfl, _⟩ := h; rfl)
  · exact (pss_cons (ps_par (i := 2) (j := 3) rfl sc__law_fraction.nd rfl rfl (by decide) sc__law_fraction_v2 sc__law_fraction_v3 (pa_cons (pv 0) (pa_cons (pv 1) pa_nil)) (by rfl))
      (pss_cons (ps_while (passes_of rfl) (pt_cmpR op_gt (pv 3) pe_int (nomark _))
      (pss_one (ps_par (i := 2) (j := 3) rfl sc__law_fraction.nd rfl rfl (by decide) sc__law_fraction_v2 sc__law_fraction_v3 (pa_cons (pv 3) (pa_cons (pe_op op_mod (pv 2) (pv 3)) pa_nil)) (by rfl))))
      (pss_one (ps_ret (pe_tup (pa_cons (pe_op op_fdivW (pv 0) (pv 2)) (pa_cons (pe_op op_fdivW (pv 1) (pv 2)) pa_nil)))))))
theorem sc_law : FnScope ["_law_script", "_law_k", "_law_more", "_law_some", "_law_size", "_law_most", "_law_many", "_law_whole", "_law_turn", "_law_counts", "_law_looks", "_law_number", "_law_far", "_law_more_looks", "_law_found", "_law_due", "_law_together", "_law_one", "_law_other", "_law_great", "_law_is_many", "_law_count", "_law_way"] ["_law_script"] (defScope s_law) := ⟨rfl, rfl, rfl, by decide +kernel, rfl, by decide +kernel, by decide +kernel⟩
theorem sc_law_v0 : (defScope s_law).names.lookup ("_law_script" : Str) = some .local := by decide +kernel
theorem sc_law_v1 : (defScope s_law).names.lookup ("_law_k" : Str) = some .local := by decide +kernel
theorem sc_law_v2 : (defScope s_law).names.lookup ("_law_more" : Str) = some .local := by decide +kernel
theorem sc_law_v3 : (defScope s_law).names.lookup ("_law_some" : Str) = some .local := by decide +kernel
theorem sc_law_v4 : (defScope s_law).names.lookup ("_law_size" : Str) = some .local := by decide +kernel
theorem sc_law_v5 : (defScope s_law).names.lookup ("_law_most" : Str) = some .local := by decide +kernel
theorem sc_law_v6 : (defScope s_law).names.lookup ("_law_many" : Str) = some .local := by decide +kernel
theorem sc_law_v7 : (defScope s_law).names.lookup ("_law_whole" : Str) = some .local := by decide +kernel
theorem sc_law_v8 : (defScope s_law).names.lookup ("_law_turn" : Str) = some .local := by decide +kernel
theorem sc_law_v9 : (defScope s_law).names.lookup ("_law_counts" : Str) = some .cell := by decide +kernel
theorem sc_law_v10 : (defScope s_law).names.lookup ("_law_looks" : Str) = some .local := by decide +kernel
theorem sc_law_v11 : (defScope s_law).names.lookup ("_law_number" : Str) = some .local := by decide +kernel
theorem sc_law_v12 : (defScope s_law).names.lookup ("_law_far" : Str) = some .local := by decide +kernel
theorem sc_law_v13 : (defScope s_law).names.lookup ("_law_more_looks" : Str) = some .local := by decide +kernel
theorem sc_law_v14 : (defScope s_law).names.lookup ("_law_found" : Str) = some .local := by decide +kernel
theorem sc_law_v15 : (defScope s_law).names.lookup ("_law_due" : Str) = some .local := by decide +kernel
theorem sc_law_v16 : (defScope s_law).names.lookup ("_law_together" : Str) = some .local := by decide +kernel
theorem sc_law_v17 : (defScope s_law).names.lookup ("_law_one" : Str) = some .cell := by decide +kernel
theorem sc_law_v18 : (defScope s_law).names.lookup ("_law_other" : Str) = some .cell := by decide +kernel
theorem sc_law_v19 : (defScope s_law).names.lookup ("_law_great" : Str) = some .local := by decide +kernel
theorem sc_law_v20 : (defScope s_law).names.lookup ("_law_is_many" : Str) = some .local := by decide +kernel
def t_law_c9 (K : PySem.W.Frag) (cs : Cs) (E : XK) : TS :=
  (tSeq (tAsg (tOp (rEqD K) (tCall (sp__law_told K cs) [] E0 (tCons (tC (.int 0)) (tCons (tOp (rIxT K) (tVar 19) (tC (.int 0))) (tCons (tOp (rIxT K) (tVar 19) (tC (.int 1))) tNil)))) (tC (.str "TooMany"))) (gName 20))
  (tSeq (tAsg (tC (.int 1)) (gName 7))
  (tSeq (tFor (iRng1 (tCons (tOp (rIxT K) (tVar 19) (tC (.int 1))) tNil)) (gName 8)
  (tAsg (tOp (rI IntMulOk fun i j => .int (i * j)) (tVar 7) (tOp (rIxT K) (tVar 19) (tC (.int 0)))) (gName 7)))
  (tIfS (tAnd (tTest (tOp (rI0 fun i j => .bl (decide (i < j))) (tOp (rIxT K) (tVar 19) (tC (.int 0))) (tC (.int 65)))) (tTest (tOp rNe (tVar 20) (tOp (rI0 fun i j => .bl (decide (j < i))) (tVar 7) (tC (.int 4096))))))
  (tRet (tC (.bl false)))
  tNext))))
def t_law_c8 (K : PySem.W.Frag) (cs : Cs) (E : XK) : TS :=
  (tSeq (tAsg (tOp (rIxL K) (tLst (tCons (tTup (tCons (tC (.int 64)) (tCons (tC (.int 3)) tNil))) (tCons (tTup (tCons (tC (.int 5)) (tCons (tC (.int 4)) tNil))) (tCons (tTup (tCons (tC (.int 8)) (tCons (tC (.int 4)) tNil))) (tCons (tTup (tCons (tC (.int 9)) (tCons (tC (.int 4)) tNil))) (tCons (tTup (tCons (tC (.int 17)) (tCons (tC (.int 3)) tNil))) (tCons (tTup (tCons (tC (.int 16)) (tCons (tC (.int 3)) tNil))) (tCons (tTup (tCons (tOp (rI0 fun i j => .int (i - j)) (tC (.int 65)) (tOp (rI (fun _ j => 0 < j) fun i j => .int (i % j)) (tOp (rI CDivW fun i j => .int (i / j)) (tVar 2) (tC (.int 512))) (tC (.int 40)))) (tCons (tC (.int 4)) tNil))) tNil)))))))) (tOp (rI (fun _ j => 0 < j) fun i j => .int (i % j)) (tOp (rI CDivW fun i j => .int (i / j)) (tVar 2) (tC (.int 1024))) (tC (.int 7)))) (gName 19))
  (t_law_c9 K cs E))
def t_law_c7 (K : PySem.W.Frag) (cs : Cs) (E : XK) : TS :=
  (tSeq (tIfS (tTest (tOp rNe (tCall (sp__law_told K cs) [] E0 (tCons (tC (.int 1)) (tCons (tC (.int 5)) (tCons (tC (.int 0)) tNil)))) (tC (.str "BadSize"))))
  (tRet (tC (.bl false)))
  tNext)
  (t_law_c8 K cs E))
def t_law_c6 (K : PySem.W.Frag) (cs : Cs) (E : XK) : TS :=
  (tSeq (tAsg (tLst (tCons (tTup (tCons (tC (.int 1)) (tCons (tC (.int 0)) tNil))) (tCons (tTup (tCons (tC (.int 65)) (tCons (tC (.int 1)) tNil))) (tCons (tTup (tCons (tC (.int 5)) (tCons (tC (.int 5)) tNil))) (tCons (tTup (tCons (tC (.int 5)) (tCons (tUn (rU fun i => .int (-i)) (tC (.int 1))) tNil))) (tCons (tTup (tCons (tC (.int 5)) (tCons (tC (.bl true)) tNil))) (tCons (tTup (tCons (tC (.str "5")) (tCons (tC (.int 1)) tNil))) (tCons (tTup (tCons (tC (.int 5)) (tCons (tC .non) tNil))) (tCons (tTup (tCons (tC (.int 64)) (tCons (tC (.int 64)) tNil))) tNil))))))))) (gName 3))
  (tSeq (tAsg (tOp (rIxL K) (tVar 3) (tOp (rI (fun _ j => 0 < j) fun i j => .int (i % j)) (tOp (rI CDivW fun i j => .int (i / j)) (tVar 2) (tC (.int 64))) (tC (.int 8)))) (gTup K 2 (gCons (gName 17) (gCons (gName 18) gNil))))
  (tSeq (tIfS (tTest (tOp (rNeD K) (tLc (iRng1 (tCons (tC (.int 3)) tNil)) (gName 22) tYes (tCall (sp__law_told K cs) [] E0 (tCons (tVar 22) (tCons (tVar 17) (tCons (tVar 18) tNil)))) [22]) (tOp rRep (tLst (tCons (tC (.str "BadSize")) tNil)) (tC (.int 3)))))
  (tRet (tC (.bl false)))
  tNext)
  (t_law_c7 K cs E))))
def t_law_c5 (K : PySem.W.Frag) (cs : Cs) (E : XK) : TS :=
  (tSeq (tAsg (tCB (rSum K) (tCons (tLc (iEnum K (tCons (tVar 14) tNil)) (gTup K 2 (gCons (gName 12) (gCons (gName 21) gNil))) tYes (tOp (rI IntMulOk fun i j => .int (i * j)) (tVar 12) (tVar 21)) [12, 21]) tNil)) (gName 16))
  (tSeq (tAsg (tCall (sp__law_fraction K cs) [] E0 (tCons (tOp (rI0 fun i j => .int (i + j)) (tVar 16) (tOp (rI IntMulOk fun i j => .int (i * j)) (tVar 7) (tVar 6))) (tCons (tOp (rI IntMulOk fun i j => .int (i * j)) (tVar 7) (tCB (fun xs H Q => ∃ i j, xs = [V.int i, .int j] ∧ Q (.int (if j > i then j else i)) H) (tCons (tC (.int 1)) (tCons (tVar 6) tNil)))) tNil))) (gName 15))
  (tSeq (tIfS (tAnd (tTest (tOp (rI0 fun i j => .bl (decide (j < i))) (tVar 6) (tC (.int 0)))) (tTest (tOp (rNeD K) (tCall (sp__law_told K cs) [] E0 (tCons (tC (.int 1)) (tCons (tVar 4) (tCons (tVar 6) tNil)))) (tVar 15))))
  (tRet (tC (.bl false)))
  tNext)
  (t_law_c6 K cs E))))
def t_law_c4 (K : PySem.W.Frag) (cs : Cs) (E : XK) : TS :=
  (tSeq (tIfS (tTest (tOp (rNeD K) (tCall (sp__law_told K cs) [] E0 (tCons (tC (.int 2)) (tCons (tVar 4) (tCons (tVar 6) tNil)))) (tCall (sp__law_fraction K cs) [] E0 (tCons (tVar 10) (tCons (tOp (rI IntMulOk fun i j => .int (i * j)) (tVar 7) (tVar 4)) tNil)))))
  (tRet (tC (.bl false)))
  tNext)
  (t_law_c5 K cs E))
def t_law_c3 (K : PySem.W.Frag) (cs : Cs) (E : XK) : TS :=
  (tSeq (tAsg (tCall (sp__law_told K cs) [] E0 (tCons (tC (.int 0)) (tCons (tVar 4) (tCons (tVar 6) tNil)))) (gName 14))
  (tSeq (tAsg (tLc (iRng1 (tCons (tOp (rI0 fun i j => .int (i + j)) (tCB rMaxK (tCons (tVar 9) tNil)) (tC (.int 1))) tNil)) (gName 12) tYes (tDGet2 (tVar 9) (tVar 12) (tC (.int 0))) [12]) (gName 15))
  (tSeq (tIfS (tOr (tTest (tOp (rNeD K) (tVar 14) (tVar 15))) (tTest (tOp rNe (tCB (rSum K) (tCons (tVar 14) tNil)) (tVar 7))))
  (tRet (tC (.bl false)))
  tNext)
  (t_law_c4 K cs E))))
def t_law_c2 (K : PySem.W.Frag) (cs : Cs) (E : XK) : TS :=
  (tSeq (tAsg tDNewK (gName 9))
  (tSeq (tAsg (tC (.int 0)) (gName 10))
  (tSeq (tFor (iRng1 (tCons (tVar 7) tNil)) (gName 11)
  (tSeq (tAsg (tCall (sp__law_gone K cs) [] E0 (tCons (tVar 4) (tCons (tVar 11) (tCons (tVar 6) tNil)))) (gTup K 2 (gCons (gName 12) (gCons (gName 13) gNil))))
  (tSeq (tAsg (tOp (rI0 fun i j => .int (i + j)) (tDGet2 (tVar 9) (tVar 12) (tC (.int 0))) (tC (.int 1))) (gSub (tVar 9) (tVar 12) rSetD))
  (tAsg (tOp (rI0 fun i j => .int (i + j)) (tVar 10) (tVar 13)) (gName 10)))))
  (t_law_c3 K cs E))))
def t_law_c1 (K : PySem.W.Frag) (cs : Cs) (E : XK) : TS :=
  (tSeq (tAsg (tC (.int 1)) (gName 7))
  (tSeq (tFor (iRng1 (tCons (tVar 6) tNil)) (gName 8)
  (tAsg (tOp (rI IntMulOk fun i j => .int (i * j)) (tVar 7) (tVar 4)) (gName 7)))
  (t_law_c2 K cs E)))
def t_law (K : PySem.W.Frag) (cs : Cs) (E : XK) : TS :=
  (tSeq (tFor (iRng1 (tCons (tCB (fun xs H Q => ∃ i j, xs = [V.int i, .int j] ∧ Q (.int (if j > i then j else i)) H) (tCons (tC (.int 1)) (tCons (tCB (fun xs H Q => ∃ i j, xs = [V.int i, .int j] ∧ Q (.int (if j < i then j else i)) H) (tCons (tC (.int 2)) (tCons (tCB (fun xs H Q => ∃ p ys, xs = [V.ref p] ∧ (SqL K H p ys ∨ SqT K H p ys) ∧ Q (.int ys.length) H) (tCons (tVar 0) tNil)) tNil))) tNil))) tNil)) (gName 1)
  (tSeq (tAsg (tCall (sp__law_drawn K cs) [] E0 (tCons (tCall (sp__law_cell K cs) [] E0 (tCons (tVar 0) (tCons (tVar 1) tNil))) (tCons (tVar 1) tNil))) (gName 2))
  (tSeq (tAsg (tLst (tCons (tTup (tCons (tC (.int 2)) (tCons (tC (.int 1)) tNil))) (tCons (tTup (tCons (tC (.int 3)) (tCons (tC (.int 2)) tNil))) (tCons (tTup (tCons (tC (.int 4)) (tCons (tC (.int 3)) tNil))) (tCons (tTup (tCons (tC (.int 5)) (tCons (tC (.int 4)) tNil))) (tCons (tTup (tCons (tC (.int 6)) (tCons (tC (.int 4)) tNil))) (tCons (tTup (tCons (tC (.int 7)) (tCons (tC (.int 3)) tNil))) (tCons (tTup (tCons (tC (.int 32)) (tCons (tC (.int 2)) tNil))) (tCons (tTup (tCons (tC (.int 9)) (tCons (tC (.int 3)) tNil))) tNil))))))))) (gName 3))
  (tSeq (tAsg (tOp (rIxL K) (tVar 3) (tOp (rI (fun _ j => 0 < j) fun i j => .int (i % j)) (tVar 2) (tC (.int 8)))) (gTup K 2 (gCons (gName 4) (gCons (gName 5) gNil))))
  (tSeq (tAsg (tOp (rI (fun _ j => 0 < j) fun i j => .int (i % j)) (tOp (rI CDivW fun i j => .int (i / j)) (tVar 2) (tC (.int 8))) (tOp (rI0 fun i j => .int (i + j)) (tVar 5) (tC (.int 1)))) (gName 6))
  (t_law_c1 K cs E))))))
  (tRet (tC (.bl true))))
def sp_law (K : PySem.W.Frag) (_ : Cs) : Sp := spLaw K
theorem cntRg_zero {p : Nat → Bool} : ∀ {n}, (∀ i, i < n → p i = false) → cntRg p n = 0
  | 0, _ => rfl
  | n + 1, h => by
    rw [cntRg, cntRg_zero fun i hi => h i (Nat.lt_succ_of_lt hi), h n (Nat.lt_succ_self n)]
    rfl
theorem cntRg_none {p : Nat → Bool} : ∀ {n}, cntRg p n = 0 → ∀ i, i < n → p i = false
  | 0, _, i, hi => absurd hi (Nat.not_lt_zero i)
  | n + 1, h, i, hi => by
    rw [cntRg] at h
    have h1 : cntRg p n = 0 := by omega
    have h2 : (if p n = true then 1 else 0) = 0 := by omega
    rcases Nat.lt_or_ge i n with z | z
    · exact cntRg_none h1 i z
    · have : i = n := by omega
      subst this
      cases e : p i with
      | false => rfl
      | true => rw [e] at h2; simp at h2
theorem cnt_eq {q : Nat × Nat} {n : Nat} (hq : q ∈ pairs40) (hn : n ≤ q.2) (f : Nat) : cntP q.1 n f = cntL q.1 n f := by
  obtain ⟨h1, h2⟩ := k40_all q hq n (List.mem_range.mpr (by omega))
  rcases Nat.lt_or_ge f 8 with z | z
  · exact h2 f (List.mem_range.mpr z)
  · have a : cntP q.1 n f = 0 := by
      unfold cntP
      rw [List.countP_eq_zero]
      intro h hh e
      have := List.all_eq_true.mp h1 h hh
      have h3 : wayN q.1 h < 8 := by simpa using this
      have h4 : wayN q.1 h = f := by simpa using e
      omega
    have b : cntL q.1 n f = 0 := by
      unfold cntL
      refine cntRg_zero fun i hi => ?_
      have := cntRg_none (k40_far q hq n (List.mem_range.mpr (by omega))) i hi
      have h3 : ¬ 8 ≤ farN q.1 n i := by simpa using this
      have : farN q.1 n i ≠ f := by omega
      simpa using this
    rw [a, b]
theorem cnt_lt8 {q : Nat × Nat} {n f : Nat} (hq : q ∈ pairs40) (hn : n ≤ q.2) (h : 0 < cntL q.1 n f) : f < 8 := by
  rcases Nat.lt_or_ge f 8 with z | z
  · exact z
  · exfalso
    have b : cntL q.1 n f = 0 := by
      unfold cntL
      refine cntRg_zero fun i hi => ?_
      have := cntRg_none (k40_far q hq n (List.mem_range.mpr (by omega))) i hi
      have h3 : ¬ 8 ≤ farN q.1 n i := by simpa using this
      have : farN q.1 n i ≠ f := by omega
      simpa using this
    omega
theorem pairs40_ok : ∀ q ∈ pairs40, 2 ≤ q.1 ∧ q.1 ≤ 32 ∧ q.2 + 1 ≤ q.1 ∧ ∀ n ∈ List.range (q.2 + 1), q.1 ^ n ≤ 1300 := by decide +kernel
theorem law_c9 {K : PySem.W.Frag} {cs : Cs} {E : XK} {N B C : PS'} {R : PV} {H0 H : Hp} {y0 y1 y3 y4 y5 y6 y7 y8 y9 y10 y11 y12 y13 y14 y15 y16 y17 y18 y20 y21 y22 : Option V} {m : Nat} (e0 : Ex H0 H)
    (hN : ∀ (H' : Hp) (z1 z3 z4 z5 z6 z7 z8 z9 z10 z11 z12 z13 z14 z15 z16 z17 z18 z19 z20 z21 z22 : Option V), Ex H0 H' → N [y0, z1, some (.int (m : Int)), z3, z4, z5, z6, z7, z8, z9, z10, z11, z12, z13, z14, z15, z16, z17, z18, z19, z20, z21, z22] H') {ga : Addr} {s n : Nat} (h2 : 2 ≤ s) (h6 : s ≤ 65) (hn : n + 1 ≤ s) (hn4 : n ≤ 4) (hg : H ga = some (.tup [.int (s : Int), .int (n : Int)])) : kS (t_law_c9 K cs E) N R B C [y0, y1, some (.int (m : Int)), y3, y4, y5, y6, y7, y8, y9, y10, y11, y12, y13, y14, y15, y16, y17, y18, some (.ref ga), y20, y21, y22] H := by
  unfold t_law_c9
  have go : ∀ (H1 : Hp) (im : Bool), Ex H H1 → (s < 65 → im = decide (4096 < s ^ n)) → kS (tSeq (tAsg (tC (.int 1)) (gName 7))
  (tSeq (tFor (iRng1 (tCons (tOp (rIxT K) (tVar 19) (tC (.int 1))) tNil)) (gName 8)
  (tAsg (tOp (rI IntMulOk fun i j => .int (i * j)) (tVar 7) (tOp (rIxT K) (tVar 19) (tC (.int 0)))) (gName 7)))
  (tIfS (tAnd (tTest (tOp (rI0 fun i j => .bl (decide (i < j))) (tOp (rIxT K) (tVar 19) (tC (.int 0))) (tC (.int 65)))) (tTest (tOp rNe (tVar 20) (tOp (rI0 fun i j => .bl (decide (j < i))) (tVar 7) (tC (.int 4096))))))
  (tRet (tC (.bl false)))
  tNext))) N R B C [y0, y1, some (.int (m : Int)), y3, y4, y5, y6, y7, y8, y9, y10, y11, y12, y13, y14, y15, y16, y17, y18, some (.ref ga), some (.bl im), y21, y22] H1 := by
    intro H1 im e1 him
    have hg1 := e1 _ _ hg
    k_clsL
    refine s_for ?_
    k_clsL
    refine ⟨by omega, fun i σ H2 => H2 = H1 ∧ ∃ z8, σ = [y0, y1, some (.int (m : Int)), y3, y4, y5, y6, some (.int ((s ^ i : Nat) : Int)), z8, y9, y10, y11, y12, y13, y14, y15, y16, y17, y18, some (.ref ga), some (.bl im), y21, y22], ⟨rfl, y8, rfl⟩, fun _ _ _ _ _ => trivial, ?_, ?_⟩
    · rintro i σ H2 hi ⟨rfl, z8, rfl⟩
      refine g_name ?_
      k_clsL
      refine ⟨_, ⟨rfl, some (.int (i : Nat)), ?_⟩, Ex.rf⟩
      have e3 : ((s ^ i : Nat) : Int) * (s : Int) = ((s ^ (i + 1) : Nat) : Int) := by
        rw [Nat.pow_succ]
        push_cast
        rfl
      rw [e3]
      rfl
    · rintro σ H2 ⟨rfl, z8, rfl⟩
      k_clsL
      refine dec2 (fun h => ?_) (fun h => ?_)
      · k_clsL
        refine bF ?_ ?_
        · have e1 := him (by omega)
          rw [e1]
          have e2 : decide ((4096 : Int) < ((s ^ n : Nat) : Int)) = decide (4096 < s ^ n) := by
            by_cases z : 4096 < s ^ n
            · rw [decide_eq_true z, decide_eq_true (by omega)]
            · rw [decide_eq_false z, decide_eq_false (by omega)]
          rw [e2]
          simp
        · k_clsL
          exact hN _ _ _ _ _ _ _ _ _ _ _ _ _ _ _ _ _ _ _ _ _ _ (e0.tr e1)
      · k_clsL
        exact hN _ _ _ _ _ _ _ _ _ _ _ _ _ _ _ _ _ _ _ _ _ _ (e0.tr e1)
  k_clsL
  by_cases h65 : s = 65
  · refine c_told0 (.int _) (.int _) (.inl ⟨.inl (by subst h65; rfl), ?_⟩)
    k_clsL
    refine r_eqD (d := .str "BadSize") (e := .str "TooMany") (b := false) (.str _) (.str _) (by decide +kernel) (by decide +kernel) (by decide +kernel) ?_
    exact go _ _ Ex.rf fun h => absurd h65 (by omega)
  · by_cases hp : 4096 < s ^ n
    · refine c_told0 (.int _) (.int _) (.inr ⟨s, n, rfl, rfl, h2, by omega, hn, .inl ⟨hp, ?_⟩⟩)
      k_clsL
      refine r_eqD (d := .str "TooMany") (e := .str "TooMany") (b := true) (.str _) (.str _) (by decide +kernel) (by decide +kernel) (by decide +kernel) ?_
      exact go _ _ Ex.rf fun _ => (decide_eq_true hp).symm
    · refine c_told0 (.int _) (.int _) (.inr ⟨s, n, rfl, rfl, h2, by omega, hn, .inr ⟨by omega, fun H1 p M e1 _ _ _ hl => ?_⟩⟩)
      k_clsL
      refine r_eqD (d := .list (((nI ((List.range (M + 1)).map fun f => cntP s n f))).map PyData.int)) (e := .str "TooMany") (b := false) (.lst (SqL.of hl) (dp_ints _)) (.str _) (PySem.W.ke_shaped_ints _) (by decide +kernel) (by simp [PyData.eqv]) ?_
      exact go _ _ e1 fun _ => (decide_eq_false hp).symm
theorem law_c8 {K : PySem.W.Frag} {cs : Cs} {E : XK} {N B C : PS'} {R : PV} {H0 H : Hp} {y0 y1 y3 y4 y5 y6 y7 y8 y9 y10 y11 y12 y13 y14 y15 y16 y17 y18 y19 y20 y21 y22 : Option V} {m : Nat} (e0 : Ex H0 H)
    (hN : ∀ (H' : Hp) (z1 z3 z4 z5 z6 z7 z8 z9 z10 z11 z12 z13 z14 z15 z16 z17 z18 z19 z20 z21 z22 : Option V), Ex H0 H' → N [y0, z1, some (.int (m : Int)), z3, z4, z5, z6, z7, z8, z9, z10, z11, z12, z13, z14, z15, z16, z17, z18, z19, z20, z21, z22] H') : kS (t_law_c8 K cs E) N R B C [y0, y1, some (.int (m : Int)), y3, y4, y5, y6, y7, y8, y9, y10, y11, y12, y13, y14, y15, y16, y17, y18, y19, y20, y21, y22] H := by
  unfold t_law_c8
  k_clsL
  rename_i p1 hp1 p2 hp2 p3 hp3 p4 hp4 p5 hp5 p6 hp6 p7 hp7 pl hpl
  obtain ⟨v, hv, a, s, n, rfl, h2, h6, hn, hn4, ha⟩ := pick (z := (m : Int) / 1024) (m := 7) (xs := [.ref p1, .ref p2, .ref p3, .ref p4, .ref p5, .ref p6, .ref p7]) (P := fun v => ∃ (a : Addr) (s n : Nat), v = .ref a ∧ 2 ≤ s ∧ s ≤ 65 ∧ n + 1 ≤ s ∧ n ≤ 4 ∧ (upd (upd (upd (upd (upd (upd (upd (upd H p1 (.tup [.int 64, .int 3])) p2 (.tup [.int 5, .int 4])) p3 (.tup [.int 8, .int 4])) p4 (.tup [.int 9, .int 4])) p5 (.tup [.int 17, .int 3])) p6 (.tup [.int 16, .int 3])) p7 (.tup [.int (65 - (m : Int) / 512 % 40), .int 4])) pl (.lst [.ref p1, .ref p2, .ref p3, .ref p4, .ref p5, .ref p6, .ref p7])) a = some (.tup [.int (s : Int), .int (n : Int)])) rfl (by decide) (List.forall_mem_cons.mpr ⟨⟨p1, 64, 3, rfl, by decide, by decide, by decide, by decide, by show _ = some (HO.tup [.int 64, .int 3]); k_memK⟩, List.forall_mem_cons.mpr ⟨⟨p2, 5, 4, rfl, by decide, by decide, by decide, by decide, by show _ = some (HO.tup [.int 5, .int 4]); k_memK⟩, List.forall_mem_cons.mpr ⟨⟨p3, 8, 4, rfl, by decide, by decide, by decide, by decide, by show _ = some (HO.tup [.int 8, .int 4]); k_memK⟩, List.forall_mem_cons.mpr ⟨⟨p4, 9, 4, rfl, by decide, by decide, by decide, by decide, by show _ = some (HO.tup [.int 9, .int 4]); k_memK⟩, List.forall_mem_cons.mpr ⟨⟨p5, 17, 3, rfl, by decide, by decide, by decide, by decide, by show _ = some (HO.tup [.int 17, .int 3]); k_memK⟩, List.forall_mem_cons.mpr ⟨⟨p6, 16, 3, rfl, by decide, by decide, by decide, by decide, by show _ = some (HO.tup [.int 16, .int 3]); k_memK⟩, List.forall_mem_cons.mpr ⟨⟨p7, 65 - m / 512 % 40, 4, rfl, by omega, by omega, by omega, by decide, by rw [show ((65 - m / 512 % 40 : Nat) : Int) = 65 - (m : Int) / 512 % 40 by omega]; show _ = some (HO.tup [.int (65 - (m : Int) / 512 % 40), .int 4]); k_memK⟩, fun _ h => absurd h List.not_mem_nil⟩⟩⟩⟩⟩⟩⟩)
  refine r_ixL (by k_memK) hv ?_
  exact law_c9 (H0 := H0) (by k_offL) hN h2 h6 hn hn4 ha
theorem law_c7 {K : PySem.W.Frag} {cs : Cs} {E : XK} {N B C : PS'} {R : PV} {H0 H : Hp} {y0 y1 y3 y4 y5 y6 y7 y8 y9 y10 y11 y12 y13 y14 y15 y16 y17 y18 y19 y20 y21 y22 : Option V} {m : Nat} (e0 : Ex H0 H)
    (hN : ∀ (H' : Hp) (z1 z3 z4 z5 z6 z7 z8 z9 z10 z11 z12 z13 z14 z15 z16 z17 z18 z19 z20 z21 z22 : Option V), Ex H0 H' → N [y0, z1, some (.int (m : Int)), z3, z4, z5, z6, z7, z8, z9, z10, z11, z12, z13, z14, z15, z16, z17, z18, z19, z20, z21, z22] H') : kS (t_law_c7 K cs E) N R B C [y0, y1, some (.int (m : Int)), y3, y4, y5, y6, y7, y8, y9, y10, y11, y12, y13, y14, y15, y16, y17, y18, y19, y20, y21, y22] H := by
  unfold t_law_c7
  k_clsL
  refine c_told1 (.int _) (.int _) (.inr ⟨fun s hs _ => ?_, ?_⟩)
  · have : (5 : Int) = s := V.int.inj hs
    have e : ((s : Nat) : Int) - 1 = 4 := by omega
    rw [e]
    rfl
  k_clsL
  exact law_c8 (H0 := H0) e0 hN
def Bad3 (x y : V) : Prop := ((cnt x 2 64 = false) ∨ ∃ s : Nat, x = .int (s : Int) ∧ 2 ≤ s ∧ s ≤ 64 ∧ cnt y 0 ((s : Int) - 1) = false) ∧ (∀ s : Nat, x = .int s → cnt x 2 64 = true → cnt y 1 (s - 1) = false) ∧ (∀ s : Nat, x = .int s → cnt x 2 64 = true → cnt y 0 (s - 1) = false)
theorem bad_x {x y : V} (h : cnt x 2 64 = false) : Bad3 x y := ⟨.inl h, fun s _ h' => (by rw [h] at h'; cases h'), fun s _ h' => (by rw [h] at h'; cases h')⟩
theorem bad_y {s : Nat} {y : V} (h2 : 2 ≤ s) (h6 : s ≤ 64) (h0 : cnt y 0 ((s : Int) - 1) = false) (h1 : cnt y 1 ((s : Int) - 1) = false) : Bad3 (.int (s : Int)) y :=
  ⟨.inr ⟨s, rfl, h2, h6, h0⟩, fun t ht _ => (by have e : (s : Int) = t := V.int.inj ht; rw [← e]; exact h1), fun t ht _ => (by have e : (s : Int) = t := V.int.inj ht; rw [← e]; exact h0)⟩
theorem law_c6 {K : PySem.W.Frag} {cs : Cs} {E : XK} {N B C : PS'} {R : PV} {H0 H : Hp} {y0 y1 y3 y4 y5 y6 y7 y8 y9 y10 y11 y12 y13 y14 y15 y16 y17 y18 y19 y20 y21 y22 : Option V} {m : Nat} (e0 : Ex H0 H)
    (hN : ∀ (H' : Hp) (z1 z3 z4 z5 z6 z7 z8 z9 z10 z11 z12 z13 z14 z15 z16 z17 z18 z19 z20 z21 z22 : Option V), Ex H0 H' → N [y0, z1, some (.int (m : Int)), z3, z4, z5, z6, z7, z8, z9, z10, z11, z12, z13, z14, z15, z16, z17, z18, z19, z20, z21, z22] H') : kS (t_law_c6 K cs E) N R B C [y0, y1, some (.int (m : Int)), y3, y4, y5, y6, y7, y8, y9, y10, y11, y12, y13, y14, y15, y16, y17, y18, y19, y20, y21, y22] H := by
  unfold t_law_c6
  k_clsL
  rename_i p1 hp1 p2 hp2 p3 hp3 p4 hp4 p5 hp5 p6 hp6 p7 hp7 p8 hp8 pl hpl
  obtain ⟨v, hv, a, x, y, T, T', rfl, ha, hx, hy, b0, b1, b2⟩ := pick (z := (m : Int) / 64) (m := 8) (xs := [.ref p1, .ref p2, .ref p3, .ref p4, .ref p5, .ref p6, .ref p7, .ref p8]) (P := fun v => ∃ (a : Addr) (x y : V) (T T' : String), v = .ref a ∧ (upd (upd (upd (upd (upd (upd (upd (upd (upd H p1 (.tup [.int 1, .int 0])) p2 (.tup [.int 65, .int 1])) p3 (.tup [.int 5, .int 5])) p4 (.tup [.int 5, .int (-1)])) p5 (.tup [.int 5, .bl true])) p6 (.tup [.str "5", .int 1])) p7 (.tup [.int 5, .non])) p8 (.tup [.int 64, .int 64])) pl (.lst [.ref p1, .ref p2, .ref p3, .ref p4, .ref p5, .ref p6, .ref p7, .ref p8])) a = some (.tup [x, y]) ∧ Ty5 K H x T ∧ Ty5 K H y T' ∧ Bad3 x y) rfl (by decide) (List.forall_mem_cons.mpr ⟨⟨p1, .int 1, .int 0, _, _, rfl, by k_memK, .int _, .int _, bad_x rfl⟩, List.forall_mem_cons.mpr ⟨⟨p2, .int 65, .int 1, _, _, rfl, by k_memK, .int _, .int _, bad_x rfl⟩, List.forall_mem_cons.mpr ⟨⟨p3, .int 5, .int 5, _, _, rfl, by k_memK, .int _, .int _, bad_y (s := 5) (by decide) (by decide) rfl rfl⟩, List.forall_mem_cons.mpr ⟨⟨p4, .int 5, .int (-1), _, _, rfl, by k_memK, .int _, .int _, bad_y (s := 5) (by decide) (by decide) rfl rfl⟩, List.forall_mem_cons.mpr ⟨⟨p5, .int 5, .bl true, _, _, rfl, by k_memK, .int _, .bl _, bad_y (s := 5) (by decide) (by decide) rfl rfl⟩, List.forall_mem_cons.mpr ⟨⟨p6, .str "5", .int 1, _, _, rfl, by k_memK, .str _, .int _, bad_x rfl⟩, List.forall_mem_cons.mpr ⟨⟨p7, .int 5, .non, _, _, rfl, by k_memK, .int _, .non, bad_y (s := 5) (by decide) (by decide) rfl rfl⟩, List.forall_mem_cons.mpr ⟨⟨p8, .int 64, .int 64, _, _, rfl, by k_memK, .int _, .int _, bad_y (s := 64) (by decide) (by decide) rfl rfl⟩, fun _ h => absurd h List.not_mem_nil⟩⟩⟩⟩⟩⟩⟩⟩)
  refine r_ixL (by k_memK) hv ?_
  refine g_tup (SqT.of ha) rfl ?_
  k_clsL
  refine e_lcZ ?_
  k_clsL
  refine ⟨by decide, trivial, by decide, [.str "BadSize", .str "BadSize", .str "BadSize"], rfl, fun D acc i hD hi => ?_, fun D hD => ?_⟩
  · match i, hi with
    | 0, _ =>
      refine g_name ⟨rfl, t_yes ⟨rfl, ?_⟩⟩
      k_clsL
      exact c_told0 (hx.up (by k_offL)) (hy.up (by k_offL)) (.inl ⟨b0, rfl, by k_offL⟩)
    | 1, _ =>
      refine g_name ⟨rfl, t_yes ⟨rfl, ?_⟩⟩
      k_clsL
      exact c_told1 (hx.up (by k_offL)) (hy.up (by k_offL)) (.inr ⟨b1, rfl, by k_offL⟩)
    | 2, _ =>
      refine g_name ⟨rfl, t_yes ⟨rfl, ?_⟩⟩
      k_clsL
      exact c_told2 (hx.up (by k_offL)) (hy.up (by k_offL)) (.inr ⟨b2, rfl, by k_offL⟩)
  · k_clsL
    refine r_rep1 (n := 3) (by k_memK) (by decide) fun p9 hp9 => ?_
    refine r_neSs (zs := ["BadSize", "BadSize", "BadSize"]) (ws := ["BadSize", "BadSize", "BadSize"]) (SqL.of (Ex.newr (Ex.newr Ex.rf (by assumption)) hp9 _ _ upd_same)) (SqL.of upd_same) (by decide +kernel) (by decide +kernel) ?_
    k_clsL
    exact law_c7 (H0 := H0) (by k_offL) hN
theorem law_c5 {K : PySem.W.Frag} {cs : Cs} {E : XK} {N B C : PS'} {R : PV} {H0 H : Hp} {y0 y1 y3 y5 y8 y9 y10 y11 y12 y13 y15 y16 y17 y18 y19 y20 y21 y22 : Option V} {m : Nat} (e0 : Ex H0 H)
    (hN : ∀ (H' : Hp) (z1 z3 z4 z5 z6 z7 z8 z9 z10 z11 z12 z13 z14 z15 z16 z17 z18 z19 z20 z21 z22 : Option V), Ex H0 H' → N [y0, z1, some (.int (m : Int)), z3, z4, z5, z6, z7, z8, z9, z10, z11, z12, z13, z14, z15, z16, z17, z18, z19, z20, z21, z22] H') {q : Nat × Nat} {n M : Nat} {p : Addr} (hq : q ∈ pairs40) (hn : n ≤ q.2) (hM1 : 0 < cntL q.1 n M) (hM2 : ∀ j, 0 < cntL q.1 n j → j ≤ M) (hp : H p = some (.lst ((nI (cntl q.1 n M)).map V.int))) : kS (t_law_c5 K cs E) N R B C [y0, y1, some (.int (m : Int)), y3, some (.int ((q.1 : Nat) : Int)), y5, some (.int (n : Int)), some (.int ((q.1 ^ n : Nat) : Int)), y8, y9, y10, y11, y12, y13, some (.ref p), y15, y16, y17, y18, y19, y20, y21, y22] H := by
  unfold t_law_c5
  obtain ⟨h2, h32, h21, hpw⟩ := pairs40_ok q hq
  have hpw := hpw n (List.mem_range.mpr (by omega))
  have hM8 := cnt_lt8 hq hn hM1
  obtain ⟨_, _, _, f0, fS⟩ := k40_sums q hq n (List.mem_range.mpr (by omega))
  obtain ⟨_, fH⟩ := fS M (List.mem_range.mpr hM8) hM1 fun j _ hj => hM2 j hj
  have hcl : (cntl q.1 n M).length = M + 1 := by simp [cntl]
  have hpos : 0 < q.1 ^ n := Nat.pow_pos (by omega)
  k_clsL
  refine e_lcZ ?_
  k_clsL
  refine ⟨SqL.of hp, by simp [nI, hcl]; omega, (nI ((List.range (M + 1)).map fun f => f * cntL q.1 n f)).map V.int, by simp [nI, hcl], fun D acc i hD hi T x z hT hx hz => ?_, fun D hD => ?_⟩
  · have hi : i < M + 1 := by simpa [nI, hcl] using hi
    have hx : V.int (i : Nat) = x := Option.some.inj hx
    have hz : ((nI (cntl q.1 n M)).map V.int)[i]? = some z := hz
    unfold cntl at hz
    rw [nI_map, List.getElem?_map, List.getElem?_range hi] at hz
    have hz : V.int ((cntL q.1 n i : Nat) : Int) = z := Option.some.inj hz
    subst hx hz
    k_clsL
    refine ⟨rfl, t_yes ⟨rfl, ?_⟩⟩
    k_clsL
    have hm : IntMulOk ((i : Nat) : Int) ((cntL q.1 n i : Nat) : Int) := mulxL (by omega) (by omega)
    k_clsL
    refine ⟨?_, by k_offL⟩
    rw [nI_map, List.getElem?_map, List.getElem?_range hi]
    show some (V.int ((i * cntL q.1 n i : Nat) : Int)) = _
    congr 2
  · k_clsL
    refine c_sum (SqL.of upd_same) ?_
    rw [nI_sum]
    generalize hS : ((List.range (M + 1)).map fun f => f * cntL q.1 n f).sum = S at *
    have em : (if (n : Int) > 1 then (n : Int) else 1) = ((max 1 n : Nat) : Int) := by split <;> omega
    k_clsL
    rw [em]
    k_clsL
    refine c__law_fraction (m := S + q.1 ^ n * n) (n := q.1 ^ n * max 1 n) (by push_cast; rfl) (by push_cast; rfl) (Nat.mul_pos hpos (by omega)) ?_ fun p2 hp2 => ?_
    · have : q.1 ^ n * max 1 n ≤ 1300 * 64 := Nat.mul_le_mul hpw (by omega)
      refine Nat.lt_of_le_of_lt this ?_
      exact Nat.lt_of_lt_of_le (by decide : 1300 * 64 < 2 ^ 30) (Nat.pow_le_pow_right (by decide) (by decide))
    k_clsL
    refine dec2 (fun h => ?_) (fun h => ?_)
    · have h0 : 0 < n := by omega
      k_clsL
      refine c_told1 (.int _) (.int _) (.inl ⟨q.1, n, rfl, rfl, h2, by omega, h0, by omega, (f0 h0).1, (f0 h0).2, fun p3 hp3 => ?_⟩)
      k_clsL
      have e9 : max 1 n = n := by omega
      refine r_neP (SqT.of upd_same) (SqT.of (Ex.news hp3 _ _ upd_same)) ?_
      refine ⟨_, rfl, bF (by rw [e9, fH h0]; simp) ?_⟩
      k_clsL
      exact law_c6 (H0 := H0) (by k_offL) hN
    · k_clsL
      exact law_c6 (H0 := H0) (by k_offL) hN
theorem law_c4 {K : PySem.W.Frag} {cs : Cs} {E : XK} {N B C : PS'} {R : PV} {H0 H : Hp} {y0 y1 y3 y5 y8 y9 y11 y12 y13 y15 y16 y17 y18 y19 y20 y21 y22 : Option V} {m : Nat} (e0 : Ex H0 H)
    (hN : ∀ (H' : Hp) (z1 z3 z4 z5 z6 z7 z8 z9 z10 z11 z12 z13 z14 z15 z16 z17 z18 z19 z20 z21 z22 : Option V), Ex H0 H' → N [y0, z1, some (.int (m : Int)), z3, z4, z5, z6, z7, z8, z9, z10, z11, z12, z13, z14, z15, z16, z17, z18, z19, z20, z21, z22] H') {q : Nat × Nat} {n M : Nat} {p : Addr} (hq : q ∈ pairs40) (hn : n ≤ q.2) (hM1 : 0 < cntL q.1 n M) (hM2 : ∀ j, 0 < cntL q.1 n j → j ≤ M) (hp : H p = some (.lst ((nI (cntl q.1 n M)).map V.int))) : kS (t_law_c4 K cs E) N R B C [y0, y1, some (.int (m : Int)), y3, some (.int ((q.1 : Nat) : Int)), y5, some (.int (n : Int)), some (.int ((q.1 ^ n : Nat) : Int)), y8, y9, some (.int ((lookT q.1 n : Nat) : Int)), y11, y12, y13, some (.ref p), y15, y16, y17, y18, y19, y20, y21, y22] H := by
  unfold t_law_c4
  obtain ⟨h2, h32, h21, hpw⟩ := pairs40_ok q hq
  have hpw := hpw n (List.mem_range.mpr (by omega))
  obtain ⟨f1, f2, f3, _, _⟩ := k40_sums q hq n (List.mem_range.mpr (by omega))
  have hpos : 0 < q.1 ^ n := Nat.pow_pos (by omega)
  k_clsL
  refine c_told2 (.int _) (.int _) (.inl ⟨q.1, n, rfl, rfl, h2, by omega, by omega, f1, f2, fun p1 hp1 => ?_⟩)
  k_clsL
  refine c__law_fraction (m := lookT q.1 n) (n := q.1 ^ n * q.1) rfl (by push_cast; rfl) (Nat.mul_pos hpos (by omega)) ?_ fun p2 hp2 => ?_
  · have : q.1 ^ n * q.1 ≤ 1300 * 64 := Nat.mul_le_mul hpw (by omega)
    refine Nat.lt_of_le_of_lt this ?_
    exact Nat.lt_of_lt_of_le (by decide : 1300 * 64 < 2 ^ 30) (Nat.pow_le_pow_right (by decide) (by decide))
  k_clsL
  refine r_neP (SqT.of (Ex.news hp2 _ _ upd_same)) (SqT.of upd_same) ?_
  refine ⟨_, rfl, bF (by rw [f3]; simp) ?_⟩
  k_clsL
  exact law_c5 (H0 := H0) (by k_offL) hN hq hn hM1 hM2 (by k_memK)
theorem law_c3 {K : PySem.W.Frag} {cs : Cs} {E : XK} {N B C : PS'} {R : PV} {H0 H : Hp} {y0 y1 y3 y5 y8 y11 y12 y13 y14 y15 y16 y17 y18 y19 y20 y21 y22 : Option V} {m : Nat} (e0 : Ex H0 H)
    (hN : ∀ (H' : Hp) (z1 z3 z4 z5 z6 z7 z8 z9 z10 z11 z12 z13 z14 z15 z16 z17 z18 z19 z20 z21 z22 : Option V), Ex H0 H' → N [y0, z1, some (.int (m : Int)), z3, z4, z5, z6, z7, z8, z9, z10, z11, z12, z13, z14, z15, z16, z17, z18, z19, z20, z21, z22] H') {q : Nat × Nat} {n : Nat} {d : Addr} (hq : q ∈ pairs40) (hn : n ≤ q.2) (hd0 : H0 d = none) (hC : CntD H d (cntL q.1 n) (q.1 ^ n)) : kS (t_law_c3 K cs E) N R B C [y0, y1, some (.int (m : Int)), y3, some (.int ((q.1 : Nat) : Int)), y5, some (.int (n : Int)), some (.int ((q.1 ^ n : Nat) : Int)), y8, some (.ref d), some (.int ((lookT q.1 n : Nat) : Int)), y11, y12, y13, y14, y15, y16, y17, y18, y19, y20, y21, y22] H := by
  unfold t_law_c3
  obtain ⟨h2, h32, h21, hpw⟩ := pairs40_ok q hq
  have hpw := hpw n (List.mem_range.mpr (by omega))
  k_clsL
  refine c_told0 (.int _) (.int _) (.inr ⟨q.1, n, rfl, rfl, h2, by omega, by omega, .inr ⟨by omega, fun H1 p M e1 _ hM1 hM2 hl => ?_⟩⟩)
  have hM1 : 0 < cntL q.1 n M := by rw [← cnt_eq hq hn]; exact hM1
  have hM2 : ∀ j, 0 < cntL q.1 n j → j ≤ M := fun j hj => hM2 j (by rw [cnt_eq hq hn]; exact hj)
  have hl : H1 p = some (.lst ((nI (cntl q.1 n M)).map V.int)) := by
    have ec : ((List.range (M + 1)).map fun f => cntP q.1 n f) = cntl q.1 n M := List.map_congr_left fun f _ => cnt_eq hq hn f
    rw [hl, ec]
  have hM8 := cnt_lt8 hq hn hM1
  obtain ⟨_, _, _, _, fS⟩ := k40_sums q hq n (List.mem_range.mpr (by omega))
  obtain ⟨fS, _⟩ := fS M (List.mem_range.mpr hM8) hM1 fun j _ hj => hM2 j hj
  have hC1 := hC.up e1
  k_clsL
  refine e_lcZ ?_
  k_clsL
  refine c_maxD (j0 := M) hC1 hM1 fun M' h3 h4 => ?_
  have eM : M' = M := Nat.le_antisymm (hM2 M' h3) (h4 M hM1)
  subst eM
  k_clsL
  refine ⟨(by show M' + 1 < 2 ^ 61; omega), trivial, (by show M' + 1 ≤ 100000; omega), (nI (cntl q.1 n M')).map V.int, by simp [nI, cntl], fun D acc i hD hi => ?_, fun D hD => ?_⟩
  · have hi : i < M' + 1 := hi
    refine g_name ⟨rfl, t_yes ⟨rfl, ?_⟩⟩
    have hC3 := hC1.up (Ex.news (o := .lst acc) hD)
    refine e_getC ?_
    k_clsL
    refine ⟨⟨_, _, hC3⟩, ?_⟩
    k_clsL
    refine ⟨_, _, i, hC3, rfl, ?_, by k_offL⟩
    unfold cntl
    rw [nI_map, List.getElem?_map, List.getElem?_range hi]
    rfl
  · k_clsL
    refine r_neIs (ns := nI (cntl q.1 n M')) (ms := nI (cntl q.1 n M')) (SqL.of (Ex.news hD _ _ hl)) (SqL.of upd_same) ?_
    refine ⟨_, rfl, bF (by simp) ?_⟩
    k_clsL
    refine c_sum (SqL.of (Ex.news hD _ _ hl)) ?_
    rw [nI_sum, fS]
    k_clsL
    refine bF (by simp) ?_
    k_clsL
    exact law_c4 (H0 := H0) ((e0.tr e1).tr (Ex.news hD)) hN hq hn hM1 hM2 (Ex.news hD _ _ hl)
theorem law_c2 {K : PySem.W.Frag} {cs : Cs} {E : XK} {N B C : PS'} {R : PV} {H0 H : Hp} {y0 y1 y3 y5 y8 y9 y10 y11 y12 y13 y14 y15 y16 y17 y18 y19 y20 y21 y22 : Option V} {m : Nat} (e0 : Ex H0 H)
    (hN : ∀ (H' : Hp) (z1 z3 z4 z5 z6 z7 z8 z9 z10 z11 z12 z13 z14 z15 z16 z17 z18 z19 z20 z21 z22 : Option V), Ex H0 H' → N [y0, z1, some (.int (m : Int)), z3, z4, z5, z6, z7, z8, z9, z10, z11, z12, z13, z14, z15, z16, z17, z18, z19, z20, z21, z22] H') {q : Nat × Nat} {n : Nat} (hq : q ∈ pairs40) (hn : n ≤ q.2) : kS (t_law_c2 K cs E) N R B C [y0, y1, some (.int (m : Int)), y3, some (.int ((q.1 : Nat) : Int)), y5, some (.int (n : Int)), some (.int ((q.1 ^ n : Nat) : Int)), y8, y9, y10, y11, y12, y13, y14, y15, y16, y17, y18, y19, y20, y21, y22] H := by
  unfold t_law_c2
  obtain ⟨h2, h32, h21, hpw⟩ := pairs40_ok q hq
  have hpw := hpw n (List.mem_range.mpr (by omega))
  k_clsL
  rename_i d hd
  refine s_for ?_
  k_clsL
  refine ⟨by omega, fun i σ H1 => Ex H H1 ∧ ∃ z11 z12 z13, σ = [y0, y1, some (.int (m : Int)), y3, some (.int ((q.1 : Nat) : Int)), y5, some (.int (n : Int)), some (.int ((q.1 ^ n : Nat) : Int)), y8, some (.ref d), some (.int ((sumRg (lookN q.1 n) i : Nat) : Int)), z11, z12, z13, y14, y15, y16, y17, y18, y19, y20, y21, y22] ∧ CntD H1 d (fun f => cntRg (fun k => farN q.1 n k == f) i) i, ⟨by k_offL, y11, y12, y13, rfl, cntD_new⟩, fun _ _ _ _ _ => trivial, ?_, ?_⟩
  · rintro i σ H1 hi ⟨e1, z11, z12, z13, rfl, hC⟩
    refine g_name ?_
    k_clsL
    refine c__law_gone rfl rfl rfl (by omega) (by omega) fun H2 p e2 hp => ?_
    have hC2 := hC.up e2
    refine g_tup (SqT.of hp) rfl ?_
    k_clsL
    refine e_getC ?_
    k_clsL
    refine ⟨⟨_, _, hC2⟩, ?_⟩
    k_clsL
    refine ⟨_, _, _, hC2, rfl, ?_⟩
    k_clsL
    refine g_setC ?_
    k_clsL
    refine ⟨d, _, i, farN q.1 n i, cntRg (fun k => farN q.1 n k == farN q.1 n i) i + 1, rfl, rfl, hC2, by omega, rfl, by omega, fun kvs hC3 => ?_⟩
    k_clsL
    refine ⟨_, ⟨(e1.tr e2).mutr hd, some (.int (i : Nat)), some (.int ((farN q.1 n i : Nat) : Int)), some (.int ((lookN q.1 n i : Nat) : Int)), ?_, ?_⟩, Ex.rf⟩
    · have e3 : ((sumRg (lookN q.1 n) i : Nat) : Int) + ((lookN q.1 n i : Nat) : Int) = ((sumRg (lookN q.1 n) (i + 1) : Nat) : Int) := by rw [sumRg]; push_cast; rfl
      rw [e3]
      rfl
    · have ef : (fun k => if k = farN q.1 n i then cntRg (fun k => farN q.1 n k == farN q.1 n i) i + 1 else cntRg (fun k' => farN q.1 n k' == k) i) = fun f => cntRg (fun k => farN q.1 n k == f) (i + 1) := by
        funext f
        rw [cntRg]
        by_cases z : f = farN q.1 n i
        · subst z
          simp
        · rw [if_neg z]
          simp [Ne.symm z]
      rw [ef] at hC3
      exact hC3
  · rintro σ H1 ⟨e1, z11, z12, z13, rfl, hC⟩
    refine law_c3 (H0 := H0) (e0.tr e1) hN hq hn (e0.fresh hd) hC
theorem law_c1 {K : PySem.W.Frag} {cs : Cs} {E : XK} {N B C : PS'} {R : PV} {H0 H : Hp} {y0 y1 y3 y5 y7 y8 y9 y10 y11 y12 y13 y14 y15 y16 y17 y18 y19 y20 y21 y22 : Option V} {m : Nat} (e0 : Ex H0 H)
    (hN : ∀ (H' : Hp) (z1 z3 z4 z5 z6 z7 z8 z9 z10 z11 z12 z13 z14 z15 z16 z17 z18 z19 z20 z21 z22 : Option V), Ex H0 H' → N [y0, z1, some (.int (m : Int)), z3, z4, z5, z6, z7, z8, z9, z10, z11, z12, z13, z14, z15, z16, z17, z18, z19, z20, z21, z22] H') {q : Nat × Nat} {n : Nat} (hq : q ∈ pairs40) (hn : n ≤ q.2) : kS (t_law_c1 K cs E) N R B C [y0, y1, some (.int (m : Int)), y3, some (.int ((q.1 : Nat) : Int)), y5, some (.int (n : Int)), y7, y8, y9, y10, y11, y12, y13, y14, y15, y16, y17, y18, y19, y20, y21, y22] H := by
  unfold t_law_c1
  obtain ⟨h2, h32, h21, hpw⟩ := pairs40_ok q hq
  k_clsL
  refine s_for ?_
  k_clsL
  refine ⟨by omega, fun i σ H1 => H1 = H ∧ ∃ z8, σ = [y0, y1, some (.int (m : Int)), y3, some (.int ((q.1 : Nat) : Int)), y5, some (.int (n : Int)), some (.int ((q.1 ^ i : Nat) : Int)), z8, y9, y10, y11, y12, y13, y14, y15, y16, y17, y18, y19, y20, y21, y22], ⟨rfl, y8, rfl⟩, fun _ _ _ _ _ => trivial, ?_, ?_⟩
  · rintro i σ H1 hi ⟨rfl, z8, rfl⟩
    refine g_name ?_
    k_clsL
    refine ⟨_, ⟨rfl, some (.int (i : Nat)), ?_⟩, Ex.rf⟩
    have e3 : ((q.1 ^ i : Nat) : Int) * ((q.1 : Nat) : Int) = ((q.1 ^ (i + 1) : Nat) : Int) := by
      rw [Nat.pow_succ]
      push_cast
      rfl
    rw [e3]
    rfl
  · rintro σ H1 ⟨rfl, z8, rfl⟩
    exact law_c2 (H0 := H0) e0 hN hq hn
theorem pure_law {K : PySem.W.Frag} {cs : Cs} {H : Hp} {vs : List V} {Q : VK} {E : XK} (h : sp_law K cs vs H Q E) : t_law K cs E { nx := fun _ H' => Q .non H', rt := Q } (start ["_law_script", "_law_k", "_law_more", "_law_some", "_law_size", "_law_most", "_law_many", "_law_whole", "_law_turn", "_law_counts", "_law_looks", "_law_number", "_law_far", "_law_more_looks", "_law_found", "_law_due", "_law_together", "_law_one", "_law_other", "_law_great", "_law_is_many", "_law_count", "_law_way"] vs) H := by
  obtain ⟨a, ns, rfl, hS, hl, q⟩ := h
  refine fin (σ := [some (.ref a), none, none, none, none, none, none, none, none, none, none, none, none, none, none, none, none, none, none, none, none, none, none]) ?_
  unfold t_law
  obtain ⟨n, hn, hn63⟩ : ∃ n : Nat, (if (if (((ns.map V.int).length : Nat) : Int) < 2 then (((ns.map V.int).length : Nat) : Int) else 2) > 1 then (if (((ns.map V.int).length : Nat) : Int) < 2 then (((ns.map V.int).length : Nat) : Int) else 2) else 1) = (n : Int) ∧ n ≤ 63 :=
    nat_of (by split <;> split <;> omega) (by split <;> split <;> omega)
  k_clsL
  refine s_for1 n (fun i σ H1 => H1 = H ∧ ∃ y1 y2 y3 y4 y5 y6 y7 y8 y9 y10 y11 y12 y13 y14 y15 y16 y17 y18 y19 y20 y21 y22, σ = [some (.ref a), y1, y2, y3, y4, y5, y6, y7, y8, y9, y10, y11, y12, y13, y14, y15, y16, y17, y18, y19, y20, y21, y22]) ?_
  k_clsL
  refine ⟨by rw [hn], by omega, ⟨rfl, none, none, none, none, none, none, none, none, none, none, none, none, none, none, none, none, none, none, none, none, none, none, rfl⟩, ?_, ?_⟩
  · rintro i σ H1 hi ⟨rfl, y1, y2, y3, y4, y5, y6, y7, y8, y9, y10, y11, y12, y13, y14, y15, y16, y17, y18, y19, y20, y21, y22, rfl⟩
    k_clsL
    rename_i m hm p1 hp1 p2 hp2 p3 hp3 p4 hp4 p5 hp5 p6 hp6 p7 hp7 p8 hp8 pl hpl
    obtain ⟨v, hv, b, pr, rfl, hpr, hb⟩ := pick (z := (m : Int)) (m := 8) (xs := [.ref p1, .ref p2, .ref p3, .ref p4, .ref p5, .ref p6, .ref p7, .ref p8])
      (P := fun v => ∃ (b : Addr) (pr : Nat × Nat), v = .ref b ∧ pr ∈ pairs40 ∧ (upd (upd (upd (upd (upd (upd (upd (upd (upd H1 p1 (.tup [.int 2, .int 1])) p2 (.tup [.int 3, .int 2])) p3 (.tup [.int 4, .int 3])) p4 (.tup [.int 5, .int 4])) p5 (.tup [.int 6, .int 4])) p6 (.tup [.int 7, .int 3])) p7 (.tup [.int 32, .int 2])) p8 (.tup [.int 9, .int 3])) pl (.lst [.ref p1, .ref p2, .ref p3, .ref p4, .ref p5, .ref p6, .ref p7, .ref p8])) b = some (.tup [.int ((pr.1 : Nat) : Int), .int ((pr.2 : Nat) : Int)])) rfl (by decide) (List.forall_mem_cons.mpr ⟨⟨p1, (2, 1), rfl, by decide, by show _ = some (HO.tup [.int 2, .int 1]); k_memK⟩, List.forall_mem_cons.mpr ⟨⟨p2, (3, 2), rfl, by decide, by show _ = some (HO.tup [.int 3, .int 2]); k_memK⟩, List.forall_mem_cons.mpr ⟨⟨p3, (4, 3), rfl, by decide, by show _ = some (HO.tup [.int 4, .int 3]); k_memK⟩, List.forall_mem_cons.mpr ⟨⟨p4, (5, 4), rfl, by decide, by show _ = some (HO.tup [.int 5, .int 4]); k_memK⟩, List.forall_mem_cons.mpr ⟨⟨p5, (6, 4), rfl, by decide, by show _ = some (HO.tup [.int 6, .int 4]); k_memK⟩, List.forall_mem_cons.mpr ⟨⟨p6, (7, 3), rfl, by decide, by show _ = some (HO.tup [.int 7, .int 3]); k_memK⟩, List.forall_mem_cons.mpr ⟨⟨p7, (32, 2), rfl, by decide, by show _ = some (HO.tup [.int 32, .int 2]); k_memK⟩, List.forall_mem_cons.mpr ⟨⟨p8, (9, 3), rfl, by decide, by show _ = some (HO.tup [.int 9, .int 3]); k_memK⟩, fun _ h => absurd h List.not_mem_nil⟩⟩⟩⟩⟩⟩⟩⟩)
    refine r_ixL (by k_memK) hv ?_
    refine g_tup (SqT.of hb) rfl ?_
    k_clsL
    have em : (m : Int) / 8 % (((pr.2 : Nat) : Int) + 1) = ((m / 8 % (pr.2 + 1) : Nat) : Int) := rfl
    rw [em]
    have hlt : m / 8 % (pr.2 + 1) < pr.2 + 1 := Nat.mod_lt _ (by omega)
    generalize m / 8 % (pr.2 + 1) = k at *
    exact law_c1 (H0 := H1) (by k_offL) (fun H' z1 z3 z4 z5 z6 z7 z8 z9 z10 z11 z12 z13 z14 z15 z16 z17 z18 z19 z20 z21 z22 e => ⟨H1, ⟨rfl, _, _, _, _, _, _, _, _, _, _, _, _, _, _, _, _, _, _, _, _, _, _, rfl⟩, e⟩) hpr (by omega)
  · rintro σ H1 ⟨rfl, _⟩
    k_clsL
    exact fun H2 _ => q H2
theorem ok_law {P : Program} {w : World} {K : PySem.W.Frag} {mg : Str → Option Value} {base : Heap} {cs : Cs} {f : Addr} {fd : FuncData} (F : Fun K "law" "law" s_law f fd) (cal__law_cell : Cal P w K mg base (L2N.CX P w) 1 "_law_cell" ["_law_script", "_law_k"] (sp__law_cell K cs)) (cal__law_drawn : Cal P w K mg base (L2N.CX P w) 1 "_law_drawn" ["_law_cell_here", "_law_k"] (sp__law_drawn K cs)) (cal__law_gone : Cal P w K mg base (L2N.CX P w) 1 "_law_gone" ["_law_size", "_law_number", "_law_many"] (sp__law_gone K cs)) (cal__law_told : Cal P w K mg base (L2N.CX P w) 5 "_law_told" ["_law_way", "_law_size", "_law_many"] (sp__law_told K cs)) (cal__law_fraction : Cal P w K mg base (L2N.CX P w) 1 "_law_fraction" ["_law_top", "_law_under"] (sp__law_fraction K cs)) (m_range : mg "range" = none) (m_len : mg "len" = none) (m_min : mg "min" = none) (m_max : mg "max" = none) (m_sum : mg "sum" = none) (m_enumerate : mg "enumerate" = none) :
    FnOk P w K mg base (L2N.CX P w) 6 f fd ["_law_script"] (spLaw K) := by
  refine fn_mk F sc_law (fun vs H Q E h => ?_) fun cdv A outer s H vs Q E hr h => ⟨t_law K cs E, ?_, pure_law (cs := cs) h⟩
  · unfold spLaw at h
    first | (obtain ⟨rfl, _⟩ := h; rfl) | (obtain ⟨_, rfl, _⟩ := h; rfl) | (obtain ⟨_, _, rfl, _⟩ := h; rfl) | (obtain ⟨_, _, _, rfl, _⟩ := h; rfl) | (obtain ⟨_, _, _, _, rfl, _⟩ := h; rfl) | (obtain ⟨_, _, _, _, _, rfl, _⟩ := h; rfl) | (obtain ⟨_, _, _, _, _, _, rfl, _⟩ := h; rfl) | (obtain ⟨_, _, _, _, _, _, _, rfl, _⟩ := h; rfl) | (obtain ⟨_, _, _, _, _, _, _, _, rfl, _⟩ := h; rfl) | (obtain ⟨_, _, _, _, _, _, _, _, _, rfl, _⟩ := h; rfl) | (obtain ⟨_, _, _, _, _, _, _, _, _, _, rfl, _⟩ := h; rfl) | (obtain ⟨_, _, _, _, _, _, _, _, _, _, _, rfl, _⟩ := h; rfl) | (obtain ⟨_, _, _, _, _, _, _, _, _, _, _, _, rfl, _⟩ := h; rfl) | (obtain ⟨_, _, _, _, _, _, _, _, _, _, _, _, _, rfl, _⟩ := h; rfl) | (obtain ⟨_, _, _, _, _, _, _, _, _, _, _, _, _, _, rfl, _⟩ := h; rfl) | (obtain ⟨_, _, _, _, _, _, _, _, _, _, _, _, _, _, _, rfl, _⟩ := h; rfl)
  · exact (pss_cons (ps_for (passes_of rfl) rfl (pi_range1 (by rfl) m_range (pa_cons (pe_callB (call_max2 rfl) (by rfl) m_max (by decide +kernel) (pa_cons pe_int (pa_cons (pe_callB (call_min2 rfl) (by rfl) m_min (by decide +kernel) (pa_cons pe_int (pa_cons (pe_callB call_len_seq (by rfl) m_len (by decide +kernel) (pa_cons (pv 0) pa_nil)) pa_nil))) pa_nil))) pa_nil)) (pg_name (i := 1) sc_law.nd rfl (Or.inl sc_law_v1))
      (pss_cons (ps_set (i := 2) sc_law.nd rfl (Or.inl sc_law_v2) (pe_cal cal__law_drawn hr (by decide) (by rfl) passN (pa_cons (pe_cal cal__law_cell hr (by decide) (by rfl) passN (pa_cons (pv 0) (pa_cons (pv 1) pa_nil))) (pa_cons (pv 1) pa_nil))))
      (pss_cons (ps_set (i := 3) sc_law.nd rfl (Or.inl sc_law_v3) (pe_lst (pa_cons (pe_tup (pa_cons pe_int (pa_cons pe_int pa_nil))) (pa_cons (pe_tup (pa_cons pe_int (pa_cons pe_int pa_nil))) (pa_cons (pe_tup (pa_cons pe_int (pa_cons pe_int pa_nil))) (pa_cons (pe_tup (pa_cons pe_int (pa_cons pe_int pa_nil))) (pa_cons (pe_tup (pa_cons pe_int (pa_cons pe_int pa_nil))) (pa_cons (pe_tup (pa_cons pe_int (pa_cons pe_int pa_nil))) (pa_cons (pe_tup (pa_cons pe_int (pa_cons pe_int pa_nil))) (pa_cons (pe_tup (pa_cons pe_int (pa_cons pe_int pa_nil))) pa_nil))))))))))
      (pss_cons (ps_asg (pe_ix ix_list (pv 3) (pe_op op_mod (pv 2) pe_int) (fun _ _ => rfl)) (pg_tup rfl (pgs_cons (pg_name (i := 4) sc_law.nd rfl (Or.inl sc_law_v4)) (pgs_cons (pg_name (i := 5) sc_law.nd rfl (Or.inl sc_law_v5)) pgs_nil))))
      (pss_cons (ps_set (i := 6) sc_law.nd rfl (Or.inl sc_law_v6) (pe_op op_mod (pe_op op_fdivW (pv 2) pe_int) (pe_op op_add (pv 5) pe_int)))
      (pss_cons (ps_set (i := 7) sc_law.nd rfl (Or.inl sc_law_v7) pe_int)
      (pss_cons (ps_for (passes_of rfl) rfl (pi_range1 (by rfl) m_range (pa_cons (pv 6) pa_nil)) (pg_name (i := 8) sc_law.nd rfl (Or.inl sc_law_v8))
      (pss_one (ps_set (i := 7) sc_law.nd rfl (Or.inl sc_law_v7) (pe_op op_mulX (pv 7) (pv 4)))))
      (pss_cons (ps_set (i := 9) sc_law.nd rfl (Or.inr sc_law_v9) pe_dnewK)
      (pss_cons (ps_set (i := 10) sc_law.nd rfl (Or.inl sc_law_v10) pe_int)
      (pss_cons (ps_for (passes_of rfl) rfl (pi_range1 (by rfl) m_range (pa_cons (pv 7) pa_nil)) (pg_name (i := 11) sc_law.nd rfl (Or.inl sc_law_v11))
      (pss_cons (ps_asg (pe_cal cal__law_gone hr (by decide) (by rfl) passN (pa_cons (pv 4) (pa_cons (pv 11) (pa_cons (pv 6) pa_nil)))) (pg_tup rfl (pgs_cons (pg_name (i := 12) sc_law.nd rfl (Or.inl sc_law_v12)) (pgs_cons (pg_name (i := 13) sc_law.nd rfl (Or.inl sc_law_v13)) pgs_nil))))
      (pss_cons (ps_asg (pe_op op_add (pe_dget2 (units_of hr) (pv 9) (pv 12) pe_int ⟨rfl, rfl, rfl, rfl⟩) pe_int) (pg_sub (pv 9) (pv 12) (set_dict (units_of hr))))
      (pss_one (ps_set (i := 10) sc_law.nd rfl (Or.inl sc_law_v10) (pe_op op_add (pv 10) (pv 13)))))))
      (pss_cons (ps_set (i := 14) sc_law.nd rfl (Or.inl sc_law_v14) (pe_cal cal__law_told hr (by decide) (by rfl) passN (pa_cons pe_int (pa_cons (pv 4) (pa_cons (pv 6) pa_nil)))))
      (pss_cons (ps_setLc (i := 15) (own := [("_law_far", 12)]) (g := (gName 12)) (tt := tYes) (by rfl) sc_law.nd rfl rfl (sw_true rfl rfl rfl (by decide +kernel)) (pi_range1 (by rfl) m_range (pa_cons (pe_op op_add (pe_callB (cr_maxK rfl) (by rfl) m_max (by decide +kernel) (pa_cons (pv 9) pa_nil)) pe_int) pa_nil)) (blkOk_by (own := [("_law_far", 12)]) (N := ["_law_script", "_law_k", "_law_more", "_law_some", "_law_size", "_law_most", "_law_many", "_law_whole", "_law_turn", "_law_counts", "_law_looks", "_law_number", "_law_far", "_law_more_looks", "_law_found", "_law_due", "_law_together", "_law_one", "_law_other", "_law_great", "_law_is_many", "_law_count", "_law_way"]) (sc := defScope s_law) (by decide +kernel)) (fun _ _ _ _ _ => (pg_name (i := 12) sc_law.nd rfl (Or.inl rfl))) (fun _ _ _ _ _ => pts_nil) (fun _ _ _ _ _ => (pe_dget2 (units_of hr) (pv 9) (pv 12) pe_int ⟨rfl, rfl, rfl, rfl⟩)))
      (pss_cons (ps_if (PW.pt (pw_or (pt_cmpR (op_neD hr.units) (pv 14) (pv 15) (nomark _)) (pw_or1 (pt_cmpR op_ne (pe_callB (cr_sum rfl) (by rfl) m_sum (by decide +kernel) (pa_cons (pv 14) pa_nil)) (pv 7) (nomark _)))))
      (pss_one (ps_ret pe_bl))
      pss_nil)
      (pss_cons (ps_if (pt_cmpR (op_neD hr.units) (pe_cal cal__law_told hr (by decide) (by rfl) passN (pa_cons pe_int (pa_cons (pv 4) (pa_cons (pv 6) pa_nil)))) (pe_cal cal__law_fraction hr (by decide) (by rfl) passN (pa_cons (pv 10) (pa_cons (pe_op op_mulX (pv 7) (pv 4)) pa_nil))) (nomark _))
      (pss_one (ps_ret pe_bl))
      pss_nil)
      (pss_cons (ps_set (i := 16) sc_law.nd rfl (Or.inl sc_law_v16) (pe_callB (cr_sum rfl) (by rfl) m_sum (by decide +kernel) (pa_cons (pe_lc (own := [("_law_far", 12), ("_law_count", 21)]) (g := (gTup K 2 (gCons (gName 12) (gCons (gName 21) gNil)))) (tt := tYes) (by rfl) sc_law.nd (pi_enum (by rfl) m_enumerate (pa_cons (pv 14) pa_nil)) (blkOk_by (own := [("_law_far", 12), ("_law_count", 21)]) (N := ["_law_script", "_law_k", "_law_more", "_law_some", "_law_size", "_law_most", "_law_many", "_law_whole", "_law_turn", "_law_counts", "_law_looks", "_law_number", "_law_far", "_law_more_looks", "_law_found", "_law_due", "_law_together", "_law_one", "_law_other", "_law_great", "_law_is_many", "_law_count", "_law_way"]) (sc := defScope s_law) (by decide +kernel)) (fun _ _ _ _ _ => (pg_tup rfl (pgs_cons (pg_name (i := 12) sc_law.nd rfl (Or.inl rfl)) (pgs_cons (pg_name (i := 21) sc_law.nd rfl (Or.inl rfl)) pgs_nil)))) (fun _ _ _ _ _ => pts_nil) (fun _ _ _ _ _ => (pe_op op_mulX (pv 12) (pv 21)))) pa_nil)))
      (pss_cons (ps_set (i := 15) sc_law.nd rfl (Or.inl sc_law_v15) (pe_cal cal__law_fraction hr (by decide) (by rfl) passN (pa_cons (pe_op op_add (pv 16) (pe_op op_mulX (pv 7) (pv 6))) (pa_cons (pe_op op_mulX (pv 7) (pe_callB (call_max2 rfl) (by rfl) m_max (by decide +kernel) (pa_cons pe_int (pa_cons (pv 6) pa_nil)))) pa_nil))))
      (pss_cons (ps_if (PW.pt (pw_and (pt_cmpR op_gt (pv 6) pe_int (nomark _)) (pw_and1 (pt_cmpR (op_neD hr.units) (pe_cal cal__law_told hr (by decide) (by rfl) passN (pa_cons pe_int (pa_cons (pv 4) (pa_cons (pv 6) pa_nil)))) (pv 15) (nomark _)))))
      (pss_one (ps_ret pe_bl))
      pss_nil)
      (pss_cons (ps_set (i := 3) sc_law.nd rfl (Or.inl sc_law_v3) (pe_lst (pa_cons (pe_tup (pa_cons pe_int (pa_cons pe_int pa_nil))) (pa_cons (pe_tup (pa_cons pe_int (pa_cons pe_int pa_nil))) (pa_cons (pe_tup (pa_cons pe_int (pa_cons pe_int pa_nil))) (pa_cons (pe_tup (pa_cons pe_int (pa_cons (pe_un un_neg pe_int) pa_nil))) (pa_cons (pe_tup (pa_cons pe_int (pa_cons pe_bl pa_nil))) (pa_cons (pe_tup (pa_cons pe_str (pa_cons pe_int pa_nil))) (pa_cons (pe_tup (pa_cons pe_int (pa_cons pe_non pa_nil))) (pa_cons (pe_tup (pa_cons pe_int (pa_cons pe_int pa_nil))) pa_nil))))))))))
      (pss_cons (ps_asg (pe_ix ix_list (pv 3) (pe_op op_mod (pe_op op_fdivW (pv 2) pe_int) pe_int) (fun _ _ => rfl)) (pg_tup rfl (pgs_cons (pg_name (i := 17) sc_law.nd rfl (Or.inr sc_law_v17)) (pgs_cons (pg_name (i := 18) sc_law.nd rfl (Or.inr sc_law_v18)) pgs_nil))))
      (pss_cons (ps_if (pt_cmpR (op_neD hr.units) (pe_lc (own := [("_law_way", 22)]) (g := (gName 22)) (tt := tYes) (by rfl) sc_law.nd (pi_range1 (by rfl) m_range (pa_cons pe_int pa_nil)) (blkOk_by (own := [("_law_way", 22)]) (N := ["_law_script", "_law_k", "_law_more", "_law_some", "_law_size", "_law_most", "_law_many", "_law_whole", "_law_turn", "_law_counts", "_law_looks", "_law_number", "_law_far", "_law_more_looks", "_law_found", "_law_due", "_law_together", "_law_one", "_law_other", "_law_great", "_law_is_many", "_law_count", "_law_way"]) (sc := defScope s_law) (by decide +kernel)) (fun _ _ _ _ _ => (pg_name (i := 22) sc_law.nd rfl (Or.inl rfl))) (fun _ _ _ _ _ => pts_nil) (fun _ _ _ _ _ => (pe_cal cal__law_told hr (by decide) (by rfl) passN (pa_cons (pv 22) (pa_cons (pv 17) (pa_cons (pv 18) pa_nil)))))) (pe_op op_rep (pe_lst (pa_cons pe_str pa_nil)) pe_int) (nomark _))
      (pss_one (ps_ret pe_bl))
      pss_nil)
      (pss_cons (ps_if (pt_cmpR op_ne (pe_cal cal__law_told hr (by decide) (by rfl) passN (pa_cons pe_int (pa_cons pe_int (pa_cons pe_int pa_nil)))) pe_str (nomark _))
      (pss_one (ps_ret pe_bl))
      pss_nil)
      (pss_cons (ps_set (i := 19) sc_law.nd rfl (Or.inl sc_law_v19) (pe_ix ix_list (pe_lst (pa_cons (pe_tup (pa_cons pe_int (pa_cons pe_int pa_nil))) (pa_cons (pe_tup (pa_cons pe_int (pa_cons pe_int pa_nil))) (pa_cons (pe_tup (pa_cons pe_int (pa_cons pe_int pa_nil))) (pa_cons (pe_tup (pa_cons pe_int (pa_cons pe_int pa_nil))) (pa_cons (pe_tup (pa_cons pe_int (pa_cons pe_int pa_nil))) (pa_cons (pe_tup (pa_cons pe_int (pa_cons pe_int pa_nil))) (pa_cons (pe_tup (pa_cons (pe_op op_sub pe_int (pe_op op_mod (pe_op op_fdivW (pv 2) pe_int) pe_int)) (pa_cons pe_int pa_nil))) pa_nil)))))))) (pe_op op_mod (pe_op op_fdivW (pv 2) pe_int) pe_int) (fun _ _ => rfl)))
      (pss_cons (ps_set (i := 20) sc_law.nd rfl (Or.inl sc_law_v20) (pe_cmpR (op_eqD hr.units) (pe_cal cal__law_told hr (by decide) (by rfl) passN (pa_cons pe_int (pa_cons (pe_ix ix_tup (pv 19) pe_int (fun _ _ => rfl)) (pa_cons (pe_ix ix_tup (pv 19) pe_int (fun _ _ => rfl)) pa_nil)))) pe_str (nomark _)))
      (pss_cons (ps_set (i := 7) sc_law.nd rfl (Or.inl sc_law_v7) pe_int)
      (pss_cons (ps_for (passes_of rfl) rfl (pi_range1 (by rfl) m_range (pa_cons (pe_ix ix_tup (pv 19) pe_int (fun _ _ => rfl)) pa_nil)) (pg_name (i := 8) sc_law.nd rfl (Or.inl sc_law_v8))
      (pss_one (ps_set (i := 7) sc_law.nd rfl (Or.inl sc_law_v7) (pe_op op_mulX (pv 7) (pe_ix ix_tup (pv 19) pe_int (fun _ _ => rfl))))))
      (pss_one (ps_if (PW.pt (pw_and (pt_cmpR op_lt (pe_ix ix_tup (pv 19) pe_int (fun _ _ => rfl)) pe_int (nomark _)) (pw_and1 (pt_cmpR op_ne (pv 20) (pe_cmpR op_gt (pv 7) pe_int (nomark _)) (nomark _)))))
      (pss_one (ps_ret pe_bl))
      pss_nil)))))))))))))))))))))))))))
      (pss_one (ps_ret pe_bl)))
theorem all_mk {l : PySem.W.OpenLaw} {w : World} {K : PySem.W.Frag} {h : Heap} {mg : Str → Option Value} {fa : Addr} (X : K.In h) (G : h.Ns mainGlobals mg) (hfa : mg "law" = some (.ref fa))
    {C_BadKey : Addr}
    {C_BadRule : Addr}
    {C_BadSize : Addr}
    {C_Full : Addr}
    {C_StrewError : Addr}
    {C_TooMany : Addr}
    {f0 : Addr} {od0 an0 : Option Addr} {sl0 : Array (Option Value)} {oc0 kV0 dc0 pm0 cd0 ct0 : Value}
    {f1 : Addr} {od1 an1 : Option Addr} {sl1 : Array (Option Value)} {oc1 kV1 dc1 pm1 cd1 ct1 : Value}
    {f2 : Addr} {od2 an2 : Option Addr} {sl2 : Array (Option Value)} {oc2 kV2 dc2 pm2 cd2 ct2 : Value}
    {f3 : Addr} {od3 an3 : Option Addr} {sl3 : Array (Option Value)} {oc3 kV3 dc3 pm3 cd3 ct3 : Value}
    {f4 : Addr} {od4 an4 : Option Addr} {sl4 : Array (Option Value)} {oc4 kV4 dc4 pm4 cd4 ct4 : Value}
    {f5 : Addr} {od5 an5 : Option Addr} {sl5 : Array (Option Value)} {oc5 kV5 dc5 pm5 cd5 ct5 : Value}
    {f6 : Addr} {od6 an6 : Option Addr} {sl6 : Array (Option Value)} {oc6 kV6 dc6 pm6 cd6 ct6 : Value}
    {f7 : Addr} {od7 an7 : Option Addr} {sl7 : Array (Option Value)} {oc7 kV7 dc7 pm7 cd7 ct7 : Value}
    {f8 : Addr} {od8 an8 : Option Addr} {sl8 : Array (Option Value)} {oc8 kV8 dc8 pm8 cd8 ct8 : Value}
    {f9 : Addr} {od9 an9 : Option Addr} {sl9 : Array (Option Value)} {oc9 kV9 dc9 pm9 cd9 ct9 : Value}
    {f10 : Addr} {od10 an10 : Option Addr} {sl10 : Array (Option Value)} {oc10 kV10 dc10 pm10 cd10 ct10 : Value}
    {f11 : Addr} {od11 an11 : Option Addr} {sl11 : Array (Option Value)} {oc11 kV11 dc11 pm11 cd11 ct11 : Value}
    {f12 : Addr} {od12 an12 : Option Addr} {sl12 : Array (Option Value)} {oc12 kV12 dc12 pm12 cd12 ct12 : Value}
    {f13 : Addr} {od13 an13 : Option Addr} {sl13 : Array (Option Value)} {oc13 kV13 dc13 pm13 cd13 ct13 : Value}
    {f14 : Addr} {od14 an14 : Option Addr} {sl14 : Array (Option Value)} {oc14 kV14 dc14 pm14 cd14 ct14 : Value}
    {f15 : Addr} {od15 an15 : Option Addr} {sl15 : Array (Option Value)} {oc15 kV15 dc15 pm15 cd15 ct15 : Value}
    {f16 : Addr} {od16 an16 : Option Addr} {sl16 : Array (Option Value)} {oc16 kV16 dc16 pm16 cd16 ct16 : Value}
    {f17 : Addr} {od17 an17 : Option Addr} {sl17 : Array (Option Value)} {oc17 kV17 dc17 pm17 cd17 ct17 : Value}
    {f18 : Addr} {od18 an18 : Option Addr} {sl18 : Array (Option Value)} {oc18 kV18 dc18 pm18 cd18 ct18 : Value}
    {f19 : Addr} {od19 an19 : Option Addr} {sl19 : Array (Option Value)} {oc19 kV19 dc19 pm19 cd19 ct19 : Value}
    {f20 : Addr} {od20 an20 : Option Addr} {sl20 : Array (Option Value)} {oc20 kV20 dc20 pm20 cd20 ct20 : Value}
    {f21 : Addr} {od21 an21 : Option Addr} {sl21 : Array (Option Value)} {oc21 kV21 dc21 pm21 cd21 ct21 : Value}
    {tk_LEAST_SIZE : Tok}
    {tk_MOST_SCATTERINGS : Tok}
    {tk_MOST_SIZE : Tok}
    (n_BadKey : PySem.W.nsIn K mainGlobals "BadKey" = some (some (.ref C_BadKey)))
    (kc_BadKey : PySem.W.keepIn K (.ref C_BadKey) = true)
    (xc_BadKey : PySem.W.excIn K C_BadKey [.type "ValueError", .type "Exception", .type "BaseException", .type "object"] "ValueError.__new__" = true)
    (bc_BadKey : PySem.W.subIn K (.ref C_BadKey) (.type "BaseException") = some true)
    (tc_BadKey : PySem.W.typeIn K (.ref C_BadKey) = some (.type "type"))
    (n_BadRule : PySem.W.nsIn K mainGlobals "BadRule" = some (some (.ref C_BadRule)))
    (kc_BadRule : PySem.W.keepIn K (.ref C_BadRule) = true)
    (xc_BadRule : PySem.W.excIn K C_BadRule [.type "ValueError", .type "Exception", .type "BaseException", .type "object"] "ValueError.__new__" = true)
    (bc_BadRule : PySem.W.subIn K (.ref C_BadRule) (.type "BaseException") = some true)
    (tc_BadRule : PySem.W.typeIn K (.ref C_BadRule) = some (.type "type"))
    (n_BadSize : PySem.W.nsIn K mainGlobals "BadSize" = some (some (.ref C_BadSize)))
    (kc_BadSize : PySem.W.keepIn K (.ref C_BadSize) = true)
    (xc_BadSize : PySem.W.excIn K C_BadSize [.type "ValueError", .type "Exception", .type "BaseException", .type "object"] "ValueError.__new__" = true)
    (bc_BadSize : PySem.W.subIn K (.ref C_BadSize) (.type "BaseException") = some true)
    (tc_BadSize : PySem.W.typeIn K (.ref C_BadSize) = some (.type "type"))
    (n_Full : PySem.W.nsIn K mainGlobals "Full" = some (some (.ref C_Full)))
    (kc_Full : PySem.W.keepIn K (.ref C_Full) = true)
    (xc_Full : PySem.W.excIn K C_Full [.type "ValueError", .type "Exception", .type "BaseException", .type "object"] "ValueError.__new__" = true)
    (bc_Full : PySem.W.subIn K (.ref C_Full) (.type "BaseException") = some true)
    (tc_Full : PySem.W.typeIn K (.ref C_Full) = some (.type "type"))
    (n_StrewError : PySem.W.nsIn K mainGlobals "StrewError" = some (some (.ref C_StrewError)))
    (kc_StrewError : PySem.W.keepIn K (.ref C_StrewError) = true)
    (xc_StrewError : PySem.W.excIn K C_StrewError [.type "ValueError", .type "Exception", .type "BaseException", .type "object"] "ValueError.__new__" = true)
    (bc_StrewError : PySem.W.subIn K (.ref C_StrewError) (.type "BaseException") = some true)
    (tc_StrewError : PySem.W.typeIn K (.ref C_StrewError) = some (.type "type"))
    (n_TooMany : PySem.W.nsIn K mainGlobals "TooMany" = some (some (.ref C_TooMany)))
    (kc_TooMany : PySem.W.keepIn K (.ref C_TooMany) = true)
    (xc_TooMany : PySem.W.excIn K C_TooMany [.type "ValueError", .type "Exception", .type "BaseException", .type "object"] "ValueError.__new__" = true)
    (bc_TooMany : PySem.W.subIn K (.ref C_TooMany) (.type "BaseException") = some true)
    (tc_TooMany : PySem.W.typeIn K (.ref C_TooMany) = some (.type "type"))
    (hd_StrewError : PySem.W.hasDictIn K C_StrewError = true)
    (wn : PySem.W.specialIn K (.builtin "object.__class__") "__get__" = some (some (.builtin "getset_descriptor.__get__")))
    (wt : PySem.W.takesIn K (.builtin "object.__class__") = some true)
    (hg_BadRule : PySem.W.findIn K (.ref C_BadRule) "__getattribute__" = some (some (.builtin "BaseException.__getattribute__")))
    (hk_BadRule : PySem.W.findIn K (.ref C_BadRule) "__getattr__" = some none)
    (hd_BadRule : PySem.W.hasDictIn K C_BadRule = true)
    (ha_BadRule : PySem.W.findIn K (.ref C_BadRule) "__class__" = some (some (.builtin "object.__class__")))
    (hm_BadRule : PySem.W.mroIn K C_BadRule (.type "object") = some true)
    (kv_BadRule : PySem.W.subIn K (.ref C_BadRule) (.type "ValueError") = some true)
    (ex_BadRule : PySem.W.subIn K (.ref C_BadRule) (.ref C_StrewError) = some true)
    (kk_BadRule_BadRule : PySem.W.subIn K (.ref C_BadRule) (.ref C_BadRule) = some true)
    (kk_BadRule_BadKey : PySem.W.subIn K (.ref C_BadRule) (.ref C_BadKey) = some false)
    (kk_BadRule_BadSize : PySem.W.subIn K (.ref C_BadRule) (.ref C_BadSize) = some false)
    (kk_BadRule_Full : PySem.W.subIn K (.ref C_BadRule) (.ref C_Full) = some false)
    (kk_BadRule_TooMany : PySem.W.subIn K (.ref C_BadRule) (.ref C_TooMany) = some false)
    (hg_BadKey : PySem.W.findIn K (.ref C_BadKey) "__getattribute__" = some (some (.builtin "BaseException.__getattribute__")))
    (hk_BadKey : PySem.W.findIn K (.ref C_BadKey) "__getattr__" = some none)
    (hd_BadKey : PySem.W.hasDictIn K C_BadKey = true)
    (ha_BadKey : PySem.W.findIn K (.ref C_BadKey) "__class__" = some (some (.builtin "object.__class__")))
    (hm_BadKey : PySem.W.mroIn K C_BadKey (.type "object") = some true)
    (kv_BadKey : PySem.W.subIn K (.ref C_BadKey) (.type "ValueError") = some true)
    (ex_BadKey : PySem.W.subIn K (.ref C_BadKey) (.ref C_StrewError) = some true)
    (kk_BadKey_BadRule : PySem.W.subIn K (.ref C_BadKey) (.ref C_BadRule) = some false)
    (kk_BadKey_BadKey : PySem.W.subIn K (.ref C_BadKey) (.ref C_BadKey) = some true)
    (kk_BadKey_BadSize : PySem.W.subIn K (.ref C_BadKey) (.ref C_BadSize) = some false)
    (kk_BadKey_Full : PySem.W.subIn K (.ref C_BadKey) (.ref C_Full) = some false)
    (kk_BadKey_TooMany : PySem.W.subIn K (.ref C_BadKey) (.ref C_TooMany) = some false)
    (hg_BadSize : PySem.W.findIn K (.ref C_BadSize) "__getattribute__" = some (some (.builtin "BaseException.__getattribute__")))
    (hk_BadSize : PySem.W.findIn K (.ref C_BadSize) "__getattr__" = some none)
    (hd_BadSize : PySem.W.hasDictIn K C_BadSize = true)
    (ha_BadSize : PySem.W.findIn K (.ref C_BadSize) "__class__" = some (some (.builtin "object.__class__")))
    (hm_BadSize : PySem.W.mroIn K C_BadSize (.type "object") = some true)
    (kv_BadSize : PySem.W.subIn K (.ref C_BadSize) (.type "ValueError") = some true)
    (ex_BadSize : PySem.W.subIn K (.ref C_BadSize) (.ref C_StrewError) = some true)
    (kk_BadSize_BadRule : PySem.W.subIn K (.ref C_BadSize) (.ref C_BadRule) = some false)
    (kk_BadSize_BadKey : PySem.W.subIn K (.ref C_BadSize) (.ref C_BadKey) = some false)
    (kk_BadSize_BadSize : PySem.W.subIn K (.ref C_BadSize) (.ref C_BadSize) = some true)
    (kk_BadSize_Full : PySem.W.subIn K (.ref C_BadSize) (.ref C_Full) = some false)
    (kk_BadSize_TooMany : PySem.W.subIn K (.ref C_BadSize) (.ref C_TooMany) = some false)
    (hg_Full : PySem.W.findIn K (.ref C_Full) "__getattribute__" = some (some (.builtin "BaseException.__getattribute__")))
    (hk_Full : PySem.W.findIn K (.ref C_Full) "__getattr__" = some none)
    (hd_Full : PySem.W.hasDictIn K C_Full = true)
    (ha_Full : PySem.W.findIn K (.ref C_Full) "__class__" = some (some (.builtin "object.__class__")))
    (hm_Full : PySem.W.mroIn K C_Full (.type "object") = some true)
    (kv_Full : PySem.W.subIn K (.ref C_Full) (.type "ValueError") = some true)
    (ex_Full : PySem.W.subIn K (.ref C_Full) (.ref C_StrewError) = some true)
    (kk_Full_BadRule : PySem.W.subIn K (.ref C_Full) (.ref C_BadRule) = some false)
    (kk_Full_BadKey : PySem.W.subIn K (.ref C_Full) (.ref C_BadKey) = some false)
    (kk_Full_BadSize : PySem.W.subIn K (.ref C_Full) (.ref C_BadSize) = some false)
    (kk_Full_Full : PySem.W.subIn K (.ref C_Full) (.ref C_Full) = some true)
    (kk_Full_TooMany : PySem.W.subIn K (.ref C_Full) (.ref C_TooMany) = some false)
    (hg_TooMany : PySem.W.findIn K (.ref C_TooMany) "__getattribute__" = some (some (.builtin "BaseException.__getattribute__")))
    (hk_TooMany : PySem.W.findIn K (.ref C_TooMany) "__getattr__" = some none)
    (hd_TooMany : PySem.W.hasDictIn K C_TooMany = true)
    (ha_TooMany : PySem.W.findIn K (.ref C_TooMany) "__class__" = some (some (.builtin "object.__class__")))
    (hm_TooMany : PySem.W.mroIn K C_TooMany (.type "object") = some true)
    (kv_TooMany : PySem.W.subIn K (.ref C_TooMany) (.type "ValueError") = some true)
    (ex_TooMany : PySem.W.subIn K (.ref C_TooMany) (.ref C_StrewError) = some true)
    (kk_TooMany_BadRule : PySem.W.subIn K (.ref C_TooMany) (.ref C_BadRule) = some false)
    (kk_TooMany_BadKey : PySem.W.subIn K (.ref C_TooMany) (.ref C_BadKey) = some false)
    (kk_TooMany_BadSize : PySem.W.subIn K (.ref C_TooMany) (.ref C_BadSize) = some false)
    (kk_TooMany_Full : PySem.W.subIn K (.ref C_TooMany) (.ref C_Full) = some false)
    (kk_TooMany_TooMany : PySem.W.subIn K (.ref C_TooMany) (.ref C_TooMany) = some true)
    (a0 : PySem.W.nsIn K mainGlobals "_law_cell" = some (some (.ref f0)))
    (l0 : K.lookup f0 = some ⟨oc0, od0, .func (PySem.W.fnOf "_law_cell" "_law_cell" (defArgs s__law_cell) (defBody s__law_cell) (defScope s__law_cell) .none kV0 dc0 pm0 an0 cd0 ct0), sl0⟩)
    (c0 : PySem.W.codeIn K cd0 "_law_cell" = true)
    (k0 : PySem.W.keepIn K (.ref f0) = true)
    (a1 : PySem.W.nsIn K mainGlobals "_law_drawn" = some (some (.ref f1)))
    (l1 : K.lookup f1 = some ⟨oc1, od1, .func (PySem.W.fnOf "_law_drawn" "_law_drawn" (defArgs s__law_drawn) (defBody s__law_drawn) (defScope s__law_drawn) .none kV1 dc1 pm1 an1 cd1 ct1), sl1⟩)
    (c1 : PySem.W.codeIn K cd1 "_law_drawn" = true)
    (k1 : PySem.W.keepIn K (.ref f1) = true)
    (a2 : PySem.W.nsIn K mainGlobals "_law_gone" = some (some (.ref f2)))
    (l2 : K.lookup f2 = some ⟨oc2, od2, .func (PySem.W.fnOf "_law_gone" "_law_gone" (defArgs s__law_gone) (defBody s__law_gone) (defScope s__law_gone) .none kV2 dc2 pm2 an2 cd2 ct2), sl2⟩)
    (c2 : PySem.W.codeIn K cd2 "_law_gone" = true)
    (k2 : PySem.W.keepIn K (.ref f2) = true)
    (a3 : PySem.W.nsIn K mainGlobals "_law_word" = some (some (.ref f3)))
    (l3 : K.lookup f3 = some ⟨oc3, od3, .func (PySem.W.fnOf "_law_word" "_law_word" (defArgs s__law_word) (defBody s__law_word) (defScope s__law_word) .none kV3 dc3 pm3 an3 cd3 ct3), sl3⟩)
    (c3 : PySem.W.codeIn K cd3 "_law_word" = true)
    (k3 : PySem.W.keepIn K (.ref f3) = true)
    (a4 : PySem.W.nsIn K mainGlobals "is_count" = some (some (.ref f4)))
    (l4 : K.lookup f4 = some ⟨oc4, od4, .func (PySem.W.fnOf "is_count" "is_count" (defArgs s_is_count) (defBody s_is_count) (defScope s_is_count) .none kV4 dc4 pm4 an4 cd4 ct4), sl4⟩)
    (c4 : PySem.W.codeIn K cd4 "is_count" = true)
    (k4 : PySem.W.keepIn K (.ref f4) = true)
    (a5 : PySem.W.nsIn K mainGlobals "need_size" = some (some (.ref f5)))
    (l5 : K.lookup f5 = some ⟨oc5, od5, .func (PySem.W.fnOf "need_size" "need_size" (defArgs s_need_size) (defBody s_need_size) (defScope s_need_size) .none kV5 dc5 pm5 an5 cd5 ct5), sl5⟩)
    (c5 : PySem.W.codeIn K cd5 "need_size" = true)
    (k5 : PySem.W.keepIn K (.ref f5) = true)
    (a6 : PySem.W.nsIn K mainGlobals "need_count" = some (some (.ref f6)))
    (l6 : K.lookup f6 = some ⟨oc6, od6, .func (PySem.W.fnOf "need_count" "need_count" (defArgs s_need_count) (defBody s_need_count) (defScope s_need_count) .none kV6 dc6 pm6 an6 cd6 ct6), sl6⟩)
    (c6 : PySem.W.codeIn K cd6 "need_count" = true)
    (k6 : PySem.W.keepIn K (.ref f6) = true)
    (a7 : PySem.W.nsIn K mainGlobals "power" = some (some (.ref f7)))
    (l7 : K.lookup f7 = some ⟨oc7, od7, .func (PySem.W.fnOf "power" "power" (defArgs s_power) (defBody s_power) (defScope s_power) .none kV7 dc7 pm7 an7 cd7 ct7), sl7⟩)
    (c7 : PySem.W.codeIn K cd7 "power" = true)
    (k7 : PySem.W.keepIn K (.ref f7) = true)
    (a8 : PySem.W.nsIn K mainGlobals "scatterings" = some (some (.ref f8)))
    (l8 : K.lookup f8 = some ⟨oc8, od8, .func (PySem.W.fnOf "scatterings" "scatterings" (defArgs s_scatterings) (defBody s_scatterings) (defScope s_scatterings) .none kV8 dc8 pm8 an8 cd8 ct8), sl8⟩)
    (c8 : PySem.W.codeIn K cd8 "scatterings" = true)
    (k8 : PySem.W.keepIn K (.ref f8) = true)
    (a9 : PySem.W.nsIn K mainGlobals "laid" = some (some (.ref f9)))
    (l9 : K.lookup f9 = some ⟨oc9, od9, .func (PySem.W.fnOf "laid" "laid" (defArgs s_laid) (defBody s_laid) (defScope s_laid) .none kV9 dc9 pm9 an9 cd9 ct9), sl9⟩)
    (c9 : PySem.W.codeIn K cd9 "laid" = true)
    (k9 : PySem.W.keepIn K (.ref f9) = true)
    (a10 : PySem.W.nsIn K mainGlobals "ways_of" = some (some (.ref f10)))
    (l10 : K.lookup f10 = some ⟨oc10, od10, .func (PySem.W.fnOf "ways_of" "ways_of" (defArgs s_ways_of) (defBody s_ways_of) (defScope s_ways_of) .none kV10 dc10 pm10 an10 cd10 ct10), sl10⟩)
    (c10 : PySem.W.codeIn K cd10 "ways_of" = true)
    (k10 : PySem.W.keepIn K (.ref f10) = true)
    (a11 : PySem.W.nsIn K mainGlobals "spread" = some (some (.ref f11)))
    (l11 : K.lookup f11 = some ⟨oc11, od11, .func (PySem.W.fnOf "spread" "spread" (defArgs s_spread) (defBody s_spread) (defScope s_spread) .none kV11 dc11 pm11 an11 cd11 ct11), sl11⟩)
    (c11 : PySem.W.codeIn K cd11 "spread" = true)
    (k11 : PySem.W.keepIn K (.ref f11) = true)
    (a12 : PySem.W.nsIn K mainGlobals "fraction" = some (some (.ref f12)))
    (l12 : K.lookup f12 = some ⟨oc12, od12, .func (PySem.W.fnOf "fraction" "fraction" (defArgs s_fraction) (defBody s_fraction) (defScope s_fraction) .none kV12 dc12 pm12 an12 cd12 ct12), sl12⟩)
    (c12 : PySem.W.codeIn K cd12 "fraction" = true)
    (k12 : PySem.W.keepIn K (.ref f12) = true)
    (a13 : PySem.W.nsIn K mainGlobals "times" = some (some (.ref f13)))
    (l13 : K.lookup f13 = some ⟨oc13, od13, .func (PySem.W.fnOf "times" "times" (defArgs s_times) (defBody s_times) (defScope s_times) .none kV13 dc13 pm13 an13 cd13 ct13), sl13⟩)
    (c13 : PySem.W.codeIn K cd13 "times" = true)
    (k13 : PySem.W.keepIn K (.ref f13) = true)
    (a14 : PySem.W.nsIn K mainGlobals "plus" = some (some (.ref f14)))
    (l14 : K.lookup f14 = some ⟨oc14, od14, .func (PySem.W.fnOf "plus" "plus" (defArgs s_plus) (defBody s_plus) (defScope s_plus) .none kV14 dc14 pm14 an14 cd14 ct14), sl14⟩)
    (c14 : PySem.W.codeIn K cd14 "plus" = true)
    (k14 : PySem.W.keepIn K (.ref f14) = true)
    (a15 : PySem.W.nsIn K mainGlobals "falling" = some (some (.ref f15)))
    (l15 : K.lookup f15 = some ⟨oc15, od15, .func (PySem.W.fnOf "falling" "falling" (defArgs s_falling) (defBody s_falling) (defScope s_falling) .none kV15 dc15 pm15 an15 cd15 ct15), sl15⟩)
    (c15 : PySem.W.codeIn K cd15 "falling" = true)
    (k15 : PySem.W.keepIn K (.ref f15) = true)
    (a16 : PySem.W.nsIn K mainGlobals "half" = some (some (.ref f16)))
    (l16 : K.lookup f16 = some ⟨oc16, od16, .func (PySem.W.fnOf "half" "half" (defArgs s_half) (defBody s_half) (defScope s_half) .none kV16 dc16 pm16 an16 cd16 ct16), sl16⟩)
    (c16 : PySem.W.codeIn K cd16 "half" = true)
    (k16 : PySem.W.keepIn K (.ref f16) = true)
    (a17 : PySem.W.nsIn K mainGlobals "hit" = some (some (.ref f17)))
    (l17 : K.lookup f17 = some ⟨oc17, od17, .func (PySem.W.fnOf "hit" "hit" (defArgs s_hit) (defBody s_hit) (defScope s_hit) .none kV17 dc17 pm17 an17 cd17 ct17), sl17⟩)
    (c17 : PySem.W.codeIn K cd17 "hit" = true)
    (k17 : PySem.W.keepIn K (.ref f17) = true)
    (a18 : PySem.W.nsIn K mainGlobals "miss" = some (some (.ref f18)))
    (l18 : K.lookup f18 = some ⟨oc18, od18, .func (PySem.W.fnOf "miss" "miss" (defArgs s_miss) (defBody s_miss) (defScope s_miss) .none kV18 dc18 pm18 an18 cd18 ct18), sl18⟩)
    (c18 : PySem.W.codeIn K cd18 "miss" = true)
    (k18 : PySem.W.keepIn K (.ref f18) = true)
    (a19 : PySem.W.nsIn K mainGlobals "_law_told" = some (some (.ref f19)))
    (l19 : K.lookup f19 = some ⟨oc19, od19, .func (PySem.W.fnOf "_law_told" "_law_told" (defArgs s__law_told) (defBody s__law_told) (defScope s__law_told) .none kV19 dc19 pm19 an19 cd19 ct19), sl19⟩)
    (c19 : PySem.W.codeIn K cd19 "_law_told" = true)
    (k19 : PySem.W.keepIn K (.ref f19) = true)
    (a20 : PySem.W.nsIn K mainGlobals "_law_fraction" = some (some (.ref f20)))
    (l20 : K.lookup f20 = some ⟨oc20, od20, .func (PySem.W.fnOf "_law_fraction" "_law_fraction" (defArgs s__law_fraction) (defBody s__law_fraction) (defScope s__law_fraction) .none kV20 dc20 pm20 an20 cd20 ct20), sl20⟩)
    (c20 : PySem.W.codeIn K cd20 "_law_fraction" = true)
    (k20 : PySem.W.keepIn K (.ref f20) = true)
    (a21 : PySem.W.nsIn K mainGlobals "law" = some (some (.ref f21)))
    (l21 : K.lookup f21 = some ⟨oc21, od21, .func (PySem.W.fnOf "law" "law" (defArgs s_law) (defBody s_law) (defScope s_law) .none kV21 dc21 pm21 an21 cd21 ct21), sl21⟩)
    (c21 : PySem.W.codeIn K cd21 "law" = true)
    (k21 : PySem.W.keepIn K (.ref f21) = true)
    (v_LEAST_SIZE : PySem.W.nsIn K mainGlobals "LEAST_SIZE" = some (some (.int 2 tk_LEAST_SIZE)))
    (v_MOST_SCATTERINGS : PySem.W.nsIn K mainGlobals "MOST_SCATTERINGS" = some (some (.int 4096 tk_MOST_SCATTERINGS)))
    (v_MOST_SIZE : PySem.W.nsIn K mainGlobals "MOST_SIZE" = some (some (.int 64 tk_MOST_SIZE)))
    (b_ValueError : PySem.W.nsIn K mainGlobals "ValueError" = some none)
    (b_abs : PySem.W.nsIn K mainGlobals "abs" = some none)
    (b_bool : PySem.W.nsIn K mainGlobals "bool" = some none)
    (b_enumerate : PySem.W.nsIn K mainGlobals "enumerate" = some none)
    (b_int : PySem.W.nsIn K mainGlobals "int" = some none)
    (b_isinstance : PySem.W.nsIn K mainGlobals "isinstance" = some none)
    (b_len : PySem.W.nsIn K mainGlobals "len" = some none)
    (b_max : PySem.W.nsIn K mainGlobals "max" = some none)
    (b_min : PySem.W.nsIn K mainGlobals "min" = some none)
    (b_range : PySem.W.nsIn K mainGlobals "range" = some none)
    (b_sum : PySem.W.nsIn K mainGlobals "sum" = some none) :
    ∃ fd : FuncData, (∀ (s : Shared) (v : Value), BindsTo s fd ⟨[v], []⟩ [("_law_script", v)]) ∧ ∀ base : Heap, K.In base → base.Ns mainGlobals mg → FnOk l.prog w K mg base (L2N.CX l.prog w) 6 fa fd ["_law_script"] (spLaw K) := by
  have e := hfa.symm.trans (PySem.W.mg_of X G a21)
  cases e
  refine ⟨PySem.W.fnOf "law" "law" (defArgs s_law) (defBody s_law) (defScope s_law) .none kV21 dc21 pm21 an21 cd21 ct21, fun s v => .of_eq rfl, fun base _ _ => ?_⟩
  let cs : Cs := ⟨C_BadRule, C_BadKey, C_BadSize, C_Full, C_TooMany, C_StrewError, 0, 0, 0⟩
  have x_BadKey : ExcT K mg "BadKey" cs.BadKey := ⟨PySem.W.mg_of X G n_BadKey, kc_BadKey, xc_BadKey, bc_BadKey, tc_BadKey⟩
  have x_BadRule : ExcT K mg "BadRule" cs.BadRule := ⟨PySem.W.mg_of X G n_BadRule, kc_BadRule, xc_BadRule, bc_BadRule, tc_BadRule⟩
  have x_BadSize : ExcT K mg "BadSize" cs.BadSize := ⟨PySem.W.mg_of X G n_BadSize, kc_BadSize, xc_BadSize, bc_BadSize, tc_BadSize⟩
  have x_Full : ExcT K mg "Full" cs.Full := ⟨PySem.W.mg_of X G n_Full, kc_Full, xc_Full, bc_Full, tc_Full⟩
  have x_StrewError : ExcT K mg "StrewError" cs.StrewError := ⟨PySem.W.mg_of X G n_StrewError, kc_StrewError, xc_StrewError, bc_StrewError, tc_StrewError⟩
  have x_TooMany : ExcT K mg "TooMany" cs.TooMany := ⟨PySem.W.mg_of X G n_TooMany, kc_TooMany, xc_TooMany, bc_TooMany, tc_TooMany⟩
  have kw_BadRule := kitC_mk (cs := cs) (⟨hg_BadRule, hk_BadRule, bc_BadRule, hd_BadRule, ha_BadRule, wn, wt, hm_BadRule⟩ : ExcC K C_BadRule) hd_BadRule hd_BadKey hd_BadSize hd_Full hd_TooMany tc_BadRule tc_BadKey tc_BadSize tc_Full tc_TooMany kk_BadRule_BadRule kk_BadRule_BadRule kk_BadRule_BadKey kk_BadRule_BadSize kk_BadRule_Full kk_BadRule_TooMany kv_BadRule
  have kw_BadKey := kitC_mk (cs := cs) (⟨hg_BadKey, hk_BadKey, bc_BadKey, hd_BadKey, ha_BadKey, wn, wt, hm_BadKey⟩ : ExcC K C_BadKey) hd_BadRule hd_BadKey hd_BadSize hd_Full hd_TooMany tc_BadRule tc_BadKey tc_BadSize tc_Full tc_TooMany kk_BadKey_BadKey kk_BadKey_BadRule kk_BadKey_BadKey kk_BadKey_BadSize kk_BadKey_Full kk_BadKey_TooMany kv_BadKey
  have kw_BadSize := kitC_mk (cs := cs) (⟨hg_BadSize, hk_BadSize, bc_BadSize, hd_BadSize, ha_BadSize, wn, wt, hm_BadSize⟩ : ExcC K C_BadSize) hd_BadRule hd_BadKey hd_BadSize hd_Full hd_TooMany tc_BadRule tc_BadKey tc_BadSize tc_Full tc_TooMany kk_BadSize_BadSize kk_BadSize_BadRule kk_BadSize_BadKey kk_BadSize_BadSize kk_BadSize_Full kk_BadSize_TooMany kv_BadSize
  have kw_Full := kitC_mk (cs := cs) (⟨hg_Full, hk_Full, bc_Full, hd_Full, ha_Full, wn, wt, hm_Full⟩ : ExcC K C_Full) hd_BadRule hd_BadKey hd_BadSize hd_Full hd_TooMany tc_BadRule tc_BadKey tc_BadSize tc_Full tc_TooMany kk_Full_Full kk_Full_BadRule kk_Full_BadKey kk_Full_BadSize kk_Full_Full kk_Full_TooMany kv_Full
  have kw_TooMany := kitC_mk (cs := cs) (⟨hg_TooMany, hk_TooMany, bc_TooMany, hd_TooMany, ha_TooMany, wn, wt, hm_TooMany⟩ : ExcC K C_TooMany) hd_BadRule hd_BadKey hd_BadSize hd_Full hd_TooMany tc_BadRule tc_BadKey tc_BadSize tc_Full tc_TooMany kk_TooMany_TooMany kk_TooMany_BadRule kk_TooMany_BadKey kk_TooMany_BadSize kk_TooMany_Full kk_TooMany_TooMany kv_TooMany
  have kw : KitW K cs := ⟨kw_BadRule, kw_BadKey, kw_BadSize, kw_Full, kw_TooMany⟩
  have kx : ExmW K cs := exmW_mk (PySem.W.exm_ref bc_StrewError hd_StrewError tc_StrewError ex_BadRule) (PySem.W.exm_ref bc_StrewError hd_StrewError tc_StrewError ex_BadKey) (PySem.W.exm_ref bc_StrewError hd_StrewError tc_StrewError ex_BadSize) (PySem.W.exm_ref bc_StrewError hd_StrewError tc_StrewError ex_Full) (PySem.W.exm_ref bc_StrewError hd_StrewError tc_StrewError ex_TooMany)
  have k_LEAST_SIZE : ∃ t, mg "LEAST_SIZE" = some (.int 2 t) := ⟨_, PySem.W.mg_of X G v_LEAST_SIZE⟩
  have k_MOST_SCATTERINGS : ∃ t, mg "MOST_SCATTERINGS" = some (.int 4096 t) := ⟨_, PySem.W.mg_of X G v_MOST_SCATTERINGS⟩
  have k_MOST_SIZE : ∃ t, mg "MOST_SIZE" = some (.int 64 t) := ⟨_, PySem.W.mg_of X G v_MOST_SIZE⟩
  have m_ValueError : mg "ValueError" = none := PySem.W.mg_none_of X G b_ValueError
  have m_abs : mg "abs" = none := PySem.W.mg_none_of X G b_abs
  have m_bool : mg "bool" = none := PySem.W.mg_none_of X G b_bool
  have m_enumerate : mg "enumerate" = none := PySem.W.mg_none_of X G b_enumerate
  have m_int : mg "int" = none := PySem.W.mg_none_of X G b_int
  have m_isinstance : mg "isinstance" = none := PySem.W.mg_none_of X G b_isinstance
  have m_len : mg "len" = none := PySem.W.mg_none_of X G b_len
  have m_max : mg "max" = none := PySem.W.mg_none_of X G b_max
  have m_min : mg "min" = none := PySem.W.mg_none_of X G b_min
  have m_range : mg "range" = none := PySem.W.mg_none_of X G b_range
  have m_sum : mg "sum" = none := PySem.W.mg_none_of X G b_sum
  have D__law_cell : Dn K mg "_law_cell" s__law_cell ["_law_script", "_law_k"] := ⟨f0, _, fun_mk (st := s__law_cell) l0 c0 k0, PySem.W.mg_of X G a0, (fun_mk (st := s__law_cell) l0 c0 k0).binds fun _ _ _ _ _ _ us hl => match us, hl with | [_, _], _ => rfl⟩
  have cal__law_cell := ok__law_cell (P := l.prog) (w := w) (base := base) (cs := cs) D__law_cell m_len
  have D__law_drawn : Dn K mg "_law_drawn" s__law_drawn ["_law_cell_here", "_law_k"] := ⟨f1, _, fun_mk (st := s__law_drawn) l1 c1 k1, PySem.W.mg_of X G a1, (fun_mk (st := s__law_drawn) l1 c1 k1).binds fun _ _ _ _ _ _ us hl => match us, hl with | [_, _], _ => rfl⟩
  have cal__law_drawn := ok__law_drawn (P := l.prog) (w := w) (base := base) (cs := cs) D__law_drawn
  have D__law_gone : Dn K mg "_law_gone" s__law_gone ["_law_size", "_law_number", "_law_many"] := ⟨f2, _, fun_mk (st := s__law_gone) l2 c2 k2, PySem.W.mg_of X G a2, (fun_mk (st := s__law_gone) l2 c2 k2).binds fun _ _ _ _ _ _ us hl => match us, hl with | [_, _, _], _ => rfl⟩
  have cal__law_gone := ok__law_gone (P := l.prog) (w := w) (base := base) (cs := cs) D__law_gone m_range
  have D__law_word : Dn K mg "_law_word" s__law_word ["_law_e"] := ⟨f3, _, fun_mk (st := s__law_word) l3 c3 k3, PySem.W.mg_of X G a3, (fun_mk (st := s__law_word) l3 c3 k3).binds fun _ _ _ _ _ _ us hl => match us, hl with | [_], _ => rfl⟩
  have cal__law_word := ok__law_word (P := l.prog) (w := w) (base := base) (cs := cs) D__law_word kw m_isinstance m_int m_sum m_ValueError x_BadRule x_BadKey x_BadSize x_Full x_TooMany
  have D_is_count : Dn K mg "is_count" s_is_count ["thing", "least", "most"] := ⟨f4, _, fun_mk (st := s_is_count) l4 c4 k4, PySem.W.mg_of X G a4, (fun_mk (st := s_is_count) l4 c4 k4).binds fun _ _ _ _ _ _ us hl => match us, hl with | [_, _, _], _ => rfl⟩
  have cal_is_count := ok_is_count (P := l.prog) (w := w) (base := base) (cs := cs) D_is_count m_int m_isinstance m_bool
  have D_need_size : Dn K mg "need_size" s_need_size ["size"] := ⟨f5, _, fun_mk (st := s_need_size) l5 c5 k5, PySem.W.mg_of X G a5, (fun_mk (st := s_need_size) l5 c5 k5).binds fun _ _ _ _ _ _ us hl => match us, hl with | [_], _ => rfl⟩
  have cal_need_size := ok_need_size (P := l.prog) (w := w) (base := base) (cs := cs) D_need_size cal_is_count k_LEAST_SIZE k_MOST_SIZE x_BadSize
  have D_need_count : Dn K mg "need_count" s_need_count ["number", "least", "most"] := ⟨f6, _, fun_mk (st := s_need_count) l6 c6 k6, PySem.W.mg_of X G a6, (fun_mk (st := s_need_count) l6 c6 k6).binds fun _ _ _ _ _ _ us hl => match us, hl with | [_, _, _], _ => rfl⟩
  have cal_need_count := ok_need_count (P := l.prog) (w := w) (base := base) (cs := cs) D_need_count cal_is_count x_BadSize
  have D_power : Dn K mg "power" s_power ["size", "many"] := ⟨f7, _, fun_mk (st := s_power) l7 c7 k7, PySem.W.mg_of X G a7, (fun_mk (st := s_power) l7 c7 k7).binds fun _ _ _ _ _ _ us hl => match us, hl with | [_, _], _ => rfl⟩
  have cal_power := ok_power (P := l.prog) (w := w) (base := base) (cs := cs) D_power m_range
  have D_scatterings : Dn K mg "scatterings" s_scatterings ["size", "many"] := ⟨f8, _, fun_mk (st := s_scatterings) l8 c8 k8, PySem.W.mg_of X G a8, (fun_mk (st := s_scatterings) l8 c8 k8).binds fun _ _ _ _ _ _ us hl => match us, hl with | [_, _], _ => rfl⟩
  have cal_scatterings := ok_scatterings (P := l.prog) (w := w) (base := base) (cs := cs) D_scatterings m_range
  have D_laid : Dn K mg "laid" s_laid ["homes", "size"] := ⟨f9, _, fun_mk (st := s_laid) l9 c9 k9, PySem.W.mg_of X G a9, (fun_mk (st := s_laid) l9 c9 k9).binds fun _ _ _ _ _ _ us hl => match us, hl with | [_, _], _ => rfl⟩
  have cal_laid := ok_laid (P := l.prog) (w := w) (base := base) (cs := cs) D_laid m_enumerate
  have D_ways_of : Dn K mg "ways_of" s_ways_of ["homes", "size"] := ⟨f10, _, fun_mk (st := s_ways_of) l10 c10 k10, PySem.W.mg_of X G a10, (fun_mk (st := s_ways_of) l10 c10 k10).binds fun _ _ _ _ _ _ us hl => match us, hl with | [_, _], _ => rfl⟩
  have cal_ways_of := ok_ways_of (P := l.prog) (w := w) (base := base) (cs := cs) D_ways_of cal_laid m_enumerate
  have D_spread : Dn K mg "spread" s_spread ["size", "many"] := ⟨f11, _, fun_mk (st := s_spread) l11 c11 k11, PySem.W.mg_of X G a11, (fun_mk (st := s_spread) l11 c11 k11).binds fun _ _ _ _ _ _ us hl => match us, hl with | [_, _], _ => rfl⟩
  have cal_spread := ok_spread (P := l.prog) (w := w) (base := base) (cs := cs) D_spread cal_need_size cal_need_count cal_power cal_scatterings cal_ways_of m_range m_max k_MOST_SCATTERINGS x_TooMany
  have D_fraction : Dn K mg "fraction" s_fraction ["top", "under"] := ⟨f12, _, fun_mk (st := s_fraction) l12 c12 k12, PySem.W.mg_of X G a12, (fun_mk (st := s_fraction) l12 c12 k12).binds fun _ _ _ _ _ _ us hl => match us, hl with | [_, _], _ => rfl⟩
  have cal_fraction := ok_fraction (P := l.prog) (w := w) (base := base) (cs := cs) D_fraction m_abs
  have D_times : Dn K mg "times" s_times ["one", "other"] := ⟨f13, _, fun_mk (st := s_times) l13 c13 k13, PySem.W.mg_of X G a13, (fun_mk (st := s_times) l13 c13 k13).binds fun _ _ _ _ _ _ us hl => match us, hl with | [_, _], _ => rfl⟩
  have cal_times := ok_times (P := l.prog) (w := w) (base := base) (cs := cs) D_times cal_fraction
  have D_plus : Dn K mg "plus" s_plus ["one", "other"] := ⟨f14, _, fun_mk (st := s_plus) l14 c14 k14, PySem.W.mg_of X G a14, (fun_mk (st := s_plus) l14 c14 k14).binds fun _ _ _ _ _ _ us hl => match us, hl with | [_, _], _ => rfl⟩
  have cal_plus := ok_plus (P := l.prog) (w := w) (base := base) (cs := cs) D_plus cal_fraction
  have D_falling : Dn K mg "falling" s_falling ["size", "many", "weight"] := ⟨f15, _, fun_mk (st := s_falling) l15 c15 k15, PySem.W.mg_of X G a15, (fun_mk (st := s_falling) l15 c15 k15).binds fun _ _ _ _ _ _ us hl => match us, hl with | [_, _, _], _ => rfl⟩
  have cal_falling := ok_falling (P := l.prog) (w := w) (base := base) (cs := cs) D_falling cal_times cal_plus m_range
  have D_half : Dn K mg "half" s_half ["one"] := ⟨f16, _, fun_mk (st := s_half) l16 c16 k16, PySem.W.mg_of X G a16, (fun_mk (st := s_half) l16 c16 k16).binds fun _ _ _ _ _ _ us hl => match us, hl with | [_], _ => rfl⟩
  have cal_half := ok_half (P := l.prog) (w := w) (base := base) (cs := cs) D_half cal_fraction
  have D_hit : Dn K mg "hit" s_hit ["size", "many"] := ⟨f17, _, fun_mk (st := s_hit) l17 c17 k17, PySem.W.mg_of X G a17, (fun_mk (st := s_hit) l17 c17 k17).binds fun _ _ _ _ _ _ us hl => match us, hl with | [_, _], _ => rfl⟩
  have cal_hit := ok_hit (P := l.prog) (w := w) (base := base) (cs := cs) D_hit cal_need_size cal_need_count cal_falling cal_half
  have D_miss : Dn K mg "miss" s_miss ["size", "many"] := ⟨f18, _, fun_mk (st := s_miss) l18 c18 k18, PySem.W.mg_of X G a18, (fun_mk (st := s_miss) l18 c18 k18).binds fun _ _ _ _ _ _ us hl => match us, hl with | [_, _], _ => rfl⟩
  have cal_miss := ok_miss (P := l.prog) (w := w) (base := base) (cs := cs) D_miss cal_need_size cal_need_count cal_falling cal_half
  have D__law_told : Dn K mg "_law_told" s__law_told ["_law_way", "_law_size", "_law_many"] := ⟨f19, _, fun_mk (st := s__law_told) l19 c19 k19, PySem.W.mg_of X G a19, (fun_mk (st := s__law_told) l19 c19 k19).binds fun _ _ _ _ _ _ us hl => match us, hl with | [_, _, _], _ => rfl⟩
  have cal__law_told := ok__law_told (P := l.prog) (w := w) (base := base) (cs := cs) D__law_told cal__law_word cal_spread cal_hit cal_miss kx x_StrewError
  have D__law_fraction : Dn K mg "_law_fraction" s__law_fraction ["_law_top", "_law_under"] := ⟨f20, _, fun_mk (st := s__law_fraction) l20 c20 k20, PySem.W.mg_of X G a20, (fun_mk (st := s__law_fraction) l20 c20 k20).binds fun _ _ _ _ _ _ us hl => match us, hl with | [_, _], _ => rfl⟩
  have cal__law_fraction := ok__law_fraction (P := l.prog) (w := w) (base := base) (cs := cs) D__law_fraction
  exact ok_law (cs := cs) (fun_mk (st := s_law) l21 c21 k21) cal__law_cell cal__law_drawn cal__law_gone cal__law_told cal__law_fraction m_range m_len m_min m_max m_sum m_enumerate
theorem walk {l : PySem.W.OpenLaw} {q : Program} {loose : List Str} {XP : (Str → Option Value) → Heap → Prop} {YP : World → Heap → Prop} {d : DefRec} {K : Params → PySem.W.Frag} (hn : l.most = some 63) (hdf : d.params.defaults = [])
    (hY : ∀ (w : World) (h : Heap), YP w h → (K w.params).In h)
    (F : ∀ (w : World) (mg : Str → Option Value) (fa : Addr) (h : Heap), (K w.params).In h → h.Ns mainGlobals mg → mg d.name = some (.ref fa) →
      ∃ fd : FuncData, (∀ (s : Shared) (u : Value), BindsTo s fd ⟨[u], []⟩ [("_law_script", u)]) ∧ ∀ base : Heap, (K w.params).In base → base.Ns mainGlobals mg → FnOk l.prog w (K w.params) mg base (L2N.CX l.prog w) 6 fa fd ["_law_script"] (spLaw (K w.params))) :
    PySem.W.WalkO q loose XP YP l.row.toRowW d [] (fun f vs => PySem.call f vs) := by
  refine L2.walk_of (n := 63) (k := 6) (x := "_law_script") (CX := fun w => L2N.CX l.prog w) (sp := fun w => spLaw (K w.params)) hn (by decide) hdf ⟨rfl, by decide, by decide⟩ hY F (fun _ _ a ns hl _ hS => ⟨a, ns, rfl, hS, hl, fun _ => rfl⟩) fun _ _ _ _ _ h => ?_
  obtain ⟨_, _, _, _, _, _, _, _, _, _, _, _, z⟩ := h
  exact z.elim
end Lg
open PySem PySem.W PyProof.Rows
set_option maxRecDepth 100000 in
set_option maxHeartbeats 0 in
theorem PySem.Challenge.cw_strewn_k40_spread_holds : PySem.Challenge.rw_strewn_k40_spread.Holds := by
  w_on; o_law; k_head; (case hw => w_witness2)
  k_fill
  refine Lg.walk (l := PySem.Challenge.rw_strewn_k40_spread) rfl rfl (fun w h Y => PySem.W.kIn_of Y) ?F
  case F =>
    intro w mg fa h KX G hmg
    refine' Lg.all_mk KX G hmg ?n_BadKey ?kc_BadKey ?xc_BadKey ?bc_BadKey ?tc_BadKey ?n_BadRule ?kc_BadRule ?xc_BadRule ?bc_BadRule ?tc_BadRule ?n_BadSize ?kc_BadSize ?xc_BadSize ?bc_BadSize ?tc_BadSize ?n_Full ?kc_Full ?xc_Full ?bc_Full ?tc_Full ?n_StrewError ?kc_StrewError ?xc_StrewError ?bc_StrewError ?tc_StrewError ?n_TooMany ?kc_TooMany ?xc_TooMany ?bc_TooMany ?tc_TooMany ?hd_StrewError ?wn ?wt ?hg_BadRule ?hk_BadRule ?hd_BadRule ?ha_BadRule ?hm_BadRule ?kv_BadRule ?ex_BadRule ?kk_BadRule_BadRule ?kk_BadRule_BadKey ?kk_BadRule_BadSize ?kk_BadRule_Full ?kk_BadRule_TooMany ?hg_BadKey ?hk_BadKey ?hd_BadKey ?ha_BadKey ?hm_BadKey ?kv_BadKey ?ex_BadKey ?kk_BadKey_BadRule ?kk_BadKey_BadKey ?kk_BadKey_BadSize ?kk_BadKey_Full ?kk_BadKey_TooMany ?hg_BadSize ?hk_BadSize ?hd_BadSize ?ha_BadSize ?hm_BadSize ?kv_BadSize ?ex_BadSize ?kk_BadSize_BadRule ?kk_BadSize_BadKey ?kk_BadSize_BadSize ?kk_BadSize_Full ?kk_BadSize_TooMany ?hg_Full ?hk_Full ?hd_Full ?ha_Full ?hm_Full ?kv_Full ?ex_Full ?kk_Full_BadRule ?kk_Full_BadKey ?kk_Full_BadSize ?kk_Full_Full ?kk_Full_TooMany ?hg_TooMany ?hk_TooMany ?hd_TooMany ?ha_TooMany ?hm_TooMany ?kv_TooMany ?ex_TooMany ?kk_TooMany_BadRule ?kk_TooMany_BadKey ?kk_TooMany_BadSize ?kk_TooMany_Full ?kk_TooMany_TooMany ?a0 ?l0 ?c0 ?k0 ?a1 ?l1 ?c1 ?k1 ?a2 ?l2 ?c2 ?k2 ?a3 ?l3 ?c3 ?k3 ?a4 ?l4 ?c4 ?k4 ?a5 ?l5 ?c5 ?k5 ?a6 ?l6 ?c6 ?k6 ?a7 ?l7 ?c7 ?k7 ?a8 ?l8 ?c8 ?k8 ?a9 ?l9 ?c9 ?k9 ?a10 ?l10 ?c10 ?k10 ?a11 ?l11 ?c11 ?k11 ?a12 ?l12 ?c12 ?k12 ?a13 ?l13 ?c13 ?k13 ?a14 ?l14 ?c14 ?k14 ?a15 ?l15 ?c15 ?k15 ?a16 ?l16 ?c16 ?k16 ?a17 ?l17 ?c17 ?k17 ?a18 ?l18 ?c18 ?k18 ?a19 ?l19 ?c19 ?k19 ?a20 ?l20 ?c20 ?k20 ?a21 ?l21 ?c21 ?k21 ?v_LEAST_SIZE ?v_MOST_SCATTERINGS ?v_MOST_SIZE ?b_ValueError ?b_abs ?b_bool ?b_enumerate ?b_int ?b_isinstance ?b_len ?b_max ?b_min ?b_range ?b_sum
    (case n_BadKey => k_is)
    (case kc_BadKey => k_is)
    (case xc_BadKey => k_exc)
    (case bc_BadKey => k_is)
    (case tc_BadKey => k_is)
    (case n_BadRule => k_is)
    (case kc_BadRule => k_is)
    (case xc_BadRule => k_exc)
    (case bc_BadRule => k_is)
    (case tc_BadRule => k_is)
    (case n_BadSize => k_is)
    (case kc_BadSize => k_is)
    (case xc_BadSize => k_exc)
    (case bc_BadSize => k_is)
    (case tc_BadSize => k_is)
    (case n_Full => k_is)
    (case kc_Full => k_is)
    (case xc_Full => k_exc)
    (case bc_Full => k_is)
    (case tc_Full => k_is)
    (case n_StrewError => k_is)
    (case kc_StrewError => k_is)
    (case xc_StrewError => k_exc)
    (case bc_StrewError => k_is)
    (case tc_StrewError => k_is)
    (case n_TooMany => k_is)
    (case kc_TooMany => k_is)
    (case xc_TooMany => k_exc)
    (case bc_TooMany => k_is)
    (case tc_TooMany => k_is)
    (case hd_StrewError => k_is)
    (case wn => k_is)
    (case wt => k_is)
    (case hg_BadRule => k_is)
    (case hk_BadRule => k_is)
    (case hd_BadRule => k_is)
    (case ha_BadRule => k_is)
    (case hm_BadRule => k_is)
    (case kv_BadRule => k_is)
    (case ex_BadRule => k_is)
    (case kk_BadRule_BadRule => k_is)
    (case kk_BadRule_BadKey => k_is)
    (case kk_BadRule_BadSize => k_is)
    (case kk_BadRule_Full => k_is)
    (case kk_BadRule_TooMany => k_is)
    (case hg_BadKey => k_is)
    (case hk_BadKey => k_is)
    (case hd_BadKey => k_is)
    (case ha_BadKey => k_is)
    (case hm_BadKey => k_is)
    (case kv_BadKey => k_is)
    (case ex_BadKey => k_is)
    (case kk_BadKey_BadRule => k_is)
    (case kk_BadKey_BadKey => k_is)
    (case kk_BadKey_BadSize => k_is)
    (case kk_BadKey_Full => k_is)
    (case kk_BadKey_TooMany => k_is)
    (case hg_BadSize => k_is)
    (case hk_BadSize => k_is)
    (case hd_BadSize => k_is)
    (case ha_BadSize => k_is)
    (case hm_BadSize => k_is)
    (case kv_BadSize => k_is)
    (case ex_BadSize => k_is)
    (case kk_BadSize_BadRule => k_is)
    (case kk_BadSize_BadKey => k_is)
    (case kk_BadSize_BadSize => k_is)
    (case kk_BadSize_Full => k_is)
    (case kk_BadSize_TooMany => k_is)
    (case hg_Full => k_is)
    (case hk_Full => k_is)
    (case hd_Full => k_is)
    (case ha_Full => k_is)
    (case hm_Full => k_is)
    (case kv_Full => k_is)
    (case ex_Full => k_is)
    (case kk_Full_BadRule => k_is)
    (case kk_Full_BadKey => k_is)
    (case kk_Full_BadSize => k_is)
    (case kk_Full_Full => k_is)
    (case kk_Full_TooMany => k_is)
    (case hg_TooMany => k_is)
    (case hk_TooMany => k_is)
    (case hd_TooMany => k_is)
    (case ha_TooMany => k_is)
    (case hm_TooMany => k_is)
    (case kv_TooMany => k_is)
    (case ex_TooMany => k_is)
    (case kk_TooMany_BadRule => k_is)
    (case kk_TooMany_BadKey => k_is)
    (case kk_TooMany_BadSize => k_is)
    (case kk_TooMany_Full => k_is)
    (case kk_TooMany_TooMany => k_is)
    (case a0 => k_is)
    (case l0 => k_is)
    (case c0 => k_is)
    (case k0 => k_is)
    (case a1 => k_is)
    (case l1 => k_is)
    (case c1 => k_is)
    (case k1 => k_is)
    (case a2 => k_is)
    (case l2 => k_is)
    (case c2 => k_is)
    (case k2 => k_is)
    (case a3 => k_is)
    (case l3 => k_is)
    (case c3 => k_is)
    (case k3 => k_is)
    (case a4 => k_is)
    (case l4 => k_is)
    (case c4 => k_is)
    (case k4 => k_is)
    (case a5 => k_is)
    (case l5 => k_is)
    (case c5 => k_is)
    (case k5 => k_is)
    (case a6 => k_is)
    (case l6 => k_is)
    (case c6 => k_is)
    (case k6 => k_is)
    (case a7 => k_is)
    (case l7 => k_is)
    (case c7 => k_is)
    (case k7 => k_is)
    (case a8 => k_is)
    (case l8 => k_is)
    (case c8 => k_is)
    (case k8 => k_is)
    (case a9 => k_is)
    (case l9 => k_is)
    (case c9 => k_is)
    (case k9 => k_is)
    (case a10 => k_is)
    (case l10 => k_is)
    (case c10 => k_is)
    (case k10 => k_is)
    (case a11 => k_is)
    (case l11 => k_is)
    (case c11 => k_is)
    (case k11 => k_is)
    (case a12 => k_is)
    (case l12 => k_is)
    (case c12 => k_is)
    (case k12 => k_is)
    (case a13 => k_is)
    (case l13 => k_is)
    (case c13 => k_is)
    (case k13 => k_is)
    (case a14 => k_is)
    (case l14 => k_is)
    (case c14 => k_is)
    (case k14 => k_is)
    (case a15 => k_is)
    (case l15 => k_is)
    (case c15 => k_is)
    (case k15 => k_is)
    (case a16 => k_is)
    (case l16 => k_is)
    (case c16 => k_is)
    (case k16 => k_is)
    (case a17 => k_is)
    (case l17 => k_is)
    (case c17 => k_is)
    (case k17 => k_is)
    (case a18 => k_is)
    (case l18 => k_is)
    (case c18 => k_is)
    (case k18 => k_is)
    (case a19 => k_is)
    (case l19 => k_is)
    (case c19 => k_is)
    (case k19 => k_is)
    (case a20 => k_is)
    (case l20 => k_is)
    (case c20 => k_is)
    (case k20 => k_is)
    (case a21 => k_is)
    (case l21 => k_is)
    (case c21 => k_is)
    (case k21 => k_is)
    (case v_LEAST_SIZE => k_is)
    (case v_MOST_SCATTERINGS => k_is)
    (case v_MOST_SIZE => k_is)
    (case b_ValueError => k_is)
    (case b_abs => k_is)
    (case b_bool => k_is)
    (case b_enumerate => k_is)
    (case b_int => k_is)
    (case b_isinstance => k_is)
    (case b_len => k_is)
    (case b_max => k_is)
    (case b_min => k_is)
    (case b_range => k_is)
    (case b_sum => k_is)
