import PyProof.Rows.All
import Wide.All
import OpenK.AllK
import Wide.FinOn
import HandS.ForExc
import HandS.Comp
import HandS.Iter
import HandS.Zip
import HandS.Wide
import HandS.SortInts
import HandS.IsInst
import HandS.EndBits
import HandS.Style
import HandS.TupMul
import HandS.TupAny
import HandS.Flow
import PySem.Challenge.RW_strewn_k41_whole_averages
set_option Elab.async false
set_option linter.all false
set_option maxRecDepth 100000
set_option maxHeartbeats 4000000
set_option exponentiation.threshold 5000
/-! Lg: a small logic over the readings: what is known of the heap is a part of it, and every continuation is kept by extension. -/
namespace Lg
open PySem PySem.Spec PyProof.Rows L2
abbrev Sg := List (Option V)
def Ex (H H' : Hp) : Prop := ∀ a o, H a = some o → H' a = some o
theorem Ex.rf {H : Hp} : Ex H H := fun _ _ h => h
theorem Ex.tr {H H1 H2 : Hp} (a : Ex H H1) (b : Ex H1 H2) : Ex H H2 := fun x o h => b x o (a x o h)
theorem Ex.fresh {H H' : Hp} (e : Ex H H') {p : Addr} (h : H' p = none) : H p = none := by
  cases q : H p with
  | none => rfl
  | some o =>
    have z := e p o q
    rw [h] at z
    cases z
theorem Ex.ups {H H' : Hp} (e : Ex H H') (p : Addr) (o : HO) : Ex (upd H p o) (upd H' p o) := fun a u h => by
  by_cases q : a = p
  · subst q
    rw [upd_same] at h ⊢
    exact h
  · rw [upd_ne q] at h ⊢
    exact e a u h
theorem Ex.news {H : Hp} {p : Addr} {o : HO} (h : H p = none) : Ex H (L2.upd H p o) := fun a u e => by
  rw [upd_ne (ne_of_none e h)]
  exact e
theorem Ex.newr {H H' : Hp} {p : Addr} {o : HO} (e : Ex H H') (h : H' p = none) : Ex H (L2.upd H' p o) := e.tr (Ex.news h)
/-- what H does not know may be changed -/
theorem Ex.mutr {H H' : Hp} {p : Addr} {o : HO} (e : Ex H H') (h : H p = none) : Ex H (L2.upd H' p o) := fun a u ha => by
  rw [upd_ne (ne_of_none ha h)]
  exact e a u ha
theorem Ex.get {H H' : Hp} (e : Ex H H') {a : Addr} {o : HO} (h : H a = some o) : H' a = some o := e a o h
theorem rd_ex {H H' : Hp} (e : Ex H H') {a : Addr} {o : HO} (h : Rd H a o) : Rd H' a o := by
  rcases h with h | ⟨u, h⟩
  · exact .inl (e _ _ h)
  · exact .inr ⟨u, e _ _ h⟩
theorem Ex.sl {K : PySem.W.Frag} {H H' : Hp} (e : Ex H H') {a : Addr} {xs : List V} (h : SqL K H a xs) : SqL K H' a xs := by
  rcases h with h | h
  · exact .inl (rd_ex e h)
  · exact .inr h
theorem Ex.st {K : PySem.W.Frag} {H H' : Hp} (e : Ex H H') {a : Addr} {xs : List V} (h : SqT K H a xs) : SqT K H' a xs := by
  rcases h with h | h
  · exact .inl (rd_ex e h)
  · exact .inr h

abbrev PV := V → Hp → Prop
abbrev PS' := Sg → Hp → Prop
/-! ### the judgements -/
def kE (te : TE) (σ : Sg) (H : Hp) (Q : PV) : Prop := ∀ H1, Ex H H1 → ∀ Q1 : VK, (∀ v H0 H2, Q v H0 → Ex H0 H2 → Q1 v H2) → te σ H1 Q1
def kT (tt : TT) (σ : Sg) (H : Hp) (Q : Bool → Hp → Prop) : Prop := ∀ H1, Ex H H1 → ∀ Q1 : Bool → Hp → Prop, (∀ v H0 H2, Q v H0 → Ex H0 H2 → Q1 v H2) → tt σ H1 Q1
def kA (ta : TA) (σ : Sg) (H : Hp) (Q : List V → Hp → Prop) : Prop := ∀ H1, Ex H H1 → ∀ Q1 : List V → Hp → Prop, (∀ v H0 H2, Q v H0 → Ex H0 H2 → Q1 v H2) → ta σ H1 Q1
def kO (to : TO) (σ : Sg) (H : Hp) (Q : Option Int → Hp → Prop) : Prop := ∀ H1, Ex H H1 → ∀ Q1 : Option Int → Hp → Prop, (∀ v H0 H2, Q v H0 → Ex H0 H2 → Q1 v H2) → to σ H1 Q1
def kR (r : R2) (x y : V) (H : Hp) (Q : PV) : Prop := ∀ H1, Ex H H1 → ∀ Q1 : VK, (∀ v H0 H2, Q v H0 → Ex H0 H2 → Q1 v H2) → r x y H1 Q1
def kU (r : V → Hp → VK → Prop) (x : V) (H : Hp) (Q : PV) : Prop := ∀ H1, Ex H H1 → ∀ Q1 : VK, (∀ v H0 H2, Q v H0 → Ex H0 H2 → Q1 v H2) → r x H1 Q1
def kC (r : List V → Hp → VK → Prop) (vs : List V) (H : Hp) (Q : PV) : Prop := ∀ H1, Ex H H1 → ∀ Q1 : VK, (∀ v H0 H2, Q v H0 → Ex H0 H2 → Q1 v H2) → r vs H1 Q1
def kM (r : V → List V → Hp → VK → Prop) (x : V) (vs : List V) (H : Hp) (Q : PV) : Prop := ∀ H1, Ex H H1 → ∀ Q1 : VK, (∀ v H0 H2, Q v H0 → Ex H0 H2 → Q1 v H2) → r x vs H1 Q1
def kG (g : TG) (v : V) (σ : Sg) (H : Hp) (Q : PS') : Prop := ∀ H1, Ex H H1 → ∀ Q1 : PS', (∀ v H0 H2, Q v H0 → Ex H0 H2 → Q1 v H2) → g v σ H1 Q1
def kGs (g : TGs) (vs : List V) (σ : Sg) (H : Hp) (Q : PS') : Prop := ∀ H1, Ex H H1 → ∀ Q1 : PS', (∀ v H0 H2, Q v H0 → Ex H0 H2 → Q1 v H2) → g vs σ H1 Q1
def kS (ts : TS) (N : PS') (R : PV) (B C : PS') (σ : Sg) (H : Hp) : Prop := ∀ H1, Ex H H1 → ∀ D : Ends, (∀ s H0 H2, N s H0 → Ex H0 H2 → D.nx s H2) → (∀ v H0 H2, R v H0 → Ex H0 H2 → D.rt v H2) →
  (∀ s H0 H2, B s H0 → Ex H0 H2 → D.bk s H2) → (∀ s H0 H2, C s H0 → Ex H0 H2 → D.ct s H2) → ts D σ H1
/-- wanted of every extension -/
def upR (Q : VK) : PV := fun v H0 => ∀ H2, Ex H0 H2 → Q v H2
abbrev noS : PS' := fun _ _ => False
theorem fin {ts : TS} {Q : VK} {σ : Sg} {H : Hp} (h : kS ts (fun _ H0 => upR Q .non H0) (upR Q) noS noS σ H) : ts { nx := fun _ H' => Q .non H', rt := Q } σ H :=
  h H Ex.rf _ (fun _ _ _ r e => r _ e) (fun _ _ _ r e => r _ e) (fun _ _ _ r _ => r.elim) (fun _ _ _ r _ => r.elim)

variable {K : PySem.W.Frag} {σ σ' : Sg} {H H' : Hp} {ta tb tc te : TE} {tt tu : TT} {t u : TA} {Q : PV} {QB : Bool → Hp → Prop} {QA : List V → Hp → Prop} {N B C : PS'} {R : PV} {ts us : TS} {x y v : V} {i j : Int} {r r' : R2} {g : TG} {gs : TGs}
/-! ### expressions -/
theorem e_var {n : Nat} (h : σ[n]? = some (some v)) (k : Q v H) : kE (tVar n) σ H Q := fun H1 e _ q => ⟨v, h, q v H H1 k e⟩
theorem e_c (k : Q v H) : kE (tC v) σ H Q := fun H1 e _ q => q v H H1 k e
theorem e_op (k : kE ta σ H fun x H1 => kE tb σ H1 fun y H2 => kR r x y H2 Q) : kE (tOp r ta tb) σ H Q := fun H1 e _ q =>
  k H1 e _ fun _ _ H2 hx e2 => hx H2 e2 _ fun _ _ H3 hy e3 => hy H3 e3 _ q
theorem e_un {r : V → Hp → VK → Prop} (k : kE ta σ H fun x H1 => kU r x H1 Q) : kE (tUn r ta) σ H Q := fun H1 e _ q => k H1 e _ fun _ _ H2 hx e2 => hx H2 e2 _ q
theorem e_cb {r : List V → Hp → VK → Prop} (k : kA t σ H fun vs H1 => kC r vs H1 Q) : kE (tCB r t) σ H Q := fun H1 e _ q => k H1 e _ fun _ _ H2 hx e2 => hx H2 e2 _ q
theorem e_call {sp : Sp} {E : XK} (k : kA t σ H fun vs H1 => kC (fun ws H Q => sp ws H Q E) vs H1 Q) : kE (tCall sp [] E t) σ H Q := fun H1 e _ q => k H1 e _ fun vs _ H2 hx e2 => by
  rw [List.append_nil]
  exact hx H2 e2 _ q
theorem e_callS {sp : Sp} {E : Sg → XK} (k : kA t σ H fun vs H1 => kC (fun ws H Q => sp ws H Q (E σ)) vs H1 Q) : kE (tCallS sp E t) σ H Q := fun H1 e _ q => k H1 e _ fun _ _ H2 hx e2 => hx H2 e2 _ q
theorem a_nil (k : QA [] H) : kA tNil σ H QA := fun H1 e _ q => q [] H H1 k e
theorem a_cons (k : kE ta σ H fun x H1 => kA t σ H1 fun xs H2 => QA (x :: xs) H2) : kA (tCons ta t) σ H QA := fun H1 e _ q => k H1 e _ fun _ _ H2 hx e2 => hx H2 e2 _ fun _ H0 H3 hy e3 => q _ H0 H3 hy e3
theorem e_tup (k : kA t σ H fun xs H1 => xs.length ≤ sizeLine ∧ ∀ p, H1 p = none → Q (.ref p) (upd H1 p (.tup xs))) : kE (tTup t) σ H Q := fun H1 e _ q => k H1 e _ fun _ _ H2 hx e2 =>
  ⟨hx.1, fun p hp => q _ _ _ (hx.2 p (e2.fresh hp)) (e2.ups p _)⟩
theorem e_lst (k : kA t σ H fun xs H1 => xs.length ≤ sizeLine ∧ ∀ p, H1 p = none → Q (.ref p) (upd H1 p (.lst xs))) : kE (tLst t) σ H Q := fun H1 e _ q => k H1 e _ fun _ _ H2 hx e2 =>
  ⟨hx.1, fun p hp => q _ _ _ (hx.2 p (e2.fresh hp)) (e2.ups p _)⟩
theorem e_if (k : kT tt σ H fun b H1 => (b = true → kE ta σ H1 Q) ∧ (b = false → kE tb σ H1 Q)) : kE (tIf tt ta tb) σ H Q := fun H1 e Q1 q => k H1 e _ fun b _ H2 hx e2 => by
  cases b with
  | true =>
    show ta σ H2 Q1
    exact hx.1 rfl H2 e2 _ q
  | false =>
    show tb σ H2 Q1
    exact hx.2 rfl H2 e2 _ q
theorem e_andV (k : kE ta σ H fun x H1 => ∃ b, x = .bl b ∧ (b = true → kE tb σ H1 Q) ∧ (b = false → Q (.bl false) H1)) : kE (tAndV ta tb) σ H Q := fun H1 e Q1 q => k H1 e _ fun x H0 H2 hx e2 => by
  obtain ⟨b, eb, h1, h2⟩ := hx
  refine ⟨b, eb, ?_⟩
  cases b with
  | true =>
    show tb σ H2 Q1
    exact h1 rfl H2 e2 _ q
  | false =>
    show Q1 (.bl false) H2
    exact q _ _ _ (h2 rfl) e2
theorem e_orV (k : kE ta σ H fun x H1 => ∃ b, x = .bl b ∧ (b = true → Q (.bl true) H1) ∧ (b = false → kE tb σ H1 Q)) : kE (tOrV ta tb) σ H Q := fun H1 e Q1 q => k H1 e _ fun x H0 H2 hx e2 => by
  obtain ⟨b, eb, h1, h2⟩ := hx
  refine ⟨b, eb, ?_⟩
  cases b with
  | true =>
    show Q1 (.bl true) H2
    exact q _ _ _ (h1 rfl) e2
  | false =>
    show tb σ H2 Q1
    exact h2 rfl H2 e2 _ q
theorem e_notV (k : kE ta σ H fun x H1 => ∃ b, x = .bl b ∧ Q (.bl (!b)) H1) : kE (tNotV ta) σ H Q := fun H1 e Q1 q => k H1 e _ fun x H0 H2 hx e2 => by
  obtain ⟨b, eb, h1⟩ := hx
  exact ⟨b, eb, q _ _ _ h1 e2⟩
theorem e_chain (k : kE ta σ H fun x H1 => kE tb σ H1 fun y H2 => kR r x y H2 fun z H3 => ∃ b, z = .bl b ∧ (b = true → kE tc σ H3 fun w H4 => kR r' y w H4 Q) ∧ (b = false → Q (.bl false) H3)) : kE (tChain r r' ta tb tc) σ H Q := fun H1 e Q1 q =>
  k H1 e _ fun x _ H2 hx e2 => hx H2 e2 _ fun y _ H3 hy e3 => hy H3 e3 _ fun z _ H4 hz e4 => by
    obtain ⟨b, eb, h1, h2⟩ := hz
    refine ⟨b, eb, ?_⟩
    cases b with
    | true =>
      show tc σ H4 fun w H5 => r' y w H5 Q1
      exact h1 rfl H4 e4 _ fun w _ H5 hw e5 => hw H5 e5 _ q
    | false =>
      show Q1 (.bl false) H4
      exact q _ _ _ (h2 rfl) e4
/-! ### tests -/
theorem t_test (k : kE te σ H fun x H1 => ∃ b, x = .bl b ∧ QB b H1) : kT (tTest te) σ H QB := fun H1 e _ q => k H1 e _ fun _ H0 H2 ⟨b, eb, hb⟩ e2 => ⟨b, eb, q b H0 H2 hb e2⟩
theorem t_B (k : kE te σ H fun x H1 => ∃ b, x = .bl b ∧ QB b H1) : kT (tB te) σ H QB := fun H1 e _ q => k H1 e _ fun _ H0 H2 ⟨b, eb, hb⟩ e2 => ⟨b, eb, q b H0 H2 hb e2⟩
theorem t_not (k : kT tt σ H fun b H1 => QB (!b) H1) : kT (tNot tt) σ H QB := fun H1 e _ q => k H1 e _ fun b H0 H2 hb e2 => q _ H0 H2 hb e2
theorem t_and (k : kT tt σ H fun b H1 => (b = true → kT tu σ H1 QB) ∧ (b = false → QB false H1)) : kT (tAnd tt tu) σ H QB := fun H1 e Q1 q => k H1 e _ fun b H0 H2 hb e2 => by
  cases b with
  | true =>
    show tu σ H2 Q1
    exact hb.1 rfl H2 e2 _ q
  | false =>
    show Q1 false H2
    exact q _ _ _ (hb.2 rfl) e2
theorem t_or (k : kT tt σ H fun b H1 => (b = true → QB true H1) ∧ (b = false → kT tu σ H1 QB)) : kT (tOr tt tu) σ H QB := fun H1 e Q1 q => k H1 e _ fun b H0 H2 hb e2 => by
  cases b with
  | true =>
    show Q1 true H2
    exact q _ _ _ (hb.1 rfl) e2
  | false =>
    show tu σ H2 Q1
    exact hb.2 rfl H2 e2 _ q
/-! ### operators -/
theorem r_I0 {f : Int → Int → V} (k : Q (f i j) H) : kR (rI0 f) (.int i) (.int j) H Q := fun H1 e _ q => ⟨i, j, rfl, rfl, q _ _ _ k e⟩
theorem r_I {c : Int → Int → Prop} {f : Int → Int → V} (hc : c i j) (k : Q (f i j) H) : kR (rI c f) (.int i) (.int j) H Q := fun H1 e _ q => ⟨i, j, rfl, rfl, hc, q _ _ _ k e⟩
theorem r_eq (h : scal x y = true) (k : Q (.bl (decide (x = y))) H) : kR rEq x y H Q := fun H1 e _ q => ⟨h, q _ _ _ k e⟩
theorem r_ne (h : scal x y = true) (k : Q (.bl (!decide (x = y))) H) : kR rNe x y H Q := fun H1 e _ q => ⟨h, q _ _ _ k e⟩
theorem dInt : decide (V.int i = V.int j) = decide (i = j) := by
  rw [Bool.eq_iff_iff]
  simp
theorem r_eqI (k : Q (.bl (decide (i = j))) H) : kR rEq (.int i) (.int j) H Q := r_eq rfl (by rw [dInt]; exact k)
theorem r_neI (k : Q (.bl (!decide (i = j))) H) : kR rNe (.int i) (.int j) H Q := r_ne rfl (by rw [dInt]; exact k)
theorem r_ixL {p : Addr} {xs : List V} (h : SqL K H p xs) (ha : atI xs i = some v) (k : Q v H) : kR (rIxL K) (.ref p) (.int i) H Q := fun H1 e _ q => ⟨p, xs, i, v, rfl, rfl, e.sl h, ha, q _ _ _ k e⟩
theorem r_ixT {p : Addr} {xs : List V} (h : SqT K H p xs) (ha : atI xs i = some v) (k : Q v H) : kR (rIxT K) (.ref p) (.int i) H Q := fun H1 e _ q => ⟨p, xs, i, v, rfl, rfl, e.st h, ha, q _ _ _ k e⟩
theorem u_U {f : Int → V} (k : Q (f i) H) : kU (rU f) (.int i) H Q := fun H1 e _ q => ⟨i, rfl, q _ _ _ k e⟩
/-! ### statements -/
theorem s_next (k : N σ H) : kS tNext N R B C σ H := fun H1 e D hn _ _ _ => hn _ _ _ k e
theorem s_seq (k : kS ts (fun s H1 => kS us N R B C s H1) R B C σ H) : kS (tSeq ts us) N R B C σ H := fun H1 e D hn hr hb hc => k H1 e { D with nx := us D } (fun s H0 H2 h e2 => h H2 e2 D hn hr hb hc) hr hb hc
theorem s_asg {n : Nat} (k : kE te σ H fun v H1 => N (σ.set n (some v)) H1) : kS (tAsg te (gName n)) N R B C σ H := fun H1 e D hn _ _ _ => k H1 e _ fun v H0 H2 h e2 => hn _ _ _ h e2
theorem s_asgG (k : kE te σ H fun v H1 => kG g v σ H1 N) : kS (tAsg te g) N R B C σ H := fun H1 e D hn _ _ _ => k H1 e _ fun v H0 H2 h e2 => h H2 e2 _ hn
theorem s_ret (k : kE te σ H R) : kS (tRet te) N R B C σ H := fun H1 e D _ hr _ _ => k H1 e _ hr
theorem s_drop (k : kE te σ H fun _ H1 => N σ H1) : kS (tDrop te) N R B C σ H := fun H1 e D hn _ _ _ => k H1 e _ fun _ H0 H2 h e2 => hn _ _ _ h e2
theorem s_if (k : kT tt σ H fun b H1 => (b = true → kS ts N R B C σ H1) ∧ (b = false → kS us N R B C σ H1)) : kS (tIfS tt ts us) N R B C σ H := fun H1 e D hn hr hb hc => k H1 e _ fun b H0 H2 h e2 => by
  cases b with
  | true =>
    show ts D σ H2
    exact h.1 rfl H2 e2 D hn hr hb hc
  | false =>
    show us D σ H2
    exact h.2 rfl H2 e2 D hn hr hb hc
theorem s_brk (k : B σ H) : kS tBreak N R B C σ H := fun H1 e D _ _ hb _ => hb _ _ _ k e
theorem s_cont (k : C σ H) : kS tCont N R B C σ H := fun H1 e D _ _ _ hc => hc _ _ _ k e
theorem s_par {m n : Nat} (k : kA t σ H fun vs H1 => ∃ v w, vs = [v, w] ∧ N ((σ.set m (some v)).set n (some w)) H1) : kS (tPar m n t) N R B C σ H := fun H1 e D hn _ _ _ => k H1 e _ fun vs H0 H2 ⟨v, w, ev, h⟩ e2 => ⟨v, w, ev, hn _ _ _ h e2⟩
def tRaise (E : XK) (c : Addr) : TS := fun _ σ H => E (.ref c) none H
theorem s_raise {E : XK} {c : Addr} (k : ∀ H1, Ex H H1 → E (.ref c) none H1) : kS (tRaise E c) N R B C σ H := fun H1 e _ _ _ _ _ => k H1 e
/-- a while by an invariant and a measure of it -/
theorem s_while (W : Nat → PS') (m : Nat) (h0 : W m σ H)
    (hs : ∀ m s H1, W m s H1 → kT tt s H1 fun b H2 => (b = true → kS ts (fun s' H3 => ∃ m' H4, m' < m ∧ W m' s' H4 ∧ Ex H4 H3) R N (fun s' H3 => ∃ m' H4, m' < m ∧ W m' s' H4 ∧ Ex H4 H3) s H2) ∧ (b = false → N s H2)) : kS (tWhile tt ts) N R B C σ H := fun H1 e D hn hr hb hc =>
  ⟨fun m s H2 => ∃ H0, W m s H0 ∧ Ex H0 H2, ⟨m, H, h0, e⟩, fun m s H2 ⟨H0, w, e0⟩ => hs m s H0 w H2 e0 _ fun b H3 H4 h e4 => by
    cases b with
    | true =>
      show ∃ Nx : PS', _
      refine ⟨fun s' H5 => ∃ m' H6, m' < m ∧ W m' s' H6 ∧ Ex H6 H5, fun s' H5 ⟨m', H6, l, w', e6⟩ => ⟨m', l, H6, w', e6⟩, ?_⟩
      exact h.1 rfl H4 e4 _ (fun s' H5 H7 ⟨m', H6, l, w', e6⟩ e7 => ⟨m', H6, l, w', e6.tr e7⟩) hr hn (fun s' H5 H7 ⟨m', H6, l, w', e6⟩ e7 => ⟨m', H6, l, w', e6.tr e7⟩)
    | false =>
      show D.nx s H4
      exact hn _ _ _ (h.2 rfl) e4⟩
abbrev nxt (W : Nat → PS') (n : Nat) : PS' := fun s H => ∃ H0, W n s H0 ∧ Ex H0 H
theorem nxt_up {W : Nat → PS'} {n : Nat} : ∀ s H0 H2, nxt W n s H0 → Ex H0 H2 → nxt W n s H2 := fun _ _ _ ⟨H1, w, e1⟩ e => ⟨H1, w, e1.tr e⟩
/-- for i in range(n) -/
theorem s_for1 (n : Nat) (W : Nat → PS') (k : kA t σ H fun vs H1 => vs = [.int (n : Int)] ∧ n < 2 ^ 61 ∧ W 0 σ H1 ∧ (∀ i s H2, i < n → W i s H2 → kG g (.int (i : Int)) s H2 fun s' H3 => kS ts (nxt W (i + 1)) R N (nxt W (i + 1)) s' H3) ∧ ∀ s H2, W n s H2 → N s H2) :
    kS (tFor (iRng1 t) g ts) N R B C σ H := fun H1 e D hn hr hb hc => k H1 e _ fun vs H0 H2 ⟨ev, hl, h0, hs, hd⟩ e2 => by
  subst ev
  refine ⟨(n : Int), rfl, by omega, by omega, ?_⟩
  have z := for_range (lo := 0) (n := (n : Int).toNat) (g := g) (tb := ts) (D := D) (σ := σ) (H := H2) (nxt W) ⟨H0, h0, e2⟩ (fun i s H3 hi p => ?_) (fun s H3 p => ?_)
  · exact z
  · obtain ⟨H4, w, e4⟩ := p
    have e0 : (0 : Int) + (i : Int) = (i : Int) := Int.zero_add _
    rw [e0]
    exact hs i s H4 (by omega) w H3 e4 _ fun s' H5 H6 q e6 => q H6 e6 _ nxt_up hr hn nxt_up
  · obtain ⟨H4, w, e4⟩ := p
    have e0 : (n : Int).toNat = n := by omega
    rw [e0] at w
    exact hn _ _ _ (hd s H4 w) e4
theorem g_name {n : Nat} {QS : PS'} (k : QS (σ.set n (some v)) H) : kG (gName n) v σ H QS := fun H1 e _ q => q _ _ _ k e
theorem g_tup {n : Nat} {p : Addr} {xs : List V} {QS : PS'} (h : SqT K H p xs) (hl : xs.length = n) (k : kGs gs xs σ H QS) : kG (gTup K n gs) (.ref p) σ H QS := fun H1 e _ q => ⟨p, xs, rfl, e.st h, hl, k H1 e _ q⟩
theorem g_nil {QS : PS'} (k : QS σ H) : kGs gNil [] σ H QS := fun H1 e _ q => ⟨rfl, q _ _ _ k e⟩
theorem g_cons {xs : List V} {QS : PS'} (k : kG g v σ H fun s H1 => kGs gs xs s H1 QS) : kGs (gCons g gs) (v :: xs) σ H QS := fun H1 e _ q => ⟨v, xs, rfl, k H1 e _ fun s H0 H2 h e2 => h H2 e2 _ q⟩
/-! ### facts of heaps in steps -/
theorem st_new {p a : Addr} {o : HO} {xs : List V} (hn : H p = none) (h : SqT K H a xs) : SqT K (upd H p o) a xs := (Ex.news hn).st h
theorem sl_new {p a : Addr} {o : HO} {xs : List V} (hn : H p = none) (h : SqL K H a xs) : SqL K (upd H p o) a xs := (Ex.news hn).sl h
theorem at_new {p a : Addr} {o u : HO} (hn : H p = none) (h : H a = some u) : upd H p o a = some u := (Ex.news hn).get h
theorem szl {n : Nat} (h : n ≤ 1000) : n ≤ sizeLine := Nat.le_trans h (by decide)
/-! ### built-in calls -/
theorem c_abs (k : Q (.int (if i < 0 then -i else i)) H) : kC (fun xs H Q => ∃ i, xs = [V.int i] ∧ Q (.int (if i < 0 then -i else i)) H) [.int i] H Q := fun H1 e _ q => ⟨i, rfl, q _ _ _ k e⟩
theorem c_max2 (k : Q (.int (if j > i then j else i)) H) : kC (fun xs H Q => ∃ i j, xs = [V.int i, .int j] ∧ Q (.int (if j > i then j else i)) H) [.int i, .int j] H Q := fun H1 e _ q => ⟨i, j, rfl, q _ _ _ k e⟩
theorem c_min2 (k : Q (.int (if j < i then j else i)) H) : kC (fun xs H Q => ∃ i j, xs = [V.int i, .int j] ∧ Q (.int (if j < i then j else i)) H) [.int i, .int j] H Q := fun H1 e _ q => ⟨i, j, rfl, q _ _ _ k e⟩
theorem c_lenL {p : Addr} {ys : List V} (h : SqL K H p ys) (k : Q (.int ys.length) H) : kC (fun xs H Q => ∃ p ys, xs = [V.ref p] ∧ (SqL K H p ys ∨ SqT K H p ys) ∧ Q (.int ys.length) H) [.ref p] H Q := fun H1 e _ q => ⟨p, ys, rfl, .inl (e.sl h), q _ _ _ k e⟩
theorem c_lenT {p : Addr} {ys : List V} (h : SqT K H p ys) (k : Q (.int ys.length) H) : kC (fun xs H Q => ∃ p ys, xs = [V.ref p] ∧ (SqL K H p ys ∨ SqT K H p ys) ∧ Q (.int ys.length) H) [.ref p] H Q := fun H1 e _ q => ⟨p, ys, rfl, .inr (e.st h), q _ _ _ k e⟩

/-! ### types -/
inductive Ty5 (K : PySem.W.Frag) (H : Hp) : V → String → Prop where
  | int (i : Int) : Ty5 K H (.int i) "int"
  | bl (b : Bool) : Ty5 K H (.bl b) "bool"
  | non : Ty5 K H .non "NoneType"
  | str (z : Str) : Ty5 K H (.str z) "str"
  | lst {a : Addr} {xs : List V} (h : H a = some (.lst xs)) : Ty5 K H (.ref a) "list"
  | tup {a : Addr} {xs : List V} (h : H a = some (.tup xs)) : Ty5 K H (.ref a) "tuple"
theorem Ty5.up {x : V} {T : String} (h : Ty5 K H x T) (e : Ex H H') : Ty5 K H' x T := by
  cases h with
  | int i => exact .int i
  | bl b => exact .bl b
  | non => exact .non
  | str z => exact .str z
  | lst h => exact .lst (e _ _ h)
  | tup h => exact .tup (e _ _ h)
theorem Ty5.tyx {x : V} {T : String} (h : Ty5 K H x T) : TyX K H x (.type T) := by
  cases h with
  | int i => exact .base (.int i)
  | bl b => exact .base (.bl b)
  | non => exact .base .non
  | str z => exact .base (.str z)
  | lst h => exact .base (.lst h)
  | tup h => exact .base (.tup h)
theorem c_isi {T T' : String} {b : Bool} (h : Ty5 K H x T) (hb : kitB T T' = some b) (k : Q (.bl b) H) : kC (rIsi K) [x, .ty T'] H Q := fun H1 e _ q => ⟨x, .ty T', .type T, .type T', b, rfl, .ty T', (h.up e).tyx, kit_ty hb, q _ _ _ k e⟩
/-! ### what a caller knows of a def -/
def Cal (P : Program) (w : World) (K : PySem.W.Frag) (mg : Str → Option Value) (base : Heap) (CX : CXT) (k : Nat) (x : Str) (ps : List Str) (sp : Sp) : Prop :=
  ∃ f fd, FnOk P w K mg base CX k f fd ps sp ∧ mg x = some (.ref f) ∧ PySem.W.keepIn K (.ref f) = true ∧ Binds K fd ps []
def Dn (K : PySem.W.Frag) (mg : Str → Option Value) (x : Str) (st : Stmt) (ps : List Str) : Prop := ∃ f fd, Fun K x x st f fd ∧ mg x = some (.ref f) ∧ Binds K fd ps []
section
variable {P : Program} {w : World} {mg : Str → Option Value} {base : Heap} {CX : CXT} {k k' : Nat} {st : Stmt} {ps Ns : List Str} {sp : Sp} {X : Cx} {E : XK} {z : Str} {p pos : Pos} {e : Expr} {es : List Expr}
theorem pe_cal (c : Cal X.prog X.w X.K X.mg X.base CX k z ps sp) (hr : Room k' X.A) (hk : k ≤ k') (hg : Gl X z) (hx : Passes CX X E) (ha : PA X (e :: es) t) (hdb : (z == ("__debug__" : Str)) = false := by decide)
    (he : starEach (e :: es) X.env = (false, eval e X.env) :: starEach es X.env := by rfl) (hpl : (backTo pos (starEach es X.env)).any (·.1) = false := by rfl) : PE X (.Call (.Name z p) (e :: es) [] pos) (tCall sp [] E t) := by
  obtain ⟨f, fd, F, hm, hkp, hb⟩ := c
  exact pe_call F (hr.mono hk) hg hm hkp hb .nil hx ha hdb he hpl
theorem pe_gI {n : Int} (hg : Gl X z) (hm : ∃ t, X.mg z = some (.int n t)) (hd : (z == ("__debug__" : Str)) = false := by decide) : PE X (.Name z p) (tC (.int n)) := by
  obtain ⟨t, hm⟩ := hm
  exact pe_glob hg hm ⟨t, rfl⟩ hd
/-- a def, by its reading -/
theorem cal_mk (D : Dn K mg z st ps) (S : FnScope Ns ps (defScope st)) (len : ∀ vs H Q E, sp vs H Q E → vs.length = ps.length)
    (hbody : ∀ (f : Addr) (cdv : Value) (A : Around) (outer : List Env) (s : Shared) (H : Hp) (vs : List V) (Q : VK) (E : XK), Room k (A.deeper (envOfC z (defScope st) s.heap.objs.size f cdv)) → sp vs H Q E →
      ∃ t, PSs (cxOf (L2.CX P w) P w K mg base Ns z (defScope st) f cdv A outer s H E) (defBody st) t ∧ t { nx := fun _ H' => Q .non H', rt := Q } (start Ns vs) H) : Cal P w K mg base (L2.CX P w) (k + 1) z ps sp := by
  obtain ⟨f, fd, F, hm, hb⟩ := D
  exact ⟨f, fd, F.okX S len (hbody f), hm, F.kp, hb⟩
/-- an own class of error -/
structure ExcT (K : PySem.W.Frag) (mg : Str → Option Value) (z : Str) (c : Addr) : Prop where
  g : mg z = some (.ref c)
  k : PySem.W.keepIn K (.ref c) = true
  x : PySem.W.excIn K c [.type "ValueError", .type "Exception", .type "BaseException", .type "object"] "ValueError.__new__" = true
  b : PySem.W.subIn K (.ref c) (.type "BaseException") = some true
  t : PySem.W.typeIn K (.ref c) = some (.type "type")
theorem ps_raiseT {c : Addr} {m : Str} {j : Nat} {p2 : Pos} {W : WX} {pos' : Pos} (T : ExcT X.K X.mg z c) (hc : X.calm = true) (tk : Takes X W) (hg : Gl X z) (hdb : (z == ("__debug__" : Str)) = false := by decide) :
    PS X (.Raise (some (.Call (.Name z p) [.Constant (.str m) j p2] [] pos)) none pos') (fun _ σ H => W (.ref c) none σ H) :=
  ps_raise hc tk (pmk_own PySem.F.excBase_ValueError T.x T.g T.k (raises_own T.b T.t) hg hdb)
end
theorem kb_int_int : kitB "int" "int" = some true := by decide +kernel
theorem kb_int_bool : kitB "int" "bool" = some false := by decide +kernel
theorem kb_int_tuple : kitB "int" "tuple" = some false := by decide +kernel
theorem kb_int_list : kitB "int" "list" = some false := by decide +kernel
theorem kb_bool_int : kitB "bool" "int" = some true := by decide +kernel
theorem kb_bool_bool : kitB "bool" "bool" = some true := by decide +kernel
theorem kb_bool_tuple : kitB "bool" "tuple" = some false := by decide +kernel
theorem kb_bool_list : kitB "bool" "list" = some false := by decide +kernel
theorem kb_NoneType_int : kitB "NoneType" "int" = some false := by decide +kernel
theorem kb_NoneType_bool : kitB "NoneType" "bool" = some false := by decide +kernel
theorem kb_NoneType_tuple : kitB "NoneType" "tuple" = some false := by decide +kernel
theorem kb_NoneType_list : kitB "NoneType" "list" = some false := by decide +kernel
theorem kb_str_int : kitB "str" "int" = some false := by decide +kernel
theorem kb_str_bool : kitB "str" "bool" = some false := by decide +kernel
theorem kb_str_tuple : kitB "str" "tuple" = some false := by decide +kernel
theorem kb_str_list : kitB "str" "list" = some false := by decide +kernel
theorem kb_list_int : kitB "list" "int" = some false := by decide +kernel
theorem kb_list_bool : kitB "list" "bool" = some false := by decide +kernel
theorem kb_list_tuple : kitB "list" "tuple" = some false := by decide +kernel
theorem kb_list_list : kitB "list" "list" = some true := by decide +kernel
theorem kb_tuple_int : kitB "tuple" "int" = some false := by decide +kernel
theorem kb_tuple_bool : kitB "tuple" "bool" = some false := by decide +kernel
theorem kb_tuple_tuple : kitB "tuple" "tuple" = some true := by decide +kernel
theorem kb_tuple_list : kitB "tuple" "list" = some false := by decide +kernel
/-- the classes' addresses -/
structure Cs where
  BadRule : Addr
  BadKey : Addr
  BadSize : Addr
  Full : Addr
  TooMany : Addr
  StrewError : Addr
  Ring : Addr
  Row : Addr
  Growing : Addr
theorem upE {Q : VK} {v w : V} {H : Hp} (q : upR Q v H) (e : v = w) : upR Q w H := e ▸ q
theorem upX {Q : VK} {v : V} {H H' : Hp} (q : upR Q v H) (e : Ex H H') : upR Q v H' := fun H2 e2 => q H2 (e.tr e2)
/-- what is counted: an int, or what is none -/
def cnt : V → Int → Int → Bool
  | .int i, lo, hi => decide (lo ≤ i) && decide (i ≤ hi)
  | _, _, _ => false
/-! ### more of numbers -/
theorem op_mulX {X : Cx} : OpR X (binaryOp .Mult) (rI IntMulOk fun i j => .int (i * j)) := opI fun _ _ _ _ _ _ _ hc q => mul_int q hc
theorem mulxR {i j : Int} (h1 : -(2 ^ 64) < j) (h2 : j < 2 ^ 64) : IntMulOk i j := .of_right (intBits_le_64 h1 h2)
theorem mulxL {i j : Int} (h1 : -(2 ^ 64) < i) (h2 : i < 2 ^ 64) : IntMulOk i j := .of_left (intBits_le_64 h1 h2)
theorem mulw {m n : Nat} {a b : Nat} (ha : m < 2 ^ a) (hb : n < 2 ^ b) (h0 : 0 < a) (h1 : 0 < b) (h : a + b ≤ 1000000) : IntMulOk (m : Int) (n : Int) := (wide_mul (a := a) (b := b) (by simpa using ha) (by simpa using hb) h0 h1 h).ok
theorem divw {i : Int} {n b : Nat} (h : 0 < n) (hb : n < 2 ^ b) (h0 : 0 < b) (h9 : b ≤ 9000) : CDivW i (n : Int) := wide_div (b := b) (by omega) (by simpa using hb) h0 h9
theorem cdivL {i j : Int} (h0 : 0 < j) (h1 : j < 2 ^ 64) : CDivW i j := wide_div (b := 64) h0 (by omega) (by decide) (by decide)
theorem abs_nat (m : Nat) : (if ((m : Nat) : Int) < 0 then -((m : Nat) : Int) else ((m : Nat) : Int)) = ((m : Nat) : Int) := if_neg (by omega)
/-! ### data compared -/
mutual
theorem dpUp (e : Ex H H') : ∀ {v : V} {d : PyData}, Dp K H v d → Dp K H' v d
  | _, _, .non => .non
  | _, _, .bl b => .bl b
  | _, _, .int i => .int i
  | _, _, .str x => .str x
  | _, _, .lst h a => .lst (e.sl h) (dpAllUp e a)
  | _, _, .tup h a => .tup (e.st h) (dpAllUp e a)
theorem dpAllUp (e : Ex H H') : ∀ {vs : List V} {ds : List PyData}, DpAll K H vs ds → DpAll K H' vs ds
  | _, _, .nil => .nil
  | _, _, .cons h a => .cons (dpUp e h) (dpAllUp e a)
end
theorem r_eqD {d e : PyData} {b : Bool} (h1 : Dp K H x d) (h2 : Dp K H y e) (s1 : SeqAt.shaped d = true) (s2 : SeqAt.shaped e = true) (hb : PyData.eqv d e = b) (k : Q (.bl b) H) : kR (rEqD K) x y H Q := fun H1 ex _ q => ⟨d, e, dpUp ex h1, dpUp ex h2, s1, s2, by rw [hb]; exact q _ _ _ k ex⟩
theorem r_neD {d e : PyData} {b : Bool} (h1 : Dp K H x d) (h2 : Dp K H y e) (s1 : SeqAt.shaped d = true) (s2 : SeqAt.shaped e = true) (hb : PyData.eqv d e = b) (k : Q (.bl (!b)) H) : kR (rNeD K) x y H Q := fun H1 ex _ q => ⟨d, e, dpUp ex h1, dpUp ex h2, s1, s2, by rw [hb]; exact q _ _ _ k ex⟩
theorem dp_ints : ∀ ns : List Int, DpAll K H (ns.map V.int) (ns.map PyData.int)
  | [] => .nil
  | n :: ns => .cons (.int n) (dp_ints ns)
theorem eqv_ints : ∀ ns ms : List Int, PyData.eqv (.list (ns.map PyData.int)) (.list (ms.map PyData.int)) = decide (ns = ms)
  | [], [] => by simp [PyData.eqv, PyData.eqvAll]
  | [], _ :: _ => by simp [PyData.eqv, PyData.eqvAll]
  | _ :: _, [] => by simp [PyData.eqv, PyData.eqvAll]
  | a :: r, b :: t => by
    have ih := eqv_ints r t
    simp only [PyData.eqv] at ih
    simp only [List.map_cons, PyData.eqv, PyData.eqvAll, ih]
    by_cases h : a = b <;> by_cases h' : r = t <;> simp [h, h']
theorem r_eqIs {p q : Addr} {ns ms : List Int} (h1 : SqL K H p (ns.map V.int)) (h2 : SqL K H q (ms.map V.int)) (k : Q (.bl (decide (ns = ms))) H) : kR (rEqD K) (.ref p) (.ref q) H Q :=
  r_eqD (.lst h1 (dp_ints ns)) (.lst h2 (dp_ints ms)) (PySem.W.ke_shaped_ints ns) (PySem.W.ke_shaped_ints ms) (eqv_ints ns ms) k
theorem r_neIs {p q : Addr} {ns ms : List Int} (h1 : SqL K H p (ns.map V.int)) (h2 : SqL K H q (ms.map V.int)) (k : Q (.bl (!decide (ns = ms))) H) : kR (rNeD K) (.ref p) (.ref q) H Q :=
  r_neD (.lst h1 (dp_ints ns)) (.lst h2 (dp_ints ms)) (PySem.W.ke_shaped_ints ns) (PySem.W.ke_shaped_ints ms) (eqv_ints ns ms) k
theorem eqv_pair (a b c d : Int) : PyData.eqv (.tuple [.int a, .int b]) (.tuple [.int c, .int d]) = decide (a = c ∧ b = d) := by
  simp only [PyData.eqv, PyData.eqvAll]
  by_cases h : a = c <;> by_cases h' : b = d <;> simp [h, h']
theorem r_neP {p q : Addr} {a b c d : Int} (h1 : SqT K H p [.int a, .int b]) (h2 : SqT K H q [.int c, .int d]) (k : Q (.bl (!decide (a = c ∧ b = d))) H) : kR (rNeD K) (.ref p) (.ref q) H Q :=
  r_neD (.tup h1 (.cons (.int a) (.cons (.int b) .nil))) (.tup h2 (.cons (.int c) (.cons (.int d) .nil))) rfl rfl (eqv_pair a b c d) k
/-! ### places of a written list -/
theorem atI_mod {α : Type} {xs : List α} {r n : Nat} {v : α} (h : xs[r % n]? = some v) : atI xs ((r : Int) % (n : Int)) = some v := by
  have e : (r : Int) % (n : Int) = ((r % n : Nat) : Int) := by rw [Int.natCast_emod]
  rw [e]
  exact atI_nat h
/-- behind a test -/
theorem dec2 {p : Prop} [Decidable p] {A B : Prop} (h1 : p → A) (h2 : ¬ p → B) : (decide p = true → A) ∧ (decide p = false → B) := ⟨fun h => h1 (of_decide_eq_true h), fun h => h2 (of_decide_eq_false h)⟩
theorem ndec2 {p : Prop} [Decidable p] {A B : Prop} (h1 : ¬ p → A) (h2 : p → B) : ((!decide p) = true → A) ∧ ((!decide p) = false → B) := ⟨fun h => h1 (by simpa using h), fun h => h2 (by simpa using h)⟩
/-- for i in range(a, b, -1) -/
theorem s_forDn (a b : Int) (n : Nat) (W : Nat → PS') (k : kA t σ H fun vs H1 => vs = [.int a, .int b, .int (-1)] ∧ (-(2 ^ 62) ≤ a ∧ a < 2 ^ 62 ∧ -(2 ^ 62) ≤ b ∧ b < 2 ^ 62) ∧ (a - b).toNat = n ∧ W 0 σ H1 ∧ (∀ i s H2, i < n → W i s H2 → kG g (.int (a - (i : Int))) s H2 fun s' H3 => kS ts (nxt W (i + 1)) R N (nxt W (i + 1)) s' H3) ∧ ∀ s H2, W n s H2 → N s H2) :
    kS (tFor (iRng3 t) g ts) N R B C σ H := fun H1 e D hn hr hb hc => k H1 e _ fun vs H0 H2 ⟨ev, ⟨l1, l2, l3, l4⟩, en, h0, hs, hd⟩ e2 => by
  subst ev
  subst en
  refine ⟨a, b, -1, (a - b).toNat, rfl, RgC.neg l1 l2 l3 l4, ?_⟩
  have z := for_rangeC (lo := a) (c := -1) (n := (a - b).toNat) (g := g) (tb := ts) (D := D) (σ := σ) (H := H2) (nxt W) ⟨H0, h0, e2⟩ (fun i s H3 hi p => ?_) (fun s H3 p => ?_)
  · exact z
  · obtain ⟨H4, w, e4⟩ := p
    have e0 : a + (i : Int) * (-1) = a - (i : Int) := by omega
    rw [e0]
    exact hs i s H4 hi w H3 e4 _ fun s' H5 H6 q e6 => q H6 e6 _ nxt_up hr hn nxt_up
  · obtain ⟨H4, w, e4⟩ := p
    exact hn _ _ _ (hd s H4 w) e4
theorem cnt_ok {i lo hi : Int} (h1 : lo ≤ i) (h2 : i ≤ hi) : cnt (.int i) lo hi = true := by simp [cnt, h1, h2]
/-- a whole number among few, as a natural -/
theorem nat_of {z : Int} {b : Nat} (h0 : 0 ≤ z) (h1 : z ≤ b) : ∃ n : Nat, z = (n : Int) ∧ n ≤ b := ⟨z.toNat, by omega, by omega⟩
/-- an item of a written list at a rest -/
theorem pick {xs : List V} {z m : Int} {P : V → Prop} (hm : (xs.length : Int) = m) (h0 : 0 < m) (h : ∀ x ∈ xs, P x) : ∃ v, atI xs (z % m) = some v ∧ P v := by
  subst hm
  have h1 : 0 ≤ z % (xs.length : Int) := Int.emod_nonneg _ (by omega)
  have h2 : z % (xs.length : Int) < xs.length := Int.emod_lt_of_pos _ h0
  obtain ⟨n, hn⟩ := Int.eq_ofNat_of_zero_le h1
  have h3 : n < xs.length := by omega
  refine ⟨xs[n], ?_, h _ (List.getElem_mem h3)⟩
  rw [hn]
  exact atI_nat (List.getElem?_eq_getElem h3)
/-- the law's promise -/
def spLaw (K : PySem.W.Frag) : Sp := fun vs H Q _ => ∃ (a : Addr) (ns : List Int), vs = [.ref a] ∧ SqL K H a (ns.map V.int) ∧ ns.length ≤ 63 ∧ ∀ H', Q (.bl true) H'
end Lg

namespace Lg
open PySem PySem.Spec PyProof.Rows L2
local macro_rules | `(tactic| k_memK) => `(tactic| first
  | with_reducible assumption
  | with_reducible exact SqT.of upd_same
  | with_reducible exact SqL.of upd_same
  | with_reducible exact upd_same
  | ((with_reducible refine' st_new ?k1 ?k2); (case k1 => with_reducible assumption); (case k2 => k_memK))
  | ((with_reducible refine' sl_new ?k1 ?k2); (case k1 => with_reducible assumption); (case k2 => k_memK))
  | ((with_reducible refine' at_new ?k1 ?k2); (case k1 => with_reducible assumption); (case k2 => k_memK))
  | (with_reducible refine' SqT.of ?k1); (case k1 => k_memK)
  | (with_reducible refine' SqL.of ?k1); (case k1 => k_memK))
local macro_rules | `(tactic| k_allIn) => `(tactic| first | with_reducible assumption | with_reducible exact mulxR (by decide) (by decide) | with_reducible exact cdivL (by decide) (by decide) | with_reducible exact cdivL (by omega) (by omega) | with_reducible exact mulxL (by decide) (by decide) | with_reducible exact mulxR (by omega) (by omega) | with_reducible exact mulxL (by omega) (by omega) | omega | decide)
local macro_rules | `(tactic| k_ownIn) => `(tactic| first
  | with_reducible exact Ty5.int _ | with_reducible exact Ty5.bl _ | with_reducible exact Ty5.non | with_reducible exact Ty5.str _ | with_reducible assumption
  | ((with_reducible refine' Ty5.lst (xs := ?k2) ?k1); (case k1 => k_memK)) | ((with_reducible refine' Ty5.tup (xs := ?k2) ?k1); (case k1 => k_memK)))
local macro_rules | `(tactic| k_places) => `(tactic| first
  | ((with_reducible refine' e_var ?k1 ?_); (case k1 => rfl))
  | (with_reducible refine' e_c ?_)
  | (with_reducible refine' e_op ?_)
  | (with_reducible refine' a_cons ?_)
  | (with_reducible refine' a_nil ?_)
  | (with_reducible refine' r_I0 ?_)
  | (with_reducible refine' s_seq ?_)
  | (with_reducible refine' s_asg ?_)
  | (with_reducible refine' t_test ?_)
  | (with_reducible refine' t_not ?_)
  | (with_reducible refine' t_B ?_)
  | (with_reducible refine ⟨_, rfl, ?_⟩)
  | (with_reducible refine' r_eqI ?_)
  | (with_reducible refine' r_neI ?_)
  | (with_reducible refine' e_call ?_)
  | (with_reducible refine' e_cb ?_)
  | (with_reducible refine' s_if ?_)
  | (with_reducible refine' s_ret ?_)
  | (with_reducible refine' s_next ?_)
  | ((with_reducible refine' r_I ?k1 ?_); (case k1 => k_allIn))
  | (refine ⟨fun h => Bool.noConfusion h, fun _ => ?_⟩)
  | (refine ⟨fun _ => ?_, fun h => Bool.noConfusion h⟩)
  | ((with_reducible refine' r_ixT ?k1 ?k2 ?_); (case k1 => k_memK); (case k2 => rfl))
  | ((with_reducible refine' r_ixL ?k1 ?k2 ?_); (case k1 => k_memK); (case k2 => rfl))
  | ((with_reducible refine' r_eq ?k1 ?_); (case k1 => rfl))
  | ((with_reducible refine' r_ne ?k1 ?_); (case k1 => rfl))
  | (with_reducible refine' e_un ?_) | (with_reducible refine' u_U ?_)
  | (with_reducible refine' e_tup ?_) | (with_reducible refine' e_lst ?_)
  | (with_reducible refine' ⟨szl (Nat.le_of_ble_eq_true rfl), fun _ _ => ?_⟩)
  | (with_reducible refine' e_if ?_) | (with_reducible refine' e_andV ?_) | (with_reducible refine' e_orV ?_) | (with_reducible refine' e_notV ?_) | (with_reducible refine' e_chain ?_)
  | (with_reducible refine' t_and ?_) | (with_reducible refine' t_or ?_)
  | (with_reducible refine' s_drop ?_) | (with_reducible refine' s_brk ?_) | (with_reducible refine' s_cont ?_) | (with_reducible refine' s_par ?_)
  | (with_reducible refine ⟨_, _, rfl, ?_⟩)
  | (with_reducible refine' c_abs ?_) | (with_reducible refine' c_max2 ?_) | (with_reducible refine' c_min2 ?_)
  | ((with_reducible refine' c_lenL ?k1 ?_); (case k1 => k_memK)) | ((with_reducible refine' c_lenT ?k1 ?_); (case k1 => k_memK))
  | ((with_reducible refine' c_isi ?k1 ?k2 ?_); (case k1 => k_ownIn); (case k2 => first | with_reducible exact kb_int_int | with_reducible exact kb_int_bool | with_reducible exact kb_int_tuple | with_reducible exact kb_int_list | with_reducible exact kb_bool_int | with_reducible exact kb_bool_bool | with_reducible exact kb_bool_tuple | with_reducible exact kb_bool_list | with_reducible exact kb_NoneType_int | with_reducible exact kb_NoneType_bool | with_reducible exact kb_NoneType_tuple | with_reducible exact kb_NoneType_list | with_reducible exact kb_str_int | with_reducible exact kb_str_bool | with_reducible exact kb_str_tuple | with_reducible exact kb_str_list | with_reducible exact kb_list_int | with_reducible exact kb_list_bool | with_reducible exact kb_list_tuple | with_reducible exact kb_list_list | with_reducible exact kb_tuple_int | with_reducible exact kb_tuple_bool | with_reducible exact kb_tuple_tuple | with_reducible exact kb_tuple_list))
  | (with_reducible refine' s_asgG ?_) | (with_reducible refine' g_name ?_) | (with_reducible refine' g_cons ?_) | (with_reducible refine' g_nil ?_)
  | ((with_reducible refine' g_tup ?k1 ?k2 ?_); (case k1 => k_memK); (case k2 => rfl))
  | (with_reducible refine' s_asgG ?_))
local macro_rules | `(tactic| k_clsL) => `(tactic| repeat k_places)
local macro_rules | `(tactic| k_offL) => `(tactic| first
  | with_reducible assumption | with_reducible exact Ex.rf
  | ((with_reducible refine' Ex.newr ?k1 ?k2); (case k2 => with_reducible assumption); (case k1 => k_offL)))
def topS (i : Nat) : Stmt := PySem.Challenge.pw_strewn_k41_whole_averages.main.body.getD i (.Pass ⟨0, 0, 0, 0⟩)
/-! ### fractions of naturals -/
def fr (a b : Nat) : Nat × Nat := (a / Nat.gcd a b, b / Nat.gcd a b)
theorem fr_pos {a b : Nat} (h : 0 < b) : 0 < (fr a b).2 := Nat.div_pos (Nat.le_of_dvd h (Nat.gcd_dvd_right a b)) (Nat.gcd_pos_of_pos_right a h)
theorem fr_le1 (a b : Nat) : (fr a b).1 ≤ a := Nat.div_le_self _ _
theorem fr_le2 (a b : Nat) : (fr a b).2 ≤ b := Nat.div_le_self _ _
theorem gcd_turn (m n : Nat) : Nat.gcd n (m % n) = Nat.gcd m n := by
  rw [Nat.gcd_comm n (m % n), ← Nat.gcd_rec n m, Nat.gcd_comm]
def plusN (x y : Nat × Nat) : Nat × Nat := fr (x.1 * y.2 + y.1 * x.2) (x.2 * y.2)
def timesN (x y : Nat × Nat) : Nat × Nat := fr (x.1 * y.1) (x.2 * y.2)
def halfN (x : Nat × Nat) : Nat × Nat := fr (x.1 + x.2) (2 * x.2)
/-- what is small enough -/
def big : Nat := 2 ^ 1000
/-! ### the averages, by naturals -/
def stF (s m w : Nat) : Nat → (Nat × Nat) × (Nat × Nat)
  | 0 => ((0, 1), (1, 1))
  | i + 1 => (plusN (stF s m w i).1 (timesN (stF s m w i).2 (1 + w * i, 1)), timesN (stF s m w i).2 (m - i, s))
def fallN (s m w : Nat) : Nat × Nat := (stF s m w (m + 1)).1
def hitN (s m : Nat) : Nat × Nat := halfN (fallN s (m - 1) 0)
def missN (s m : Nat) : Nat × Nat := halfN (fallN s m 1)
/-- a fraction of bounded size -/
def okP (x : Nat × Nat) : Bool := decide (x.1 < big) && decide (x.2 < big) && decide (0 < x.2)
def okSt (s m w i : Nat) : Bool := okP (stF s m w i).1 && okP (stF s m w i).2 && okP (timesN (stF s m w i).2 (1 + w * i, 1))
def okF (s m w : Nat) : Bool := (List.range (m + 2)).all (okSt s m w)
def underN (x y : Nat × Nat) : Bool := decide (x.1 * y.2 < y.1 * x.2)
def lmS (s m : Nat) : Nat → Nat × Nat
  | 0 => (0, 1)
  | i + 1 => ((m - i + 1) * (lmS s m i).2 * s + i * (lmS s m i).1, (lmS s m i).2 * s)
def lmN (s m : Nat) : Nat × Nat := fr ((lmS s m (m + 1)).1 + (lmS s m (m + 1)).2) (2 * (lmS s m (m + 1)).2)
def okL (s m : Nat) : Bool := (List.range (m + 2)).all fun i => okP (lmS s m i)
def togN (s : Nat) : Nat → Nat × Nat
  | 0 => (0, 1)
  | c + 1 => plusN (togN s c) (missN s c)
def befN (s : Nat) : Nat → Nat × Nat
  | 0 => (0, 1)
  | c + 1 => missN s c
/-- what the law asks of a size and a count -/
def factN (s c : Nat) : Bool :=
  okF s c 1 && okF s (c - 1) 0 && okL s c && okP (togN s c) && okP (missN s c) && okP (hitN s c) && !underN (missN s c) (befN s c) &&
  (decide (c = 0) || (decide (hitN s c = fr (togN s c).1 ((togN s c).2 * c)) && !underN (missN s c) (hitN s c))) && decide (lmN s c = missN s c)
def factA (s : Nat) : Bool := (List.range s).all (factN s) && decide (missN s 0 = (1, 1)) && decide (hitN s 1 = (1, 1))
theorem fact_all : (List.range 31).all (fun s => decide (s < 2) || factA s) = true := by decide +kernel
theorem fact_at {s : Nat} (h2 : 2 ≤ s) (h30 : s ≤ 30) : factA s = true := by
  have h := List.all_eq_true.mp fact_all s (List.mem_range.mpr (by omega))
  rw [decide_eq_false (by omega), Bool.false_or] at h
  exact h
theorem okP_iff {x : Nat × Nat} (h : okP x = true) : x.1 < big ∧ x.2 < big ∧ 0 < x.2 := by
  unfold okP at h
  simp only [Bool.and_eq_true, decide_eq_true_eq] at h
  exact ⟨h.1.1, h.1.2, h.2⟩
theorem okF_at {s m w i : Nat} (h : okF s m w = true) (hi : i ≤ m + 1) : okP (stF s m w i).1 = true ∧ okP (stF s m w i).2 = true ∧ okP (timesN (stF s m w i).2 (1 + w * i, 1)) = true := by
  have h1 := List.all_eq_true.mp h i (List.mem_range.mpr (by omega))
  unfold okSt at h1
  simp only [Bool.and_eq_true] at h1
  exact ⟨h1.1.1, h1.1.2, h1.2⟩
theorem okL_at {s m i : Nat} (h : okL s m = true) (hi : i ≤ m + 1) : okP (lmS s m i) = true := List.all_eq_true.mp h i (List.mem_range.mpr (by omega))
/-- the facts, one by one -/
structure Fact (s c : Nat) : Prop where
  f1 : okF s c 1 = true
  f0 : okF s (c - 1) 0 = true
  l : okL s c = true
  t : okP (togN s c) = true
  m : okP (missN s c) = true
  h : okP (hitN s c) = true
  u : underN (missN s c) (befN s c) = false
  z : 0 < c → hitN s c = fr (togN s c).1 ((togN s c).2 * c)
  y : 0 < c → underN (missN s c) (hitN s c) = false
  e : lmN s c = missN s c
theorem fact_of {s c : Nat} (h2 : 2 ≤ s) (h30 : s ≤ 30) (hc : c < s) : Fact s c := by
  have h := fact_at h2 h30
  unfold factA at h
  simp only [Bool.and_eq_true] at h
  have h1 := List.all_eq_true.mp h.1.1 c (List.mem_range.mpr hc)
  unfold factN at h1
  simp only [Bool.and_eq_true, Bool.or_eq_true, decide_eq_true_eq, Bool.not_eq_true'] at h1
  obtain ⟨⟨⟨⟨⟨⟨⟨⟨a1, a2⟩, a3⟩, a4⟩, a5⟩, a6⟩, a7⟩, a8⟩, a9⟩ := h1
  refine ⟨a1, a2, a3, a4, a5, a6, a7, fun h0 => ?_, fun h0 => ?_, a9⟩
  · rcases a8 with q | q
    · omega
    · exact q.1
  · rcases a8 with q | q
    · omega
    · exact q.2
theorem fact_0 {s : Nat} (h2 : 2 ≤ s) (h30 : s ≤ 30) : missN s 0 = (1, 1) ∧ hitN s 1 = (1, 1) := by
  have h := fact_at h2 h30
  unfold factA at h
  simp only [Bool.and_eq_true, decide_eq_true_eq] at h
  exact ⟨h.1.2, h.2⟩
abbrev s__law_cell : Stmt := topS 19
abbrev s__law_drawn : Stmt := topS 20
abbrev s_is_count : Stmt := topS 6
abbrev s_need_size : Stmt := topS 7
abbrev s_need_count : Stmt := topS 8
abbrev s_fraction : Stmt := topS 10
abbrev s_times : Stmt := topS 12
abbrev s_plus : Stmt := topS 11
abbrev s_falling : Stmt := topS 14
abbrev s_half : Stmt := topS 15
abbrev s_miss : Stmt := topS 17
abbrev s__law_under : Stmt := topS 23
abbrev s_hit : Stmt := topS 16
abbrev s__law_made : Stmt := topS 21
abbrev s__law_plus : Stmt := topS 22
abbrev s__law_miss : Stmt := topS 24
abbrev s_law : Stmt := topS 25
theorem sc__law_cell : FnScope ["_law_script", "_law_k"] ["_law_script", "_law_k"] (defScope s__law_cell) := ⟨rfl, rfl, rfl, by decide +kernel, rfl, by decide +kernel, by decide +kernel⟩
theorem sc__law_cell_v0 : (defScope s__law_cell).names.lookup ("_law_script" : Str) = some .local := by decide +kernel
theorem sc__law_cell_v1 : (defScope s__law_cell).names.lookup ("_law_k" : Str) = some .local := by decide +kernel
def t__law_cell (K : PySem.W.Frag) (cs : Cs) (E : XK) : TS :=
  (tSeq (tIfS (tTest (tOp (rEqD K) (tVar 0) (tLst tNil)))
  (tRet (tOp (rI IntMulOk fun i j => .int (i * j)) (tVar 1) (tC (.int 7919))))
  tNext)
  (tRet (tOp (rI0 fun i j => .int (i + j)) (tOp (rIxL K) (tVar 0) (tOp (rI (fun _ j => 0 < j) fun i j => .int (i % j)) (tVar 1) (tCB (fun xs H Q => ∃ p ys, xs = [V.ref p] ∧ (SqL K H p ys ∨ SqT K H p ys) ∧ Q (.int ys.length) H) (tCons (tVar 0) tNil)))) (tOp (rI IntMulOk fun i j => .int (i * j)) (tOp (rI CDivW fun i j => .int (i / j)) (tVar 1) (tCB (fun xs H Q => ∃ p ys, xs = [V.ref p] ∧ (SqL K H p ys ∨ SqT K H p ys) ∧ Q (.int ys.length) H) (tCons (tVar 0) tNil))) (tC (.int 104729))))))
def sp__law_cell (K : PySem.W.Frag) (_ : Cs) : Sp := fun vs H Q _ => ∃ (a : Addr) (ns : List Int) (k : Nat), vs = [.ref a, .int k] ∧ SqL K H a (ns.map V.int) ∧ ns.length ≤ 63 ∧ k < 1000 ∧ ∀ z : Int, upR Q (.int z) H
theorem c__law_cell {K : PySem.W.Frag} {cs : Cs} {H : Hp} {a : Addr} {ns : List Int} {k : Nat} {Q : PV} {E : XK} (h : SqL K H a (ns.map V.int)) (hl : ns.length ≤ 63) (hk : k < 1000) (q : ∀ z : Int, Q (.int z) H) : kC (fun ws H Q => sp__law_cell K cs ws H Q E) [.ref a, .int k] H Q :=
  fun H1 e _ qq => ⟨a, ns, k, rfl, e.sl h, hl, hk, fun z H2 e2 => qq _ _ _ (q z) (e.tr e2)⟩
local macro_rules | `(tactic| k_places) => `(tactic| ((with_reducible refine' c__law_cell ?k1 ?k2 ?k3 (fun _ => ?_)); (case k1 => k_memK); (case k2 => with_reducible assumption); (case k3 => omega)))
theorem pure__law_cell {K : PySem.W.Frag} {cs : Cs} {H : Hp} {vs : List V} {Q : VK} {E : XK} (h : sp__law_cell K cs vs H Q E) : t__law_cell K cs E { nx := fun _ H' => Q .non H', rt := Q } (start ["_law_script", "_law_k"] vs) H := by
  obtain ⟨a, ns, k, rfl, h, hl, hk, q⟩ := h
  refine fin (σ := [some (.ref a), some (.int k)]) ?_
  unfold t__law_cell
  k_clsL
  refine r_eqIs (ms := []) (by k_memK) (by k_memK) ?_
  k_clsL
  refine dec2 (fun h1 => ?_) (fun h1 => ?_)
  · k_clsL
    exact upX (q _) (by k_offL)
  · have h0 : 0 < ns.length := List.length_pos_iff.mpr h1
    have hn : (0 : Int) < (((ns.map V.int).length : Nat) : Int) := by rw [List.length_map]; omega
    have hd : CDivW (k : Int) (((ns.map V.int).length : Nat) : Int) := cdivL hn (by rw [List.length_map]; omega)
    have hi : k % (ns.map V.int).length < ns.length := by rw [List.length_map]; exact Nat.mod_lt _ h0
    k_clsL
    refine r_ixL (v := .int (ns[k % (ns.map V.int).length])) (by k_memK) (atI_mod (by rw [List.getElem?_map, List.getElem?_eq_getElem hi]; rfl)) ?_
    k_clsL
    exact upX (q _) (by k_offL)
theorem ok__law_cell {P : Program} {w : World} {K : PySem.W.Frag} {mg : Str → Option Value} {base : Heap} {cs : Cs} (D__law_cell : Dn K mg "_law_cell" s__law_cell ["_law_script", "_law_k"]) (m_len : mg "len" = none) :
    Cal P w K mg base (L2.CX P w) 1 "_law_cell" ["_law_script", "_law_k"] (sp__law_cell K cs) := by
  refine cal_mk D__law_cell sc__law_cell (fun vs H Q E h => ?_) fun f cdv A outer s H vs Q E hr h => ⟨t__law_cell K cs E, ?_, pure__law_cell h⟩
  · unfold sp__law_cell at h
    first | (obtain ⟨rfl, _⟩ := h; rfl) | (obtain ⟨_, rfl, _⟩ := h; rfl) | (obtain ⟨_, _, rfl, _⟩ := h; rfl) | (obtain ⟨_, _, _, rfl, _⟩ := h; rfl) | (obtain ⟨_, _, _, _, rfl, _⟩ := h; rfl) | (obtain ⟨_, _, _, _, _, rfl, _⟩ := h; rfl) | (obtain ⟨_, _, _, _, _, _, rfl, _⟩ := h; rfl) | (obtain ⟨_, _, _, _, _, _, _, rfl, _⟩ := h; rfl) | (obtain ⟨_, _, _, _, _, _, _, _, rfl, _⟩ := h; rfl) | (obtain ⟨_, _, _, _, _, _, _, _, _, rfl, _⟩ := h; rfl) | (obtain ⟨_, _, _, _, _, _, _, _, _, _, rfl, _⟩ := h; rfl) | (obtain ⟨_, _, _, _, _, _, _, _, _, _, _, rfl, _⟩ := h; rfl) | (obtain ⟨_, _, _, _, _, _, _, _, _, _, _, _, rfl, _⟩ := h; rfl) | (obtain ⟨_, _, _, _, _, _, _, _, _, _, _, _, _, rfl, _⟩ := h; rfl) | (obtain ⟨_, _, _, _, _, _, _, _, _, _, _, _, _, _, rfl, _⟩ := h; rfl) | (obtain ⟨_, _, _, _, _, _, _, _, _, _, _, _, _, _, _, rfl, _⟩ := h; rfl)
  · exact (pss_cons (ps_if (pt_cmpR (op_eqD hr.units) (pv 0) (pe_lst pa_nil) (nomark _))
      (pss_one (ps_ret (pe_op op_mulX (pv 1) pe_int)))
      pss_nil)
      (pss_one (ps_ret (pe_op op_add (pe_ix ix_list (pv 0) (pe_op op_mod (pv 1) (pe_callB call_len_seq (by rfl) m_len (by decide +kernel) (pa_cons (pv 0) pa_nil))) (fun _ _ => rfl)) (pe_op op_mulX (pe_op op_fdivW (pv 1) (pe_callB call_len_seq (by rfl) m_len (by decide +kernel) (pa_cons (pv 0) pa_nil))) pe_int)))))
theorem sc__law_drawn : FnScope ["_law_cell_here", "_law_k", "_law_more"] ["_law_cell_here", "_law_k"] (defScope s__law_drawn) := ⟨rfl, rfl, rfl, by decide +kernel, rfl, by decide +kernel, by decide +kernel⟩
theorem sc__law_drawn_v0 : (defScope s__law_drawn).names.lookup ("_law_cell_here" : Str) = some .local := by decide +kernel
theorem sc__law_drawn_v1 : (defScope s__law_drawn).names.lookup ("_law_k" : Str) = some .local := by decide +kernel
theorem sc__law_drawn_v2 : (defScope s__law_drawn).names.lookup ("_law_more" : Str) = some .local := by decide +kernel
def t__law_drawn (K : PySem.W.Frag) (cs : Cs) (E : XK) : TS :=
  (tSeq (tAsg (tOp (rI (fun _ j => 0 < j) fun i j => .int (i % j)) (tOp (rI0 fun i j => .int (i + j)) (tOp (rI IntMulOk fun i j => .int (i * j)) (tVar 0) (tC (.int 6364136223846793005))) (tOp (rI IntMulOk fun i j => .int (i * j)) (tOp (rI0 fun i j => .int (i + j)) (tVar 1) (tC (.int 1))) (tC (.int 1442695040888963407)))) (tC (.int 340282366920938463463374607431768211507))) (gName 2))
  (tRet (tOp (rI (fun _ j => 0 < j) fun i j => .int (i % j)) (tOp (rI IntMulOk fun i j => .int (i * j)) (tVar 2) (tVar 2)) (tC (.int 340282366920938463463374607431768211297)))))
def sp__law_drawn (K : PySem.W.Frag) (_ : Cs) : Sp := fun vs H Q _ => ∃ (c k : Int), vs = [.int c, .int k] ∧ ∀ r : Nat, r < 2 ^ 128 → upR Q (.int (r : Int)) H
theorem c__law_drawn {K : PySem.W.Frag} {cs : Cs} {H : Hp} {c k : Int} {Q : PV} {E : XK} (q : ∀ r : Nat, r < 2 ^ 128 → Q (.int (r : Int)) H) : kC (fun ws H Q => sp__law_drawn K cs ws H Q E) [.int c, .int k] H Q :=
  fun H1 e _ qq => ⟨c, k, rfl, fun r hr H2 e2 => qq _ _ _ (q r hr) (e.tr e2)⟩
local macro_rules | `(tactic| k_places) => `(tactic| (with_reducible refine' c__law_drawn (fun _ _ => ?_)))
theorem pure__law_drawn {K : PySem.W.Frag} {cs : Cs} {H : Hp} {vs : List V} {Q : VK} {E : XK} (h : sp__law_drawn K cs vs H Q E) : t__law_drawn K cs E { nx := fun _ H' => Q .non H', rt := Q } (start ["_law_cell_here", "_law_k", "_law_more"] vs) H := by
  obtain ⟨c, k, rfl, q⟩ := h
  refine fin (σ := [some (.int c), some (.int k), none]) ?_
  unfold t__law_drawn
  k_clsL
  generalize c * 6364136223846793005 + (k + 1) * 1442695040888963407 = z
  have hz0 : 0 ≤ z % 340282366920938463463374607431768211507 := Int.emod_nonneg _ (by decide)
  have hz1 : z % 340282366920938463463374607431768211507 < 340282366920938463463374607431768211507 := Int.emod_lt_of_pos _ (by decide)
  generalize z % 340282366920938463463374607431768211507 = y at *
  have hm : IntMulOk y y := by
    obtain ⟨n, rfl⟩ := Int.eq_ofNat_of_zero_le hz0
    exact mulw (a := 129) (b := 129) (by omega) (by omega) (by decide) (by decide) (by decide)
  k_clsL
  have h0 : 0 ≤ y * y % 340282366920938463463374607431768211297 := Int.emod_nonneg _ (by decide)
  have h1 : y * y % 340282366920938463463374607431768211297 < 340282366920938463463374607431768211297 := Int.emod_lt_of_pos _ (by decide)
  obtain ⟨n, hn⟩ := Int.eq_ofNat_of_zero_le h0
  rw [hn]
  exact q n (by omega)
theorem ok__law_drawn {P : Program} {w : World} {K : PySem.W.Frag} {mg : Str → Option Value} {base : Heap} {cs : Cs} (D__law_drawn : Dn K mg "_law_drawn" s__law_drawn ["_law_cell_here", "_law_k"]) :
    Cal P w K mg base (L2.CX P w) 1 "_law_drawn" ["_law_cell_here", "_law_k"] (sp__law_drawn K cs) := by
  refine cal_mk D__law_drawn sc__law_drawn (fun vs H Q E h => ?_) fun f cdv A outer s H vs Q E hr h => ⟨t__law_drawn K cs E, ?_, pure__law_drawn h⟩
  · unfold sp__law_drawn at h
    first | (obtain ⟨rfl, _⟩ := h; rfl) | (obtain ⟨_, rfl, _⟩ := h; rfl) | (obtain ⟨_, _, rfl, _⟩ := h; rfl) | (obtain ⟨_, _, _, rfl, _⟩ := h; rfl) | (obtain ⟨_, _, _, _, rfl, _⟩ := h; rfl) | (obtain ⟨_, _, _, _, _, rfl, _⟩ := h; rfl) | (obtain ⟨_, _, _, _, _, _, rfl, _⟩ := h; rfl) | (obtain ⟨_, _, _, _, _, _, _, rfl, _⟩ := h; rfl) | (obtain ⟨_, _, _, _, _, _, _, _, rfl, _⟩ := h; rfl) | (obtain ⟨_, _, _, _, _, _, _, _, _, rfl, _⟩ := h; rfl) | (obtain ⟨_, _, _, _, _, _, _, _, _, _, rfl, _⟩ := h; rfl) | (obtain ⟨_, _, _, _, _, _, _, _, _, _, _, rfl, _⟩ := h; rfl) | (obtain ⟨_, _, _, _, _, _, _, _, _, _, _, _, rfl, _⟩ := h; rfl) | (obtain ⟨_, _, _, _, _, _, _, _, _, _, _, _, _, rfl, _⟩ := h; rfl) | (obtain ⟨_, _, _, _, _, _, _, _, _, _, _, _, _, _, rfl, _⟩ := h; rfl) | (obtain ⟨_, _, _, _, _, _, _, _, _, _, _, _, _, _, _, rfl, _⟩ := h; rfl)
  · exact (pss_cons (ps_set (i := 2) sc__law_drawn.nd rfl (Or.inl sc__law_drawn_v2) (pe_op op_mod (pe_op op_add (pe_op op_mulX (pv 0) pe_int) (pe_op op_mulX (pe_op op_add (pv 1) pe_int) pe_int)) pe_int))
      (pss_one (ps_ret (pe_op op_mod (pe_op op_mulX (pv 2) (pv 2)) pe_int))))
theorem sc_is_count : FnScope ["thing", "least", "most"] ["thing", "least", "most"] (defScope s_is_count) := ⟨rfl, rfl, rfl, by decide +kernel, rfl, by decide +kernel, by decide +kernel⟩
theorem sc_is_count_v0 : (defScope s_is_count).names.lookup ("thing" : Str) = some .local := by decide +kernel
theorem sc_is_count_v1 : (defScope s_is_count).names.lookup ("least" : Str) = some .local := by decide +kernel
theorem sc_is_count_v2 : (defScope s_is_count).names.lookup ("most" : Str) = some .local := by decide +kernel
def t_is_count (K : PySem.W.Frag) (cs : Cs) (E : XK) : TS :=
  (tRet (tAndV (tCB (rIsi K) (tCons (tVar 0) (tCons (tC (.ty "int")) tNil))) (tAndV (tNotV (tCB (rIsi K) (tCons (tVar 0) (tCons (tC (.ty "bool")) tNil)))) (tChain (rI0 fun i j => .bl (decide (i ≤ j))) (rI0 fun i j => .bl (decide (i ≤ j))) (tVar 1) (tVar 0) (tVar 2)))))
def sp_is_count (K : PySem.W.Frag) (_ : Cs) : Sp := fun vs H Q _ => ∃ x T lo hi, vs = [x, .int lo, .int hi] ∧ Ty5 K H x T ∧ upR Q (.bl (cnt x lo hi)) H
theorem c_is_count {K : PySem.W.Frag} {cs : Cs} {H : Hp} {x : V} {T : String} {lo hi : Int} {Q : PV} {E : XK} (h : Ty5 K H x T) (k : Q (.bl (cnt x lo hi)) H) : kC (fun ws H Q => sp_is_count K cs ws H Q E) [x, .int lo, .int hi] H Q :=
  fun H1 e _ q => ⟨x, T, lo, hi, rfl, h.up e, fun H2 e2 => q _ _ _ k (e.tr e2)⟩
local macro_rules | `(tactic| k_places) => `(tactic| ((with_reducible refine' c_is_count ?k1 ?_); (case k1 => k_ownIn)))
theorem pure_is_count {K : PySem.W.Frag} {cs : Cs} {H : Hp} {vs : List V} {Q : VK} {E : XK} (h : sp_is_count K cs vs H Q E) : t_is_count K cs E { nx := fun _ H' => Q .non H', rt := Q } (start ["thing", "least", "most"] vs) H := by
  obtain ⟨x, T, lo, hi, rfl, h, q⟩ := h
  refine fin (σ := [some x, some (.int lo), some (.int hi)]) ?_
  unfold t_is_count
  cases h with
  | int i =>
    k_clsL
    refine ⟨fun h1 => ?_, fun h1 => ?_⟩
    · k_clsL
      exact upE q (by simp [cnt, h1])
    · k_clsL
      exact upE q (by simp [cnt, h1])
  | _ => k_clsL; exact q
theorem ok_is_count {P : Program} {w : World} {K : PySem.W.Frag} {mg : Str → Option Value} {base : Heap} {cs : Cs} (D_is_count : Dn K mg "is_count" s_is_count ["thing", "least", "most"]) (m_int : mg "int" = none) (m_isinstance : mg "isinstance" = none) (m_bool : mg "bool" = none) :
    Cal P w K mg base (L2.CX P w) 1 "is_count" ["thing", "least", "most"] (sp_is_count K cs) := by
  refine cal_mk D_is_count sc_is_count (fun vs H Q E h => ?_) fun f cdv A outer s H vs Q E hr h => ⟨t_is_count K cs E, ?_, pure_is_count h⟩
  · unfold sp_is_count at h
    first | (obtain ⟨rfl, _⟩ := h; rfl) | (obtain ⟨_, rfl, _⟩ := h; rfl) | (obtain ⟨_, _, rfl, _⟩ := h; rfl) | (obtain ⟨_, _, _, rfl, _⟩ := h; rfl) | (obtain ⟨_, _, _, _, rfl, _⟩ := h; rfl) | (obtain ⟨_, _, _, _, _, rfl, _⟩ := h; rfl) | (obtain ⟨_, _, _, _, _, _, rfl, _⟩ := h; rfl) | (obtain ⟨_, _, _, _, _, _, _, rfl, _⟩ := h; rfl) | (obtain ⟨_, _, _, _, _, _, _, _, rfl, _⟩ := h; rfl) | (obtain ⟨_, _, _, _, _, _, _, _, _, rfl, _⟩ := h; rfl) | (obtain ⟨_, _, _, _, _, _, _, _, _, _, rfl, _⟩ := h; rfl) | (obtain ⟨_, _, _, _, _, _, _, _, _, _, _, rfl, _⟩ := h; rfl) | (obtain ⟨_, _, _, _, _, _, _, _, _, _, _, _, rfl, _⟩ := h; rfl) | (obtain ⟨_, _, _, _, _, _, _, _, _, _, _, _, _, rfl, _⟩ := h; rfl) | (obtain ⟨_, _, _, _, _, _, _, _, _, _, _, _, _, _, rfl, _⟩ := h; rfl) | (obtain ⟨_, _, _, _, _, _, _, _, _, _, _, _, _, _, _, rfl, _⟩ := h; rfl)
  · exact (pss_one (ps_ret (pe_and (pe_callB call_isi (by rfl) m_isinstance (by decide +kernel) (pa_cons (pv 0) (pa_cons (pe_bltn (v := .ty "int") (by rfl) m_int (by decide +kernel) rfl) pa_nil))) (pe_and (pe_not (pe_callB call_isi (by rfl) m_isinstance (by decide +kernel) (pa_cons (pv 0) (pa_cons (pe_bltn (v := .ty "bool") (by rfl) m_bool (by decide +kernel) rfl) pa_nil)))) (pe_one (pe_chain op_le op_le (pv 1) (pv 0) (pv 2)))))))
theorem sc_need_size : FnScope ["size"] ["size"] (defScope s_need_size) := ⟨rfl, rfl, rfl, by decide +kernel, rfl, by decide +kernel, by decide +kernel⟩
theorem sc_need_size_v0 : (defScope s_need_size).names.lookup ("size" : Str) = some .local := by decide +kernel
def t_need_size (K : PySem.W.Frag) (cs : Cs) (E : XK) : TS :=
  (tIfS (tNot (tB (tCall (sp_is_count K cs) [] E0 (tCons (tVar 0) (tCons (tC (.int 2)) (tCons (tC (.int 64)) tNil))))))
  (tRaise E cs.BadSize)
  tNext)
def sp_need_size (K : PySem.W.Frag) (cs : Cs) : Sp := fun vs H Q E => ∃ x T, vs = [x] ∧ Ty5 K H x T ∧ (cnt x 2 64 = true → upR Q .non H) ∧ (cnt x 2 64 = false → ∀ H2, Ex H H2 → E (.ref cs.BadSize) none H2)
theorem c_need_size {K : PySem.W.Frag} {cs : Cs} {H : Hp} {x : V} {T : String} {Q : PV} {E : XK} (h : Ty5 K H x T) (k : (cnt x 2 64 = true → Q .non H) ∧ (cnt x 2 64 = false → ∀ H2, Ex H H2 → E (.ref cs.BadSize) none H2)) : kC (fun ws H Q => sp_need_size K cs ws H Q E) [x] H Q :=
  fun H1 e _ q => ⟨x, T, rfl, h.up e, fun c H2 e2 => q _ _ _ (k.1 c) (e.tr e2), fun c H2 e2 => k.2 c H2 (e.tr e2)⟩
local macro_rules | `(tactic| k_places) => `(tactic| ((with_reducible refine' c_need_size ?k1 ?_); (case k1 => k_ownIn)))
theorem pure_need_size {K : PySem.W.Frag} {cs : Cs} {H : Hp} {vs : List V} {Q : VK} {E : XK} (h : sp_need_size K cs vs H Q E) : t_need_size K cs E { nx := fun _ H' => Q .non H', rt := Q } (start ["size"] vs) H := by
  obtain ⟨x, T, rfl, h, q, r⟩ := h
  refine fin (σ := [some x]) ?_
  unfold t_need_size
  k_clsL
  refine ⟨fun h1 => ?_, fun h1 => ?_⟩
  · exact s_raise (r (by simpa using h1))
  · k_clsL
    exact q (by simpa using h1)
theorem ok_need_size {P : Program} {w : World} {K : PySem.W.Frag} {mg : Str → Option Value} {base : Heap} {cs : Cs} (D_need_size : Dn K mg "need_size" s_need_size ["size"]) (cal_is_count : Cal P w K mg base (L2.CX P w) 1 "is_count" ["thing", "least", "most"] (sp_is_count K cs)) (k_LEAST_SIZE : ∃ t, mg "LEAST_SIZE" = some (.int 2 t)) (k_MOST_SIZE : ∃ t, mg "MOST_SIZE" = some (.int 64 t)) (x_BadSize : ExcT K mg "BadSize" cs.BadSize) :
    Cal P w K mg base (L2.CX P w) 2 "need_size" ["size"] (sp_need_size K cs) := by
  refine cal_mk D_need_size sc_need_size (fun vs H Q E h => ?_) fun f cdv A outer s H vs Q E hr h => ⟨t_need_size K cs E, ?_, pure_need_size h⟩
  · unfold sp_need_size at h
    first | (obtain ⟨rfl, _⟩ := h; rfl) | (obtain ⟨_, rfl, _⟩ := h; rfl) | (obtain ⟨_, _, rfl, _⟩ := h; rfl) | (obtain ⟨_, _, _, rfl, _⟩ := h; rfl) | (obtain ⟨_, _, _, _, rfl, _⟩ := h; rfl) | (obtain ⟨_, _, _, _, _, rfl, _⟩ := h; rfl) | (obtain ⟨_, _, _, _, _, _, rfl, _⟩ := h; rfl) | (obtain ⟨_, _, _, _, _, _, _, rfl, _⟩ := h; rfl) | (obtain ⟨_, _, _, _, _, _, _, _, rfl, _⟩ := h; rfl) | (obtain ⟨_, _, _, _, _, _, _, _, _, rfl, _⟩ := h; rfl) | (obtain ⟨_, _, _, _, _, _, _, _, _, _, rfl, _⟩ := h; rfl) | (obtain ⟨_, _, _, _, _, _, _, _, _, _, _, rfl, _⟩ := h; rfl) | (obtain ⟨_, _, _, _, _, _, _, _, _, _, _, _, rfl, _⟩ := h; rfl) | (obtain ⟨_, _, _, _, _, _, _, _, _, _, _, _, _, rfl, _⟩ := h; rfl) | (obtain ⟨_, _, _, _, _, _, _, _, _, _, _, _, _, _, rfl, _⟩ := h; rfl) | (obtain ⟨_, _, _, _, _, _, _, _, _, _, _, _, _, _, _, rfl, _⟩ := h; rfl)
  · exact (pss_one (ps_if (pt_not (pt_val (pe_cal cal_is_count hr (by decide) (by rfl) passL (pa_cons (pv 0) (pa_cons (pe_gI (n := 2) (by rfl) k_LEAST_SIZE) (pa_cons (pe_gI (n := 64) (by rfl) k_MOST_SIZE) pa_nil))))))
      (pss_one (ps_raiseT x_BadSize rfl (takes_of (E := E) rfl rfl rfl rfl) (by rfl)))
      pss_nil))
theorem sc_need_count : FnScope ["number", "least", "most"] ["number", "least", "most"] (defScope s_need_count) := ⟨rfl, rfl, rfl, by decide +kernel, rfl, by decide +kernel, by decide +kernel⟩
theorem sc_need_count_v0 : (defScope s_need_count).names.lookup ("number" : Str) = some .local := by decide +kernel
theorem sc_need_count_v1 : (defScope s_need_count).names.lookup ("least" : Str) = some .local := by decide +kernel
theorem sc_need_count_v2 : (defScope s_need_count).names.lookup ("most" : Str) = some .local := by decide +kernel
def t_need_count (K : PySem.W.Frag) (cs : Cs) (E : XK) : TS :=
  (tIfS (tNot (tB (tCall (sp_is_count K cs) [] E0 (tCons (tVar 0) (tCons (tVar 1) (tCons (tVar 2) tNil))))))
  (tRaise E cs.BadSize)
  tNext)
def sp_need_count (K : PySem.W.Frag) (cs : Cs) : Sp := fun vs H Q E => ∃ x T lo hi, vs = [x, .int lo, .int hi] ∧ Ty5 K H x T ∧ (cnt x lo hi = true → upR Q .non H) ∧ (cnt x lo hi = false → ∀ H2, Ex H H2 → E (.ref cs.BadSize) none H2)
theorem c_need_count {K : PySem.W.Frag} {cs : Cs} {H : Hp} {x : V} {T : String} {lo hi : Int} {Q : PV} {E : XK} (h : Ty5 K H x T) (k : (cnt x lo hi = true → Q .non H) ∧ (cnt x lo hi = false → ∀ H2, Ex H H2 → E (.ref cs.BadSize) none H2)) : kC (fun ws H Q => sp_need_count K cs ws H Q E) [x, .int lo, .int hi] H Q :=
  fun H1 e _ q => ⟨x, T, lo, hi, rfl, h.up e, fun c H2 e2 => q _ _ _ (k.1 c) (e.tr e2), fun c H2 e2 => k.2 c H2 (e.tr e2)⟩
local macro_rules | `(tactic| k_places) => `(tactic| ((with_reducible refine' c_need_count ?k1 ?_); (case k1 => k_ownIn)))
theorem pure_need_count {K : PySem.W.Frag} {cs : Cs} {H : Hp} {vs : List V} {Q : VK} {E : XK} (h : sp_need_count K cs vs H Q E) : t_need_count K cs E { nx := fun _ H' => Q .non H', rt := Q } (start ["number", "least", "most"] vs) H := by
  obtain ⟨x, T, lo, hi, rfl, h, q, r⟩ := h
  refine fin (σ := [some x, some (.int lo), some (.int hi)]) ?_
  unfold t_need_count
  k_clsL
  refine ⟨fun h1 => ?_, fun h1 => ?_⟩
  · exact s_raise (r (by simpa using h1))
  · k_clsL
    exact q (by simpa using h1)
theorem ok_need_count {P : Program} {w : World} {K : PySem.W.Frag} {mg : Str → Option Value} {base : Heap} {cs : Cs} (D_need_count : Dn K mg "need_count" s_need_count ["number", "least", "most"]) (cal_is_count : Cal P w K mg base (L2.CX P w) 1 "is_count" ["thing", "least", "most"] (sp_is_count K cs)) (x_BadSize : ExcT K mg "BadSize" cs.BadSize) :
    Cal P w K mg base (L2.CX P w) 2 "need_count" ["number", "least", "most"] (sp_need_count K cs) := by
  refine cal_mk D_need_count sc_need_count (fun vs H Q E h => ?_) fun f cdv A outer s H vs Q E hr h => ⟨t_need_count K cs E, ?_, pure_need_count h⟩
  · unfold sp_need_count at h
    first | (obtain ⟨rfl, _⟩ := h; rfl) | (obtain ⟨_, rfl, _⟩ := h; rfl) | (obtain ⟨_, _, rfl, _⟩ := h; rfl) | (obtain ⟨_, _, _, rfl, _⟩ := h; rfl) | (obtain ⟨_, _, _, _, rfl, _⟩ := h; rfl) | (obtain ⟨_, _, _, _, _, rfl, _⟩ := h; rfl) | (obtain ⟨_, _, _, _, _, _, rfl, _⟩ := h; rfl) | (obtain ⟨_, _, _, _, _, _, _, rfl, _⟩ := h; rfl) | (obtain ⟨_, _, _, _, _, _, _, _, rfl, _⟩ := h; rfl) | (obtain ⟨_, _, _, _, _, _, _, _, _, rfl, _⟩ := h; rfl) | (obtain ⟨_, _, _, _, _, _, _, _, _, _, rfl, _⟩ := h; rfl) | (obtain ⟨_, _, _, _, _, _, _, _, _, _, _, rfl, _⟩ := h; rfl) | (obtain ⟨_, _, _, _, _, _, _, _, _, _, _, _, rfl, _⟩ := h; rfl) | (obtain ⟨_, _, _, _, _, _, _, _, _, _, _, _, _, rfl, _⟩ := h; rfl) | (obtain ⟨_, _, _, _, _, _, _, _, _, _, _, _, _, _, rfl, _⟩ := h; rfl) | (obtain ⟨_, _, _, _, _, _, _, _, _, _, _, _, _, _, _, rfl, _⟩ := h; rfl)
  · exact (pss_one (ps_if (pt_not (pt_val (pe_cal cal_is_count hr (by decide) (by rfl) passL (pa_cons (pv 0) (pa_cons (pv 1) (pa_cons (pv 2) pa_nil))))))
      (pss_one (ps_raiseT x_BadSize rfl (takes_of (E := E) rfl rfl rfl rfl) (by rfl)))
      pss_nil))
theorem sc_fraction : FnScope ["top", "under", "one", "other"] ["top", "under"] (defScope s_fraction) := ⟨rfl, rfl, rfl, by decide +kernel, rfl, by decide +kernel, by decide +kernel⟩
theorem sc_fraction_v0 : (defScope s_fraction).names.lookup ("top" : Str) = some .local := by decide +kernel
theorem sc_fraction_v1 : (defScope s_fraction).names.lookup ("under" : Str) = some .local := by decide +kernel
theorem sc_fraction_v2 : (defScope s_fraction).names.lookup ("one" : Str) = some .local := by decide +kernel
theorem sc_fraction_v3 : (defScope s_fraction).names.lookup ("other" : Str) = some .local := by decide +kernel
def t_fraction (K : PySem.W.Frag) (cs : Cs) (E : XK) : TS :=
  (tSeq (tPar 2 3 (tCons (tCB (fun xs H Q => ∃ i, xs = [V.int i] ∧ Q (.int (if i < 0 then -i else i)) H) (tCons (tVar 0) tNil)) (tCons (tVar 1) tNil)))
  (tSeq (tWhile (tTest (tOp (rI0 fun i j => .bl (decide (j < i))) (tVar 3) (tC (.int 0))))
  (tPar 2 3 (tCons (tVar 3) (tCons (tOp (rI (fun _ j => 0 < j) fun i j => .int (i % j)) (tVar 2) (tVar 3)) tNil))))
  (tRet (tTup (tCons (tOp (rI CDivW fun i j => .int (i / j)) (tVar 0) (tVar 2)) (tCons (tOp (rI CDivW fun i j => .int (i / j)) (tVar 1) (tVar 2)) tNil))))))
def sp_fraction (K : PySem.W.Frag) (_ : Cs) : Sp := fun vs H Q _ => ∃ m n : Nat, vs = [.int (m : Int), .int (n : Int)] ∧ 0 < n ∧ n < 2 ^ 4000 ∧ ∀ p, H p = none → upR Q (.ref p) (upd H p (.tup [.int ((fr m n).1 : Nat), .int ((fr m n).2 : Nat)]))
theorem c_fraction {K : PySem.W.Frag} {cs : Cs} {H : Hp} {i j : Int} {m n : Nat} {Q : PV} {E : XK} (hi : i = (m : Int)) (hj : j = (n : Int)) (h0 : 0 < n) (hb : n < 2 ^ 4000) (k : ∀ p, H p = none → Q (.ref p) (upd H p (.tup [.int ((fr m n).1 : Nat), .int ((fr m n).2 : Nat)]))) :
    kC (fun ws H Q => sp_fraction K cs ws H Q E) [.int i, .int j] H Q := by
  subst hi hj
  exact fun H1 e _ q => ⟨m, n, rfl, h0, hb, fun p hp H2 e2 => q _ _ _ (k p (e.fresh hp)) ((e.ups _ _).tr e2)⟩
theorem pure_fraction {K : PySem.W.Frag} {cs : Cs} {H : Hp} {vs : List V} {Q : VK} {E : XK} (h : sp_fraction K cs vs H Q E) : t_fraction K cs E { nx := fun _ H' => Q .non H', rt := Q } (start ["top", "under", "one", "other"] vs) H := by
  obtain ⟨m, n, rfl, h0, hb, q⟩ := h
  refine fin (σ := [some (.int m), some (.int n), none, none]) ?_
  unfold t_fraction
  k_clsL
  refine s_while (fun z s H1 => ∃ a b : Nat, z = b ∧ s = [some (.int m), some (.int n), some (.int a), some (.int b)] ∧ Nat.gcd a b = Nat.gcd m n ∧ H1 = H) n ⟨m, n, rfl, by rw [abs_nat]; rfl, rfl, rfl⟩ ?_
  rintro z s H1 ⟨a, b, rfl, rfl, hg, rfl⟩
  k_clsL
  refine ⟨fun h1 => ?_, fun h1 => ?_⟩
  · have hb0 : 0 < z := by simpa using h1
    k_clsL
    refine ⟨a % z, _, Nat.mod_lt _ hb0, ⟨z, a % z, rfl, ?_, ?_, rfl⟩, Ex.rf⟩
    · rw [Int.natCast_emod]; rfl
    · rw [gcd_turn]; exact hg
  · have hb0 : z = 0 := by simpa using h1
    subst hb0
    rw [Nat.gcd_zero_right] at hg
    subst hg
    have hp : 0 < Nat.gcd m n := Nat.gcd_pos_of_pos_right m h0
    have hl : Nat.gcd m n ≤ n := Nat.le_of_dvd h0 (Nat.gcd_dvd_right m n)
    have hd : ∀ i : Int, CDivW i ((Nat.gcd m n : Nat) : Int) := fun i => divw hp (Nat.lt_of_le_of_lt hl hb) (by decide) (by decide)
    have hd1 := hd m
    have hd2 := hd n
    k_clsL
    exact q _ (by assumption)
theorem ok_fraction {P : Program} {w : World} {K : PySem.W.Frag} {mg : Str → Option Value} {base : Heap} {cs : Cs} (D_fraction : Dn K mg "fraction" s_fraction ["top", "under"]) (m_abs : mg "abs" = none) :
    Cal P w K mg base (L2.CX P w) 1 "fraction" ["top", "under"] (sp_fraction K cs) := by
  refine cal_mk D_fraction sc_fraction (fun vs H Q E h => ?_) fun f cdv A outer s H vs Q E hr h => ⟨t_fraction K cs E, ?_, pure_fraction h⟩
  · unfold sp_fraction at h
    first | (obtain ⟨rfl, _⟩ := h; rfl) | (obtain ⟨_, rfl, _⟩ := h; rfl) | (obtain ⟨_, _, rfl, _⟩ := h; rfl) | (obtain ⟨_, _, _, rfl, _⟩ := h; rfl) | (obtain ⟨_, _, _, _, rfl, _⟩ := h; rfl) | (obtain ⟨_, _, _, _, _, rfl, _⟩ := h; rfl) | (obtain ⟨_, _, _, _, _, _, rfl, _⟩ := h; rfl) | (obtain ⟨_, _, _, _, _, _, _, rfl, _⟩ := h; rfl) | (obtain ⟨_, _, _, _, _, _, _, _, rfl, _⟩ := h; rfl) | (obtain ⟨_, _, _, _, _, _, _, _, _, rfl, _⟩ := h; rfl) | (obtain ⟨_, _, _, _, _, _, _, _, _, _, rfl, _⟩ := h; rfl) | (obtain ⟨_, _, _, _, _, _, _, _, _, _, _, rfl, _⟩ := h; rfl) | (obtain ⟨_, _, _, _, _, _, _, _, _, _, _, _, rfl, _⟩ := h; rfl) | (obtain ⟨_, _, _, _, _, _, _, _, _, _, _, _, _, rfl, _⟩ := h; rfl) | (obtain ⟨_, _, _, _, _, _, _, _, _, _, _, _, _, _, rfl, _⟩ := h; rfl) | (obtain ⟨_, _, _, _, _, _, _, _, _, _, _, _, _, _, _, rfl, _⟩ := h; rfl)
  · exact (pss_cons (ps_par (i := 2) (j := 3) rfl sc_fraction.nd rfl rfl (by decide) sc_fraction_v2 sc_fraction_v3 (pa_cons (pe_callB call_abs (by rfl) m_abs (by decide +kernel) (pa_cons (pv 0) pa_nil)) (pa_cons (pv 1) pa_nil)) (by rfl))
      (pss_cons (ps_while (passes_of rfl) (pt_cmpR op_gt (pv 3) pe_int (nomark _))
      (pss_one (ps_par (i := 2) (j := 3) rfl sc_fraction.nd rfl rfl (by decide) sc_fraction_v2 sc_fraction_v3 (pa_cons (pv 3) (pa_cons (pe_op op_mod (pv 2) (pv 3)) pa_nil)) (by rfl))))
      (pss_one (ps_ret (pe_tup (pa_cons (pe_op op_fdivW (pv 0) (pv 2)) (pa_cons (pe_op op_fdivW (pv 1) (pv 2)) pa_nil)))))))
theorem sc_times : FnScope ["one", "other"] ["one", "other"] (defScope s_times) := ⟨rfl, rfl, rfl, by decide +kernel, rfl, by decide +kernel, by decide +kernel⟩
theorem sc_times_v0 : (defScope s_times).names.lookup ("one" : Str) = some .local := by decide +kernel
theorem sc_times_v1 : (defScope s_times).names.lookup ("other" : Str) = some .local := by decide +kernel
def t_times (K : PySem.W.Frag) (cs : Cs) (E : XK) : TS :=
  (tRet (tCall (sp_fraction K cs) [] E0 (tCons (tOp (rI IntMulOk fun i j => .int (i * j)) (tOp (rIxT K) (tVar 0) (tC (.int 0))) (tOp (rIxT K) (tVar 1) (tC (.int 0)))) (tCons (tOp (rI IntMulOk fun i j => .int (i * j)) (tOp (rIxT K) (tVar 0) (tC (.int 1))) (tOp (rIxT K) (tVar 1) (tC (.int 1)))) tNil))))
def sp_times (K : PySem.W.Frag) (_ : Cs) : Sp := fun vs H Q _ => ∃ (p q : Addr) (a b c d : Nat), vs = [.ref p, .ref q] ∧ SqT K H p [.int a, .int b] ∧ SqT K H q [.int c, .int d] ∧ 0 < b ∧ 0 < d ∧ (a < big ∧ b < big ∧ c < big ∧ d < big) ∧
  ∀ r, H r = none → upR Q (.ref r) (upd H r (.tup [.int ((timesN (a, b) (c, d)).1 : Nat), .int ((timesN (a, b) (c, d)).2 : Nat)]))
theorem c_times {K : PySem.W.Frag} {cs : Cs} {H : Hp} {p q : Addr} {a b c d : Nat} {Q : PV} {E : XK} (h1 : SqT K H p [.int a, .int b]) (h2 : SqT K H q [.int c, .int d]) (hb : 0 < b) (hd : 0 < d) (hs : a < big ∧ b < big ∧ c < big ∧ d < big)
    (k : ∀ r, H r = none → Q (.ref r) (upd H r (.tup [.int ((timesN (a, b) (c, d)).1 : Nat), .int ((timesN (a, b) (c, d)).2 : Nat)]))) : kC (fun ws H Q => sp_times K cs ws H Q E) [.ref p, .ref q] H Q :=
  fun H1 e _ qq => ⟨p, q, a, b, c, d, rfl, e.st h1, e.st h2, hb, hd, hs, fun r hr H2 e2 => qq _ _ _ (k r (e.fresh hr)) ((e.ups _ _).tr e2)⟩
theorem pure_times {K : PySem.W.Frag} {cs : Cs} {H : Hp} {vs : List V} {Q : VK} {E : XK} (h : sp_times K cs vs H Q E) : t_times K cs E { nx := fun _ H' => Q .non H', rt := Q } (start ["one", "other"] vs) H := by
  obtain ⟨p, q, a, b, c, d, rfl, h1, h2, hb, hd, ⟨s1, s2, s3, s4⟩, k⟩ := h
  unfold big at s1 s2 s3 s4
  refine fin (σ := [some (.ref p), some (.ref q)]) ?_
  unfold t_times
  have m1 : IntMulOk (a : Int) c := mulw s1 s3 (by decide) (by decide) (by decide)
  have m3 : IntMulOk (b : Int) d := mulw s2 s4 (by decide) (by decide) (by decide)
  k_clsL
  refine c_fraction (m := a * c) (n := b * d) (by simp) (by simp) (Nat.mul_pos hb hd) (Nat.lt_trans (Nat.mul_lt_mul'' s2 s4) (by rw [← Nat.pow_add]; exact Nat.pow_lt_pow_right (by decide) (by decide))) fun r hr => ?_
  exact k r hr
theorem ok_times {P : Program} {w : World} {K : PySem.W.Frag} {mg : Str → Option Value} {base : Heap} {cs : Cs} (D_times : Dn K mg "times" s_times ["one", "other"]) (cal_fraction : Cal P w K mg base (L2.CX P w) 1 "fraction" ["top", "under"] (sp_fraction K cs)) :
    Cal P w K mg base (L2.CX P w) 2 "times" ["one", "other"] (sp_times K cs) := by
  refine cal_mk D_times sc_times (fun vs H Q E h => ?_) fun f cdv A outer s H vs Q E hr h => ⟨t_times K cs E, ?_, pure_times h⟩
  · unfold sp_times at h
    first | (obtain ⟨rfl, _⟩ := h; rfl) | (obtain ⟨_, rfl, _⟩ := h; rfl) | (obtain ⟨_, _, rfl, _⟩ := h; rfl) | (obtain ⟨_, _, _, rfl, _⟩ := h; rfl) | (obtain ⟨_, _, _, _, rfl, _⟩ := h; rfl) | (obtain ⟨_, _, _, _, _, rfl, _⟩ := h; rfl) | (obtain ⟨_, _, _, _, _, _, rfl, _⟩ := h; rfl) | (obtain ⟨_, _, _, _, _, _, _, rfl, _⟩ := h; rfl) | (obtain ⟨_, _, _, _, _, _, _, _, rfl, _⟩ := h; rfl) | (obtain ⟨_, _, _, _, _, _, _, _, _, rfl, _⟩ := h; rfl) | (obtain ⟨_, _, _, _, _, _, _, _, _, _, rfl, _⟩ := h; rfl) | (obtain ⟨_, _, _, _, _, _, _, _, _, _, _, rfl, _⟩ := h; rfl) | (obtain ⟨_, _, _, _, _, _, _, _, _, _, _, _, rfl, _⟩ := h; rfl) | (obtain ⟨_, _, _, _, _, _, _, _, _, _, _, _, _, rfl, _⟩ := h; rfl) | (obtain ⟨_, _, _, _, _, _, _, _, _, _, _, _, _, _, rfl, _⟩ := h; rfl) | (obtain ⟨_, _, _, _, _, _, _, _, _, _, _, _, _, _, _, rfl, _⟩ := h; rfl)
  · exact (pss_one (ps_ret (pe_cal cal_fraction hr (by decide) (by rfl) passL (pa_cons (pe_op op_mulX (pe_ix ix_tup (pv 0) pe_int (fun _ _ => rfl)) (pe_ix ix_tup (pv 1) pe_int (fun _ _ => rfl))) (pa_cons (pe_op op_mulX (pe_ix ix_tup (pv 0) pe_int (fun _ _ => rfl)) (pe_ix ix_tup (pv 1) pe_int (fun _ _ => rfl))) pa_nil)))))
theorem sc_plus : FnScope ["one", "other"] ["one", "other"] (defScope s_plus) := ⟨rfl, rfl, rfl, by decide +kernel, rfl, by decide +kernel, by decide +kernel⟩
theorem sc_plus_v0 : (defScope s_plus).names.lookup ("one" : Str) = some .local := by decide +kernel
theorem sc_plus_v1 : (defScope s_plus).names.lookup ("other" : Str) = some .local := by decide +kernel
def t_plus (K : PySem.W.Frag) (cs : Cs) (E : XK) : TS :=
  (tRet (tCall (sp_fraction K cs) [] E0 (tCons (tOp (rI0 fun i j => .int (i + j)) (tOp (rI IntMulOk fun i j => .int (i * j)) (tOp (rIxT K) (tVar 0) (tC (.int 0))) (tOp (rIxT K) (tVar 1) (tC (.int 1)))) (tOp (rI IntMulOk fun i j => .int (i * j)) (tOp (rIxT K) (tVar 1) (tC (.int 0))) (tOp (rIxT K) (tVar 0) (tC (.int 1))))) (tCons (tOp (rI IntMulOk fun i j => .int (i * j)) (tOp (rIxT K) (tVar 0) (tC (.int 1))) (tOp (rIxT K) (tVar 1) (tC (.int 1)))) tNil))))
def sp_plus (K : PySem.W.Frag) (_ : Cs) : Sp := fun vs H Q _ => ∃ (p q : Addr) (a b c d : Nat), vs = [.ref p, .ref q] ∧ SqT K H p [.int a, .int b] ∧ SqT K H q [.int c, .int d] ∧ 0 < b ∧ 0 < d ∧ (a < big ∧ b < big ∧ c < big ∧ d < big) ∧
  ∀ r, H r = none → upR Q (.ref r) (upd H r (.tup [.int ((plusN (a, b) (c, d)).1 : Nat), .int ((plusN (a, b) (c, d)).2 : Nat)]))
theorem c_plus {K : PySem.W.Frag} {cs : Cs} {H : Hp} {p q : Addr} {a b c d : Nat} {Q : PV} {E : XK} (h1 : SqT K H p [.int a, .int b]) (h2 : SqT K H q [.int c, .int d]) (hb : 0 < b) (hd : 0 < d) (hs : a < big ∧ b < big ∧ c < big ∧ d < big)
    (k : ∀ r, H r = none → Q (.ref r) (upd H r (.tup [.int ((plusN (a, b) (c, d)).1 : Nat), .int ((plusN (a, b) (c, d)).2 : Nat)]))) : kC (fun ws H Q => sp_plus K cs ws H Q E) [.ref p, .ref q] H Q :=
  fun H1 e _ qq => ⟨p, q, a, b, c, d, rfl, e.st h1, e.st h2, hb, hd, hs, fun r hr H2 e2 => qq _ _ _ (k r (e.fresh hr)) ((e.ups _ _).tr e2)⟩
theorem pure_plus {K : PySem.W.Frag} {cs : Cs} {H : Hp} {vs : List V} {Q : VK} {E : XK} (h : sp_plus K cs vs H Q E) : t_plus K cs E { nx := fun _ H' => Q .non H', rt := Q } (start ["one", "other"] vs) H := by
  obtain ⟨p, q, a, b, c, d, rfl, h1, h2, hb, hd, ⟨s1, s2, s3, s4⟩, k⟩ := h
  unfold big at s1 s2 s3 s4
  refine fin (σ := [some (.ref p), some (.ref q)]) ?_
  unfold t_plus
  have m1 : IntMulOk (a : Int) d := mulw s1 s4 (by decide) (by decide) (by decide)
  have m2 : IntMulOk (c : Int) b := mulw s3 s2 (by decide) (by decide) (by decide)
  have m3 : IntMulOk (b : Int) d := mulw s2 s4 (by decide) (by decide) (by decide)
  k_clsL
  refine c_fraction (m := a * d + c * b) (n := b * d) (by simp) (by simp) (Nat.mul_pos hb hd) (Nat.lt_trans (Nat.mul_lt_mul'' s2 s4) (by rw [← Nat.pow_add]; exact Nat.pow_lt_pow_right (by decide) (by decide))) fun r hr => ?_
  exact k r hr
theorem ok_plus {P : Program} {w : World} {K : PySem.W.Frag} {mg : Str → Option Value} {base : Heap} {cs : Cs} (D_plus : Dn K mg "plus" s_plus ["one", "other"]) (cal_fraction : Cal P w K mg base (L2.CX P w) 1 "fraction" ["top", "under"] (sp_fraction K cs)) :
    Cal P w K mg base (L2.CX P w) 2 "plus" ["one", "other"] (sp_plus K cs) := by
  refine cal_mk D_plus sc_plus (fun vs H Q E h => ?_) fun f cdv A outer s H vs Q E hr h => ⟨t_plus K cs E, ?_, pure_plus h⟩
  · unfold sp_plus at h
    first | (obtain ⟨rfl, _⟩ := h; rfl) | (obtain ⟨_, rfl, _⟩ := h; rfl) | (obtain ⟨_, _, rfl, _⟩ := h; rfl) | (obtain ⟨_, _, _, rfl, _⟩ := h; rfl) | (obtain ⟨_, _, _, _, rfl, _⟩ := h; rfl) | (obtain ⟨_, _, _, _, _, rfl, _⟩ := h; rfl) | (obtain ⟨_, _, _, _, _, _, rfl, _⟩ := h; rfl) | (obtain ⟨_, _, _, _, _, _, _, rfl, _⟩ := h; rfl) | (obtain ⟨_, _, _, _, _, _, _, _, rfl, _⟩ := h; rfl) | (obtain ⟨_, _, _, _, _, _, _, _, _, rfl, _⟩ := h; rfl) | (obtain ⟨_, _, _, _, _, _, _, _, _, _, rfl, _⟩ := h; rfl) | (obtain ⟨_, _, _, _, _, _, _, _, _, _, _, rfl, _⟩ := h; rfl) | (obtain ⟨_, _, _, _, _, _, _, _, _, _, _, _, rfl, _⟩ := h; rfl) | (obtain ⟨_, _, _, _, _, _, _, _, _, _, _, _, _, rfl, _⟩ := h; rfl) | (obtain ⟨_, _, _, _, _, _, _, _, _, _, _, _, _, _, rfl, _⟩ := h; rfl) | (obtain ⟨_, _, _, _, _, _, _, _, _, _, _, _, _, _, _, rfl, _⟩ := h; rfl)
  · exact (pss_one (ps_ret (pe_cal cal_fraction hr (by decide) (by rfl) passL (pa_cons (pe_op op_add (pe_op op_mulX (pe_ix ix_tup (pv 0) pe_int (fun _ _ => rfl)) (pe_ix ix_tup (pv 1) pe_int (fun _ _ => rfl))) (pe_op op_mulX (pe_ix ix_tup (pv 1) pe_int (fun _ _ => rfl)) (pe_ix ix_tup (pv 0) pe_int (fun _ _ => rfl)))) (pa_cons (pe_op op_mulX (pe_ix ix_tup (pv 0) pe_int (fun _ _ => rfl)) (pe_ix ix_tup (pv 1) pe_int (fun _ _ => rfl))) pa_nil)))))
theorem sc_falling : FnScope ["size", "many", "weight", "found", "part", "turn"] ["size", "many", "weight"] (defScope s_falling) := ⟨rfl, rfl, rfl, by decide +kernel, rfl, by decide +kernel, by decide +kernel⟩
theorem sc_falling_v0 : (defScope s_falling).names.lookup ("size" : Str) = some .local := by decide +kernel
theorem sc_falling_v1 : (defScope s_falling).names.lookup ("many" : Str) = some .local := by decide +kernel
theorem sc_falling_v2 : (defScope s_falling).names.lookup ("weight" : Str) = some .local := by decide +kernel
theorem sc_falling_v3 : (defScope s_falling).names.lookup ("found" : Str) = some .local := by decide +kernel
theorem sc_falling_v4 : (defScope s_falling).names.lookup ("part" : Str) = some .local := by decide +kernel
theorem sc_falling_v5 : (defScope s_falling).names.lookup ("turn" : Str) = some .local := by decide +kernel
def t_falling (K : PySem.W.Frag) (cs : Cs) (E : XK) : TS :=
  (tSeq (tAsg (tTup (tCons (tC (.int 0)) (tCons (tC (.int 1)) tNil))) (gName 3))
  (tSeq (tAsg (tTup (tCons (tC (.int 1)) (tCons (tC (.int 1)) tNil))) (gName 4))
  (tSeq (tFor (iRng1 (tCons (tOp (rI0 fun i j => .int (i + j)) (tVar 1) (tC (.int 1))) tNil)) (gName 5)
  (tSeq (tAsg (tCall (sp_plus K cs) [] E0 (tCons (tVar 3) (tCons (tCall (sp_times K cs) [] E0 (tCons (tVar 4) (tCons (tTup (tCons (tOp (rI0 fun i j => .int (i + j)) (tC (.int 1)) (tOp (rI IntMulOk fun i j => .int (i * j)) (tVar 2) (tVar 5))) (tCons (tC (.int 1)) tNil))) tNil))) tNil))) (gName 3))
  (tAsg (tCall (sp_times K cs) [] E0 (tCons (tVar 4) (tCons (tTup (tCons (tOp (rI0 fun i j => .int (i - j)) (tVar 1) (tVar 5)) (tCons (tVar 0) tNil))) tNil))) (gName 4))))
  (tRet (tVar 3)))))
def sp_falling (K : PySem.W.Frag) (_ : Cs) : Sp := fun vs H Q _ => ∃ s m w : Nat, vs = [.int s, .int m, .int w] ∧ 0 < s ∧ s ≤ 64 ∧ m ≤ 64 ∧ w ≤ 1 ∧ okF s m w = true ∧ ∀ p, H p = none → upR Q (.ref p) (upd H p (.tup [.int ((fallN s m w).1 : Nat), .int ((fallN s m w).2 : Nat)]))
theorem c_falling {K : PySem.W.Frag} {cs : Cs} {H : Hp} {s m w : Nat} {i j l : Int} {Q : PV} {E : XK} (hi : i = s) (hj : j = m) (hl : l = w) (h0 : 0 < s) (h1 : s ≤ 64) (h2 : m ≤ 64) (hw : w ≤ 1) (ok : okF s m w = true)
    (k : ∀ p, H p = none → Q (.ref p) (upd H p (.tup [.int ((fallN s m w).1 : Nat), .int ((fallN s m w).2 : Nat)]))) : kC (fun ws H Q => sp_falling K cs ws H Q E) [.int i, .int j, .int l] H Q := by
  subst hi hj hl
  exact fun H1 e _ q => ⟨s, m, w, rfl, h0, h1, h2, hw, ok, fun p hp H2 e2 => q _ _ _ (k p (e.fresh hp)) ((e.ups _ _).tr e2)⟩
theorem pure_falling {K : PySem.W.Frag} {cs : Cs} {H : Hp} {vs : List V} {Q : VK} {E : XK} (h : sp_falling K cs vs H Q E) : t_falling K cs E { nx := fun _ H' => Q .non H', rt := Q } (start ["size", "many", "weight", "found", "part", "turn"] vs) H := by
  obtain ⟨s, m, w, rfl, h0, h1, h2, hw, ok, k⟩ := h
  refine fin (σ := [some (.int s), some (.int m), some (.int w), none, none, none]) ?_
  unfold t_falling
  k_clsL
  rename_i p hp q hq
  refine s_for1 (m + 1) (fun i σ H1 => Ex H H1 ∧ ∃ p q z, (H p = none ∧ σ = [some (.int s), some (.int m), some (.int w), some (.ref p), some (.ref q), z]) ∧ H1 p = some (.tup [.int ((stF s m w i).1.1 : Nat), .int ((stF s m w i).1.2 : Nat)]) ∧ SqT K H1 q [.int ((stF s m w i).2.1 : Nat), .int ((stF s m w i).2.2 : Nat)]) ?_
  k_clsL
  refine ⟨by simp, by omega, ⟨by k_offL, p, q, none, ⟨hp, rfl⟩, at_new hq upd_same, SqT.of upd_same⟩, ?_, ?_⟩
  · rintro i σ H1 hi ⟨e1, p, q, z, ⟨hp, rfl⟩, a1, a2⟩
    obtain ⟨o1, o2, o3⟩ := okF_at ok (i := i) (by omega)
    obtain ⟨b1, b2, b3⟩ := okP_iff o1
    obtain ⟨d1, d2, d3⟩ := okP_iff o2
    obtain ⟨g1, g2, g3⟩ := okP_iff o3
    have hb : 65 < big := by decide
    k_clsL
    refine c_times (c := 1 + w * i) (d := 1) (by k_memK) (SqT.of ?_) d3 (by decide) ⟨d1, d2, ?_, by omega⟩ fun r hr => ?_
    · rw [upd_same]; simp
    · have : w * i ≤ 1 * i := Nat.mul_le_mul_right i hw
      omega
    k_clsL
    refine c_plus (SqT.of (at_new hr (at_new (by assumption) a1))) (SqT.of upd_same) b3 g3 ⟨b1, b2, g1, g2⟩ fun r2 hr2 => ?_
    k_clsL
    refine c_times (c := m - i) (d := s) (by k_memK) (SqT.of ?_) d3 h0 ⟨d1, d2, by omega, by omega⟩ fun r3 hr3 => ?_
    · rw [upd_same]
      have : (m : Int) - (i : Int) = ((m - i : Nat) : Int) := by omega
      rw [this]
    k_clsL
    refine ⟨_, ⟨by k_offL, r2, r3, some (.int i), ⟨?_, rfl⟩, at_new hr3 (at_new (by assumption) upd_same), SqT.of upd_same⟩, Ex.rf⟩
    exact (show Ex H _ from by k_offL).fresh hr2
  · rintro σ H1 ⟨e1, p, q, z, ⟨hp, rfl⟩, a1, a2⟩
    k_clsL
    refine upX (k p hp) fun a o h => ?_
    by_cases ha : a = p
    · subst ha
      rw [upd_same] at h
      rw [a1]
      exact h
    · rw [upd_ne ha] at h
      exact e1 _ _ h
theorem ok_falling {P : Program} {w : World} {K : PySem.W.Frag} {mg : Str → Option Value} {base : Heap} {cs : Cs} (D_falling : Dn K mg "falling" s_falling ["size", "many", "weight"]) (cal_times : Cal P w K mg base (L2.CX P w) 2 "times" ["one", "other"] (sp_times K cs)) (cal_plus : Cal P w K mg base (L2.CX P w) 2 "plus" ["one", "other"] (sp_plus K cs)) (m_range : mg "range" = none) :
    Cal P w K mg base (L2.CX P w) 3 "falling" ["size", "many", "weight"] (sp_falling K cs) := by
  refine cal_mk D_falling sc_falling (fun vs H Q E h => ?_) fun f cdv A outer s H vs Q E hr h => ⟨t_falling K cs E, ?_, pure_falling h⟩
  · unfold sp_falling at h
    first | (obtain ⟨rfl, _⟩ := h; rfl) | (obtain ⟨_, rfl, _⟩ := h; rfl) | (obtain ⟨_, _, rfl, _⟩ := h; rfl) | (obtain ⟨_, _, _, rfl, _⟩ := h; rfl) | (obtain ⟨_, _, _, _, rfl, _⟩ := h; rfl) | (obtain ⟨_, _, _, _, _, rfl, _⟩ := h; rfl) | (obtain ⟨_, _, _, _, _, _, rfl, _⟩ := h; rfl) | (obtain ⟨_, _, _, _, _, _, _, rfl, _⟩ := h; rfl) | (obtain ⟨_, _, _, _, _, _, _, _, rfl, _⟩ := h; rfl) | (obtain ⟨_, _, _, _, _, _, _, _, _, rfl, _⟩ := h; rfl) | (obtain ⟨_, _, _, _, _, _, _, _, _, _, rfl, _⟩ := h; rfl) | (obtain ⟨_, _, _, _, _, _, _, _, _, _, _, rfl, _⟩ := h; rfl) | (obtain ⟨_, _, _, _, _, _, _, _, _, _, _, _, rfl, _⟩ := h; rfl) | (obtain ⟨_, _, _, _, _, _, _, _, _, _, _, _, _, rfl, _⟩ := h; rfl) | (obtain ⟨_, _, _, _, _, _, _, _, _, _, _, _, _, _, rfl, _⟩ := h; rfl) | (obtain ⟨_, _, _, _, _, _, _, _, _, _, _, _, _, _, _, rfl, _⟩ := h; rfl)
  · exact (pss_cons (ps_set (i := 3) sc_falling.nd rfl (Or.inl sc_falling_v3) (pe_tup (pa_cons pe_int (pa_cons pe_int pa_nil))))
      (pss_cons (ps_set (i := 4) sc_falling.nd rfl (Or.inl sc_falling_v4) (pe_tup (pa_cons pe_int (pa_cons pe_int pa_nil))))
      (pss_cons (ps_for (passes_of rfl) rfl (pi_range1 (by rfl) m_range (pa_cons (pe_op op_add (pv 1) pe_int) pa_nil)) (pg_name (i := 5) sc_falling.nd rfl (Or.inl sc_falling_v5))
      (pss_cons (ps_set (i := 3) sc_falling.nd rfl (Or.inl sc_falling_v3) (pe_cal cal_plus hr (by decide) (by rfl) passL (pa_cons (pv 3) (pa_cons (pe_cal cal_times hr (by decide) (by rfl) passL (pa_cons (pv 4) (pa_cons (pe_tup (pa_cons (pe_op op_add pe_int (pe_op op_mulX (pv 2) (pv 5))) (pa_cons pe_int pa_nil))) pa_nil))) pa_nil))))
      (pss_one (ps_set (i := 4) sc_falling.nd rfl (Or.inl sc_falling_v4) (pe_cal cal_times hr (by decide) (by rfl) passL (pa_cons (pv 4) (pa_cons (pe_tup (pa_cons (pe_op op_sub (pv 1) (pv 5)) (pa_cons (pv 0) pa_nil))) pa_nil)))))))
      (pss_one (ps_ret (pv 3))))))
theorem sc_half : FnScope ["one"] ["one"] (defScope s_half) := ⟨rfl, rfl, rfl, by decide +kernel, rfl, by decide +kernel, by decide +kernel⟩
theorem sc_half_v0 : (defScope s_half).names.lookup ("one" : Str) = some .local := by decide +kernel
def t_half (K : PySem.W.Frag) (cs : Cs) (E : XK) : TS :=
  (tRet (tCall (sp_fraction K cs) [] E0 (tCons (tOp (rI0 fun i j => .int (i + j)) (tOp (rIxT K) (tVar 0) (tC (.int 0))) (tOp (rIxT K) (tVar 0) (tC (.int 1)))) (tCons (tOp (rI IntMulOk fun i j => .int (i * j)) (tC (.int 2)) (tOp (rIxT K) (tVar 0) (tC (.int 1)))) tNil))))
def sp_half (K : PySem.W.Frag) (_ : Cs) : Sp := fun vs H Q _ => ∃ (p : Addr) (a b : Nat), vs = [.ref p] ∧ SqT K H p [.int a, .int b] ∧ 0 < b ∧ (a < big ∧ b < big) ∧ ∀ r, H r = none → upR Q (.ref r) (upd H r (.tup [.int ((halfN (a, b)).1 : Nat), .int ((halfN (a, b)).2 : Nat)]))
theorem c_half {K : PySem.W.Frag} {cs : Cs} {H : Hp} {p : Addr} {a b : Nat} {Q : PV} {E : XK} (h1 : SqT K H p [.int a, .int b]) (hb : 0 < b) (hs : a < big ∧ b < big) (k : ∀ r, H r = none → Q (.ref r) (upd H r (.tup [.int ((halfN (a, b)).1 : Nat), .int ((halfN (a, b)).2 : Nat)]))) :
    kC (fun ws H Q => sp_half K cs ws H Q E) [.ref p] H Q :=
  fun H1 e _ qq => ⟨p, a, b, rfl, e.st h1, hb, hs, fun r hr H2 e2 => qq _ _ _ (k r (e.fresh hr)) ((e.ups _ _).tr e2)⟩
theorem pure_half {K : PySem.W.Frag} {cs : Cs} {H : Hp} {vs : List V} {Q : VK} {E : XK} (h : sp_half K cs vs H Q E) : t_half K cs E { nx := fun _ H' => Q .non H', rt := Q } (start ["one"] vs) H := by
  obtain ⟨p, a, b, rfl, h1, hb, ⟨s1, s2⟩, k⟩ := h
  unfold big at s1 s2
  refine fin (σ := [some (.ref p)]) ?_
  unfold t_half
  k_clsL
  refine c_fraction (m := a + b) (n := 2 * b) (by simp) (by simp) (by omega) (Nat.lt_of_lt_of_le (Nat.mul_lt_mul_of_pos_left s2 (by decide : 0 < 2)) (by rw [← Nat.pow_succ']; exact Nat.pow_le_pow_right (by decide) (by decide))) fun r hr => ?_
  exact k r hr
theorem ok_half {P : Program} {w : World} {K : PySem.W.Frag} {mg : Str → Option Value} {base : Heap} {cs : Cs} (D_half : Dn K mg "half" s_half ["one"]) (cal_fraction : Cal P w K mg base (L2.CX P w) 1 "fraction" ["top", "under"] (sp_fraction K cs)) :
    Cal P w K mg base (L2.CX P w) 2 "half" ["one"] (sp_half K cs) := by
  refine cal_mk D_half sc_half (fun vs H Q E h => ?_) fun f cdv A outer s H vs Q E hr h => ⟨t_half K cs E, ?_, pure_half h⟩
  · unfold sp_half at h
    first | (obtain ⟨rfl, _⟩ := h; rfl) | (obtain ⟨_, rfl, _⟩ := h; rfl) | (obtain ⟨_, _, rfl, _⟩ := h; rfl) | (obtain ⟨_, _, _, rfl, _⟩ := h; rfl) | (obtain ⟨_, _, _, _, rfl, _⟩ := h; rfl) | (obtain ⟨_, _, _, _, _, rfl, _⟩ := h; rfl) | (obtain ⟨_, _, _, _, _, _, rfl, _⟩ := h; rfl) | (obtain ⟨_, _, _, _, _, _, _, rfl, _⟩ := h; rfl) | (obtain ⟨_, _, _, _, _, _, _, _, rfl, _⟩ := h; rfl) | (obtain ⟨_, _, _, _, _, _, _, _, _, rfl, _⟩ := h; rfl) | (obtain ⟨_, _, _, _, _, _, _, _, _, _, rfl, _⟩ := h; rfl) | (obtain ⟨_, _, _, _, _, _, _, _, _, _, _, rfl, _⟩ := h; rfl) | (obtain ⟨_, _, _, _, _, _, _, _, _, _, _, _, rfl, _⟩ := h; rfl) | (obtain ⟨_, _, _, _, _, _, _, _, _, _, _, _, _, rfl, _⟩ := h; rfl) | (obtain ⟨_, _, _, _, _, _, _, _, _, _, _, _, _, _, rfl, _⟩ := h; rfl) | (obtain ⟨_, _, _, _, _, _, _, _, _, _, _, _, _, _, _, rfl, _⟩ := h; rfl)
  · exact (pss_one (ps_ret (pe_cal cal_fraction hr (by decide) (by rfl) passL (pa_cons (pe_op op_add (pe_ix ix_tup (pv 0) pe_int (fun _ _ => rfl)) (pe_ix ix_tup (pv 0) pe_int (fun _ _ => rfl))) (pa_cons (pe_op op_mulX pe_int (pe_ix ix_tup (pv 0) pe_int (fun _ _ => rfl))) pa_nil)))))
theorem sc_miss : FnScope ["size", "many"] ["size", "many"] (defScope s_miss) := ⟨rfl, rfl, rfl, by decide +kernel, rfl, by decide +kernel, by decide +kernel⟩
theorem sc_miss_v0 : (defScope s_miss).names.lookup ("size" : Str) = some .local := by decide +kernel
theorem sc_miss_v1 : (defScope s_miss).names.lookup ("many" : Str) = some .local := by decide +kernel
def t_miss (K : PySem.W.Frag) (cs : Cs) (E : XK) : TS :=
  (tSeq (tDrop (tCall (sp_need_size K cs) [] E (tCons (tVar 0) tNil)))
  (tSeq (tDrop (tCall (sp_need_count K cs) [] E (tCons (tVar 1) (tCons (tC (.int 0)) (tCons (tOp (rI0 fun i j => .int (i - j)) (tVar 0) (tC (.int 1))) tNil)))))
  (tRet (tCall (sp_half K cs) [] E0 (tCons (tCall (sp_falling K cs) [] E0 (tCons (tVar 0) (tCons (tVar 1) (tCons (tC (.int 1)) tNil)))) tNil)))))
/-- a pair of a size and a count that is one -/
def sp_miss (K : PySem.W.Frag) (cs : Cs) : Sp := fun vs H Q E => ∃ x T y T', vs = [x, y] ∧ Ty5 K H x T ∧ Ty5 K H y T' ∧ ((∃ s m : Nat, x = .int s ∧ y = .int m ∧ 2 ≤ s ∧ s ≤ 64 ∧ 0 ≤ m ∧ m + 1 ≤ s ∧ okF s (m) 1 = true ∧ okP (fallN s (m) 1) = true ∧
  ∀ p, H p = none → upR Q (.ref p) (upd H p (.tup [.int ((missN s m).1 : Nat), .int ((missN s m).2 : Nat)]))) ∨ ((∀ s : Nat, x = .int s → cnt x 2 64 = true → cnt y 0 (s - 1) = false) ∧ ∀ H2, Ex H H2 → E (.ref cs.BadSize) none H2))
theorem c_miss {K : PySem.W.Frag} {cs : Cs} {H : Hp} {s m : Nat} {i j : Int} {Q : PV} {E : XK} (hi : i = s) (hj : j = m) (h2 : 2 ≤ s) (h64 : s ≤ 64) (h1 : 0 ≤ m) (hm : m + 1 ≤ s) (ok : okF s (m) 1 = true) (ok2 : okP (fallN s (m) 1) = true)
    (k : ∀ p, H p = none → Q (.ref p) (upd H p (.tup [.int ((missN s m).1 : Nat), .int ((missN s m).2 : Nat)]))) : kC (fun ws H Q => sp_miss K cs ws H Q E) [.int i, .int j] H Q := by
  subst hi hj
  exact fun H1 e _ q => ⟨_, _, _, _, rfl, .int _, .int _, .inl ⟨s, m, rfl, rfl, h2, h64, h1, hm, ok, ok2, fun p hp H2 e2 => q _ _ _ (k p (e.fresh hp)) ((e.ups _ _).tr e2)⟩⟩
theorem cE_miss {K : PySem.W.Frag} {cs : Cs} {H : Hp} {x y : V} {T T' : String} {Q : PV} {E : XK} (hx : Ty5 K H x T) (hy : Ty5 K H y T') (hb : ∀ s : Nat, x = .int s → cnt x 2 64 = true → cnt y 0 (s - 1) = false) (k : ∀ H2, Ex H H2 → E (.ref cs.BadSize) none H2) : kC (fun ws H Q => sp_miss K cs ws H Q E) [x, y] H Q :=
  fun H1 e _ q => ⟨_, _, _, _, rfl, hx.up e, hy.up e, .inr ⟨hb, fun H2 e2 => k H2 (e.tr e2)⟩⟩
theorem pure_miss {K : PySem.W.Frag} {cs : Cs} {H : Hp} {vs : List V} {Q : VK} {E : XK} (h : sp_miss K cs vs H Q E) : t_miss K cs E { nx := fun _ H' => Q .non H', rt := Q } (start ["size", "many"] vs) H := by
  obtain ⟨x, T, y, T', rfl, hx, hy, h⟩ := h
  refine fin (σ := [some x, some y]) ?_
  unfold t_miss
  k_clsL
  rcases h with ⟨s, m, rfl, rfl, h2, h64, h1, hm, ok, ok2, k⟩ | ⟨hb, r⟩
  · have e1 : cnt (.int (s : Int)) 2 64 = true := cnt_ok (by omega) (by omega)
    have e2 : cnt (.int (m : Int)) 0 ((s : Int) - 1) = true := cnt_ok (by omega) (by omega)
    rw [e1]
    refine ⟨fun _ => ?_, fun h => Bool.noConfusion h⟩
    k_clsL
    rw [e2]
    refine ⟨fun _ => ?_, fun h => Bool.noConfusion h⟩
    k_clsL
    obtain ⟨b1, b2, b3⟩ := okP_iff ok2
    refine c_falling (s := s) (m := m) (w := 1) rfl (by omega) (by rfl) (by omega) (by omega) (by omega) (by decide) ok fun p hp => ?_
    k_clsL
    refine c_half (SqT.of upd_same) b3 ⟨b1, b2⟩ fun r hr => ?_
    refine upX (k r ((Ex.news hp).fresh hr)) fun a o h => ?_
    by_cases ha : a = r
    · subst ha
      rw [upd_same] at h ⊢
      exact h
    · rw [upd_ne ha] at h ⊢
      exact (Ex.news hp) _ _ h
  · refine ⟨fun h1 => ?_, fun _ => r⟩
    cases hx with
    | int i =>
      obtain ⟨s, hs⟩ : ∃ s : Nat, i = s := ⟨i.toNat, by simp [cnt] at h1; omega⟩
      subst hs
      have e2 := hb s rfl h1
      k_clsL
      rw [e2]
      exact ⟨fun h => Bool.noConfusion h, fun _ => r⟩
    | _ => simp [cnt] at h1
theorem ok_miss {P : Program} {w : World} {K : PySem.W.Frag} {mg : Str → Option Value} {base : Heap} {cs : Cs} (D_miss : Dn K mg "miss" s_miss ["size", "many"]) (cal_need_size : Cal P w K mg base (L2.CX P w) 2 "need_size" ["size"] (sp_need_size K cs)) (cal_need_count : Cal P w K mg base (L2.CX P w) 2 "need_count" ["number", "least", "most"] (sp_need_count K cs)) (cal_falling : Cal P w K mg base (L2.CX P w) 3 "falling" ["size", "many", "weight"] (sp_falling K cs)) (cal_half : Cal P w K mg base (L2.CX P w) 2 "half" ["one"] (sp_half K cs)) :
    Cal P w K mg base (L2.CX P w) 4 "miss" ["size", "many"] (sp_miss K cs) := by
  refine cal_mk D_miss sc_miss (fun vs H Q E h => ?_) fun f cdv A outer s H vs Q E hr h => ⟨t_miss K cs E, ?_, pure_miss h⟩
  · unfold sp_miss at h
    first | (obtain ⟨rfl, _⟩ := h; rfl) | (obtain ⟨_, rfl, _⟩ := h; rfl) | (obtain ⟨_, _, rfl, _⟩ := h; rfl) | (obtain ⟨_, _, _, rfl, _⟩ := h; rfl) | (obtain ⟨_, _, _, _, rfl, _⟩ := h; rfl) | (obtain ⟨_, _, _, _, _, rfl, _⟩ := h; rfl) | (obtain ⟨_, _, _, _, _, _, rfl, _⟩ := h; rfl) | (obtain ⟨_, _, _, _, _, _, _, rfl, _⟩ := h; rfl) | (obtain ⟨_, _, _, _, _, _, _, _, rfl, _⟩ := h; rfl) | (obtain ⟨_, _, _, _, _, _, _, _, _, rfl, _⟩ := h; rfl) | (obtain ⟨_, _, _, _, _, _, _, _, _, _, rfl, _⟩ := h; rfl) | (obtain ⟨_, _, _, _, _, _, _, _, _, _, _, rfl, _⟩ := h; rfl) | (obtain ⟨_, _, _, _, _, _, _, _, _, _, _, _, rfl, _⟩ := h; rfl) | (obtain ⟨_, _, _, _, _, _, _, _, _, _, _, _, _, rfl, _⟩ := h; rfl) | (obtain ⟨_, _, _, _, _, _, _, _, _, _, _, _, _, _, rfl, _⟩ := h; rfl) | (obtain ⟨_, _, _, _, _, _, _, _, _, _, _, _, _, _, _, rfl, _⟩ := h; rfl)
  · exact (pss_cons (ps_expr (pe_cal cal_need_size hr (by decide) (by rfl) (passes_call (takes_of (E := E) rfl rfl rfl rfl) fun _ _ _ _ h => h) (pa_cons (pv 0) pa_nil)))
      (pss_cons (ps_expr (pe_cal cal_need_count hr (by decide) (by rfl) (passes_call (takes_of (E := E) rfl rfl rfl rfl) fun _ _ _ _ h => h) (pa_cons (pv 1) (pa_cons pe_int (pa_cons (pe_op op_sub (pv 0) pe_int) pa_nil)))))
      (pss_one (ps_ret (pe_cal cal_half hr (by decide) (by rfl) passL (pa_cons (pe_cal cal_falling hr (by decide) (by rfl) passL (pa_cons (pv 0) (pa_cons (pv 1) (pa_cons pe_int pa_nil)))) pa_nil))))))
theorem sc__law_under : FnScope ["_law_one", "_law_other"] ["_law_one", "_law_other"] (defScope s__law_under) := ⟨rfl, rfl, rfl, by decide +kernel, rfl, by decide +kernel, by decide +kernel⟩
theorem sc__law_under_v0 : (defScope s__law_under).names.lookup ("_law_one" : Str) = some .local := by decide +kernel
theorem sc__law_under_v1 : (defScope s__law_under).names.lookup ("_law_other" : Str) = some .local := by decide +kernel
def t__law_under (K : PySem.W.Frag) (cs : Cs) (E : XK) : TS :=
  (tRet (tOp (rI0 fun i j => .bl (decide (i < j))) (tOp (rI IntMulOk fun i j => .int (i * j)) (tOp (rIxT K) (tVar 0) (tC (.int 0))) (tOp (rIxT K) (tVar 1) (tC (.int 1)))) (tOp (rI IntMulOk fun i j => .int (i * j)) (tOp (rIxT K) (tVar 1) (tC (.int 0))) (tOp (rIxT K) (tVar 0) (tC (.int 1))))))
def sp__law_under (K : PySem.W.Frag) (_ : Cs) : Sp := fun vs H Q _ => ∃ (p q : Addr) (a b c d : Nat), vs = [.ref p, .ref q] ∧ SqT K H p [.int a, .int b] ∧ SqT K H q [.int c, .int d] ∧ (a < big ∧ b < big ∧ c < big ∧ d < big) ∧ upR Q (.bl (underN (a, b) (c, d))) H
theorem c__law_under {K : PySem.W.Frag} {cs : Cs} {H : Hp} {p q : Addr} {a b c d : Nat} {Q : PV} {E : XK} (h1 : SqT K H p [.int a, .int b]) (h2 : SqT K H q [.int c, .int d]) (hs : a < big ∧ b < big ∧ c < big ∧ d < big)
    (k : Q (.bl (underN (a, b) (c, d))) H) : kC (fun ws H Q => sp__law_under K cs ws H Q E) [.ref p, .ref q] H Q :=
  fun H1 e _ qq => ⟨p, q, a, b, c, d, rfl, e.st h1, e.st h2, hs, fun H2 e2 => qq _ _ _ k (e.tr e2)⟩
theorem pure__law_under {K : PySem.W.Frag} {cs : Cs} {H : Hp} {vs : List V} {Q : VK} {E : XK} (h : sp__law_under K cs vs H Q E) : t__law_under K cs E { nx := fun _ H' => Q .non H', rt := Q } (start ["_law_one", "_law_other"] vs) H := by
  obtain ⟨p, q, a, b, c, d, rfl, h1, h2, ⟨s1, s2, s3, s4⟩, k⟩ := h
  unfold big at s1 s2 s3 s4
  refine fin (σ := [some (.ref p), some (.ref q)]) ?_
  unfold t__law_under
  have m1 : IntMulOk (a : Int) d := mulw s1 s4 (by decide) (by decide) (by decide)
  have m2 : IntMulOk (c : Int) b := mulw s3 s2 (by decide) (by decide) (by decide)
  k_clsL
  refine upE k ?_
  unfold underN
  congr 1
  rw [decide_eq_decide, ← Int.natCast_mul, ← Int.natCast_mul]
  exact Int.ofNat_lt.symm
theorem ok__law_under {P : Program} {w : World} {K : PySem.W.Frag} {mg : Str → Option Value} {base : Heap} {cs : Cs} (D__law_under : Dn K mg "_law_under" s__law_under ["_law_one", "_law_other"]) :
    Cal P w K mg base (L2.CX P w) 1 "_law_under" ["_law_one", "_law_other"] (sp__law_under K cs) := by
  refine cal_mk D__law_under sc__law_under (fun vs H Q E h => ?_) fun f cdv A outer s H vs Q E hr h => ⟨t__law_under K cs E, ?_, pure__law_under h⟩
  · unfold sp__law_under at h
    first | (obtain ⟨rfl, _⟩ := h; rfl) | (obtain ⟨_, rfl, _⟩ := h; rfl) | (obtain ⟨_, _, rfl, _⟩ := h; rfl) | (obtain ⟨_, _, _, rfl, _⟩ := h; rfl) | (obtain ⟨_, _, _, _, rfl, _⟩ := h; rfl) | (obtain ⟨_, _, _, _, _, rfl, _⟩ := h; rfl) | (obtain ⟨_, _, _, _, _, _, rfl, _⟩ := h; rfl) | (obtain ⟨_, _, _, _, _, _, _, rfl, _⟩ := h; rfl) | (obtain ⟨_, _, _, _, _, _, _, _, rfl, _⟩ := h; rfl) | (obtain ⟨_, _, _, _, _, _, _, _, _, rfl, _⟩ := h; rfl) | (obtain ⟨_, _, _, _, _, _, _, _, _, _, rfl, _⟩ := h; rfl) | (obtain ⟨_, _, _, _, _, _, _, _, _, _, _, rfl, _⟩ := h; rfl) | (obtain ⟨_, _, _, _, _, _, _, _, _, _, _, _, rfl, _⟩ := h; rfl) | (obtain ⟨_, _, _, _, _, _, _, _, _, _, _, _, _, rfl, _⟩ := h; rfl) | (obtain ⟨_, _, _, _, _, _, _, _, _, _, _, _, _, _, rfl, _⟩ := h; rfl) | (obtain ⟨_, _, _, _, _, _, _, _, _, _, _, _, _, _, _, rfl, _⟩ := h; rfl)
  · exact (pss_one (ps_ret (pe_cmpR op_lt (pe_op op_mulX (pe_ix ix_tup (pv 0) pe_int (fun _ _ => rfl)) (pe_ix ix_tup (pv 1) pe_int (fun _ _ => rfl))) (pe_op op_mulX (pe_ix ix_tup (pv 1) pe_int (fun _ _ => rfl)) (pe_ix ix_tup (pv 0) pe_int (fun _ _ => rfl))) (nomark _))))
theorem sc_hit : FnScope ["size", "many"] ["size", "many"] (defScope s_hit) := ⟨rfl, rfl, rfl, by decide +kernel, rfl, by decide +kernel, by decide +kernel⟩
theorem sc_hit_v0 : (defScope s_hit).names.lookup ("size" : Str) = some .local := by decide +kernel
theorem sc_hit_v1 : (defScope s_hit).names.lookup ("many" : Str) = some .local := by decide +kernel
def t_hit (K : PySem.W.Frag) (cs : Cs) (E : XK) : TS :=
  (tSeq (tDrop (tCall (sp_need_size K cs) [] E (tCons (tVar 0) tNil)))
  (tSeq (tDrop (tCall (sp_need_count K cs) [] E (tCons (tVar 1) (tCons (tC (.int 1)) (tCons (tOp (rI0 fun i j => .int (i - j)) (tVar 0) (tC (.int 1))) tNil)))))
  (tRet (tCall (sp_half K cs) [] E0 (tCons (tCall (sp_falling K cs) [] E0 (tCons (tVar 0) (tCons (tOp (rI0 fun i j => .int (i - j)) (tVar 1) (tC (.int 1))) (tCons (tC (.int 0)) tNil)))) tNil)))))
/-- a pair of a size and a count that is one -/
def sp_hit (K : PySem.W.Frag) (cs : Cs) : Sp := fun vs H Q E => ∃ x T y T', vs = [x, y] ∧ Ty5 K H x T ∧ Ty5 K H y T' ∧ ((∃ s m : Nat, x = .int s ∧ y = .int m ∧ 2 ≤ s ∧ s ≤ 64 ∧ 1 ≤ m ∧ m + 1 ≤ s ∧ okF s (m - 1) 0 = true ∧ okP (fallN s (m - 1) 0) = true ∧
  ∀ p, H p = none → upR Q (.ref p) (upd H p (.tup [.int ((hitN s m).1 : Nat), .int ((hitN s m).2 : Nat)]))) ∨ ((∀ s : Nat, x = .int s → cnt x 2 64 = true → cnt y 1 (s - 1) = false) ∧ ∀ H2, Ex H H2 → E (.ref cs.BadSize) none H2))
theorem c_hit {K : PySem.W.Frag} {cs : Cs} {H : Hp} {s m : Nat} {i j : Int} {Q : PV} {E : XK} (hi : i = s) (hj : j = m) (h2 : 2 ≤ s) (h64 : s ≤ 64) (h1 : 1 ≤ m) (hm : m + 1 ≤ s) (ok : okF s (m - 1) 0 = true) (ok2 : okP (fallN s (m - 1) 0) = true)
    (k : ∀ p, H p = none → Q (.ref p) (upd H p (.tup [.int ((hitN s m).1 : Nat), .int ((hitN s m).2 : Nat)]))) : kC (fun ws H Q => sp_hit K cs ws H Q E) [.int i, .int j] H Q := by
  subst hi hj
  exact fun H1 e _ q => ⟨_, _, _, _, rfl, .int _, .int _, .inl ⟨s, m, rfl, rfl, h2, h64, h1, hm, ok, ok2, fun p hp H2 e2 => q _ _ _ (k p (e.fresh hp)) ((e.ups _ _).tr e2)⟩⟩
theorem cE_hit {K : PySem.W.Frag} {cs : Cs} {H : Hp} {x y : V} {T T' : String} {Q : PV} {E : XK} (hx : Ty5 K H x T) (hy : Ty5 K H y T') (hb : ∀ s : Nat, x = .int s → cnt x 2 64 = true → cnt y 1 (s - 1) = false) (k : ∀ H2, Ex H H2 → E (.ref cs.BadSize) none H2) : kC (fun ws H Q => sp_hit K cs ws H Q E) [x, y] H Q :=
  fun H1 e _ q => ⟨_, _, _, _, rfl, hx.up e, hy.up e, .inr ⟨hb, fun H2 e2 => k H2 (e.tr e2)⟩⟩
theorem pure_hit {K : PySem.W.Frag} {cs : Cs} {H : Hp} {vs : List V} {Q : VK} {E : XK} (h : sp_hit K cs vs H Q E) : t_hit K cs E { nx := fun _ H' => Q .non H', rt := Q } (start ["size", "many"] vs) H := by
  obtain ⟨x, T, y, T', rfl, hx, hy, h⟩ := h
  refine fin (σ := [some x, some y]) ?_
  unfold t_hit
  k_clsL
  rcases h with ⟨s, m, rfl, rfl, h2, h64, h1, hm, ok, ok2, k⟩ | ⟨hb, r⟩
  · have e1 : cnt (.int (s : Int)) 2 64 = true := cnt_ok (by omega) (by omega)
    have e2 : cnt (.int (m : Int)) 1 ((s : Int) - 1) = true := cnt_ok (by omega) (by omega)
    rw [e1]
    refine ⟨fun _ => ?_, fun h => Bool.noConfusion h⟩
    k_clsL
    rw [e2]
    refine ⟨fun _ => ?_, fun h => Bool.noConfusion h⟩
    k_clsL
    obtain ⟨b1, b2, b3⟩ := okP_iff ok2
    refine c_falling (s := s) (m := m - 1) (w := 0) rfl (by omega) (by rfl) (by omega) (by omega) (by omega) (by decide) ok fun p hp => ?_
    k_clsL
    refine c_half (SqT.of upd_same) b3 ⟨b1, b2⟩ fun r hr => ?_
    refine upX (k r ((Ex.news hp).fresh hr)) fun a o h => ?_
    by_cases ha : a = r
    · subst ha
      rw [upd_same] at h ⊢
      exact h
    · rw [upd_ne ha] at h ⊢
      exact (Ex.news hp) _ _ h
  · refine ⟨fun h1 => ?_, fun _ => r⟩
    cases hx with
    | int i =>
      obtain ⟨s, hs⟩ : ∃ s : Nat, i = s := ⟨i.toNat, by simp [cnt] at h1; omega⟩
      subst hs
      have e2 := hb s rfl h1
      k_clsL
      rw [e2]
      exact ⟨fun h => Bool.noConfusion h, fun _ => r⟩
    | _ => simp [cnt] at h1
theorem ok_hit {P : Program} {w : World} {K : PySem.W.Frag} {mg : Str → Option Value} {base : Heap} {cs : Cs} (D_hit : Dn K mg "hit" s_hit ["size", "many"]) (cal_need_size : Cal P w K mg base (L2.CX P w) 2 "need_size" ["size"] (sp_need_size K cs)) (cal_need_count : Cal P w K mg base (L2.CX P w) 2 "need_count" ["number", "least", "most"] (sp_need_count K cs)) (cal_falling : Cal P w K mg base (L2.CX P w) 3 "falling" ["size", "many", "weight"] (sp_falling K cs)) (cal_half : Cal P w K mg base (L2.CX P w) 2 "half" ["one"] (sp_half K cs)) :
    Cal P w K mg base (L2.CX P w) 4 "hit" ["size", "many"] (sp_hit K cs) := by
  refine cal_mk D_hit sc_hit (fun vs H Q E h => ?_) fun f cdv A outer s H vs Q E hr h => ⟨t_hit K cs E, ?_, pure_hit h⟩
  · unfold sp_hit at h
    first | (obtain ⟨rfl, _⟩ := h; rfl) | (obtain ⟨_, rfl, _⟩ := h; rfl) | (obtain ⟨_, _, rfl, _⟩ := h; rfl) | (obtain ⟨_, _, _, rfl, _⟩ := h; rfl) | (obtain ⟨_, _, _, _, rfl, _⟩ := h; rfl) | (obtain ⟨_, _, _, _, _, rfl, _⟩ := h; rfl) | (obtain ⟨_, _, _, _, _, _, rfl, _⟩ := h; rfl) | (obtain ⟨_, _, _, _, _, _, _, rfl, _⟩ := h; rfl) | (obtain ⟨_, _, _, _, _, _, _, _, rfl, _⟩ := h; rfl) | (obtain ⟨_, _, _, _, _, _, _, _, _, rfl, _⟩ := h; rfl) | (obtain ⟨_, _, _, _, _, _, _, _, _, _, rfl, _⟩ := h; rfl) | (obtain ⟨_, _, _, _, _, _, _, _, _, _, _, rfl, _⟩ := h; rfl) | (obtain ⟨_, _, _, _, _, _, _, _, _, _, _, _, rfl, _⟩ := h; rfl) | (obtain ⟨_, _, _, _, _, _, _, _, _, _, _, _, _, rfl, _⟩ := h; rfl) | (obtain ⟨_, _, _, _, _, _, _, _, _, _, _, _, _, _, rfl, _⟩ := h; rfl) | (obtain ⟨_, _, _, _, _, _, _, _, _, _, _, _, _, _, _, rfl, _⟩ := h; rfl)
  · exact (pss_cons (ps_expr (pe_cal cal_need_size hr (by decide) (by rfl) (passes_call (takes_of (E := E) rfl rfl rfl rfl) fun _ _ _ _ h => h) (pa_cons (pv 0) pa_nil)))
      (pss_cons (ps_expr (pe_cal cal_need_count hr (by decide) (by rfl) (passes_call (takes_of (E := E) rfl rfl rfl rfl) fun _ _ _ _ h => h) (pa_cons (pv 1) (pa_cons pe_int (pa_cons (pe_op op_sub (pv 0) pe_int) pa_nil)))))
      (pss_one (ps_ret (pe_cal cal_half hr (by decide) (by rfl) passL (pa_cons (pe_cal cal_falling hr (by decide) (by rfl) passL (pa_cons (pv 0) (pa_cons (pe_op op_sub (pv 1) pe_int) (pa_cons pe_int pa_nil)))) pa_nil))))))
theorem sc__law_made : FnScope ["_law_top", "_law_under_here", "_law_one", "_law_other"] ["_law_top", "_law_under_here"] (defScope s__law_made) := ⟨rfl, rfl, rfl, by decide +kernel, rfl, by decide +kernel, by decide +kernel⟩
theorem sc__law_made_v0 : (defScope s__law_made).names.lookup ("_law_top" : Str) = some .local := by decide +kernel
theorem sc__law_made_v1 : (defScope s__law_made).names.lookup ("_law_under_here" : Str) = some .local := by decide +kernel
theorem sc__law_made_v2 : (defScope s__law_made).names.lookup ("_law_one" : Str) = some .local := by decide +kernel
theorem sc__law_made_v3 : (defScope s__law_made).names.lookup ("_law_other" : Str) = some .local := by decide +kernel
def t__law_made (K : PySem.W.Frag) (cs : Cs) (E : XK) : TS :=
  (tSeq (tPar 2 3 (tCons (tCB (fun xs H Q => ∃ i, xs = [V.int i] ∧ Q (.int (if i < 0 then -i else i)) H) (tCons (tVar 0) tNil)) (tCons (tVar 1) tNil)))
  (tSeq (tWhile (tTest (tOp (rI0 fun i j => .bl (decide (j < i))) (tVar 3) (tC (.int 0))))
  (tPar 2 3 (tCons (tVar 3) (tCons (tOp (rI (fun _ j => 0 < j) fun i j => .int (i % j)) (tVar 2) (tVar 3)) tNil))))
  (tRet (tTup (tCons (tOp (rI CDivW fun i j => .int (i / j)) (tVar 0) (tVar 2)) (tCons (tOp (rI CDivW fun i j => .int (i / j)) (tVar 1) (tVar 2)) tNil))))))
def sp__law_made (K : PySem.W.Frag) (_ : Cs) : Sp := fun vs H Q _ => ∃ m n : Nat, vs = [.int (m : Int), .int (n : Int)] ∧ 0 < n ∧ n < 2 ^ 4000 ∧ ∀ p, H p = none → upR Q (.ref p) (upd H p (.tup [.int ((fr m n).1 : Nat), .int ((fr m n).2 : Nat)]))
theorem c__law_made {K : PySem.W.Frag} {cs : Cs} {H : Hp} {i j : Int} {m n : Nat} {Q : PV} {E : XK} (hi : i = (m : Int)) (hj : j = (n : Int)) (h0 : 0 < n) (hb : n < 2 ^ 4000) (k : ∀ p, H p = none → Q (.ref p) (upd H p (.tup [.int ((fr m n).1 : Nat), .int ((fr m n).2 : Nat)]))) :
    kC (fun ws H Q => sp__law_made K cs ws H Q E) [.int i, .int j] H Q := by
  subst hi hj
  exact fun H1 e _ q => ⟨m, n, rfl, h0, hb, fun p hp H2 e2 => q _ _ _ (k p (e.fresh hp)) ((e.ups _ _).tr e2)⟩
theorem pure__law_made {K : PySem.W.Frag} {cs : Cs} {H : Hp} {vs : List V} {Q : VK} {E : XK} (h : sp__law_made K cs vs H Q E) : t__law_made K cs E { nx := fun _ H' => Q .non H', rt := Q } (start ["_law_top", "_law_under_here", "_law_one", "_law_other"] vs) H := by
  obtain ⟨m, n, rfl, h0, hb, q⟩ := h
  refine fin (σ := [some (.int m), some (.int n), none, none]) ?_
  unfold t__law_made
  k_clsL
  refine s_while (fun z s H1 => ∃ a b : Nat, z = b ∧ s = [some (.int m), some (.int n), some (.int a), some (.int b)] ∧ Nat.gcd a b = Nat.gcd m n ∧ H1 = H) n ⟨m, n, rfl, by rw [abs_nat]; rfl, rfl, rfl⟩ ?_
  rintro z s H1 ⟨a, b, rfl, rfl, hg, rfl⟩
  k_clsL
  refine ⟨fun h1 => ?_, fun h1 => ?_⟩
  · have hb0 : 0 < z := by simpa using h1
    k_clsL
    refine ⟨a % z, _, Nat.mod_lt _ hb0, ⟨z, a % z, rfl, ?_, ?_, rfl⟩, Ex.rf⟩
    · rw [Int.natCast_emod]; rfl
    · rw [gcd_turn]; exact hg
  · have hb0 : z = 0 := by simpa using h1
    subst hb0
    rw [Nat.gcd_zero_right] at hg
    subst hg
    have hp : 0 < Nat.gcd m n := Nat.gcd_pos_of_pos_right m h0
    have hl : Nat.gcd m n ≤ n := Nat.le_of_dvd h0 (Nat.gcd_dvd_right m n)
    have hd : ∀ i : Int, CDivW i ((Nat.gcd m n : Nat) : Int) := fun i => divw hp (Nat.lt_of_le_of_lt hl hb) (by decide) (by decide)
    have hd1 := hd m
    have hd2 := hd n
    k_clsL
    exact q _ (by assumption)
theorem ok__law_made {P : Program} {w : World} {K : PySem.W.Frag} {mg : Str → Option Value} {base : Heap} {cs : Cs} (D__law_made : Dn K mg "_law_made" s__law_made ["_law_top", "_law_under_here"]) (m_abs : mg "abs" = none) :
    Cal P w K mg base (L2.CX P w) 1 "_law_made" ["_law_top", "_law_under_here"] (sp__law_made K cs) := by
  refine cal_mk D__law_made sc__law_made (fun vs H Q E h => ?_) fun f cdv A outer s H vs Q E hr h => ⟨t__law_made K cs E, ?_, pure__law_made h⟩
  · unfold sp__law_made at h
    first | (obtain ⟨rfl, _⟩ := h; rfl) | (obtain ⟨_, rfl, _⟩ := h; rfl) | (obtain ⟨_, _, rfl, _⟩ := h; rfl) | (obtain ⟨_, _, _, rfl, _⟩ := h; rfl) | (obtain ⟨_, _, _, _, rfl, _⟩ := h; rfl) | (obtain ⟨_, _, _, _, _, rfl, _⟩ := h; rfl) | (obtain ⟨_, _, _, _, _, _, rfl, _⟩ := h; rfl) | (obtain ⟨_, _, _, _, _, _, _, rfl, _⟩ := h; rfl) | (obtain ⟨_, _, _, _, _, _, _, _, rfl, _⟩ := h; rfl) | (obtain ⟨_, _, _, _, _, _, _, _, _, rfl, _⟩ := h; rfl) | (obtain ⟨_, _, _, _, _, _, _, _, _, _, rfl, _⟩ := h; rfl) | (obtain ⟨_, _, _, _, _, _, _, _, _, _, _, rfl, _⟩ := h; rfl) | (obtain ⟨_, _, _, _, _, _, _, _, _, _, _, _, rfl, _⟩ := h; rfl) | (obtain ⟨_, _, _, _, _, _, _, _, _, _, _, _, _, rfl, _⟩ := h; rfl) | (obtain ⟨_, _, _, _, _, _, _, _, _, _, _, _, _, _, rfl, _⟩ := h; rfl) | (obtain ⟨_, _, _, _, _, _, _, _, _, _, _, _, _, _, _, rfl, _⟩ := h; rfl)
  · exact (pss_cons (ps_par (i := 2) (j := 3) rfl sc__law_made.nd rfl rfl (by decide) sc__law_made_v2 sc__law_made_v3 (pa_cons (pe_callB call_abs (by rfl) m_abs (by decide +kernel) (pa_cons (pv 0) pa_nil)) (pa_cons (pv 1) pa_nil)) (by rfl))
      (pss_cons (ps_while (passes_of rfl) (pt_cmpR op_gt (pv 3) pe_int (nomark _))
      (pss_one (ps_par (i := 2) (j := 3) rfl sc__law_made.nd rfl rfl (by decide) sc__law_made_v2 sc__law_made_v3 (pa_cons (pv 3) (pa_cons (pe_op op_mod (pv 2) (pv 3)) pa_nil)) (by rfl))))
      (pss_one (ps_ret (pe_tup (pa_cons (pe_op op_fdivW (pv 0) (pv 2)) (pa_cons (pe_op op_fdivW (pv 1) (pv 2)) pa_nil)))))))
theorem sc__law_plus : FnScope ["_law_one", "_law_other"] ["_law_one", "_law_other"] (defScope s__law_plus) := ⟨rfl, rfl, rfl, by decide +kernel, rfl, by decide +kernel, by decide +kernel⟩
theorem sc__law_plus_v0 : (defScope s__law_plus).names.lookup ("_law_one" : Str) = some .local := by decide +kernel
theorem sc__law_plus_v1 : (defScope s__law_plus).names.lookup ("_law_other" : Str) = some .local := by decide +kernel
def t__law_plus (K : PySem.W.Frag) (cs : Cs) (E : XK) : TS :=
  (tRet (tCall (sp__law_made K cs) [] E0 (tCons (tOp (rI0 fun i j => .int (i + j)) (tOp (rI IntMulOk fun i j => .int (i * j)) (tOp (rIxT K) (tVar 0) (tC (.int 0))) (tOp (rIxT K) (tVar 1) (tC (.int 1)))) (tOp (rI IntMulOk fun i j => .int (i * j)) (tOp (rIxT K) (tVar 1) (tC (.int 0))) (tOp (rIxT K) (tVar 0) (tC (.int 1))))) (tCons (tOp (rI IntMulOk fun i j => .int (i * j)) (tOp (rIxT K) (tVar 0) (tC (.int 1))) (tOp (rIxT K) (tVar 1) (tC (.int 1)))) tNil))))
def sp__law_plus (K : PySem.W.Frag) (_ : Cs) : Sp := fun vs H Q _ => ∃ (p q : Addr) (a b c d : Nat), vs = [.ref p, .ref q] ∧ SqT K H p [.int a, .int b] ∧ SqT K H q [.int c, .int d] ∧ 0 < b ∧ 0 < d ∧ (a < big ∧ b < big ∧ c < big ∧ d < big) ∧
  ∀ r, H r = none → upR Q (.ref r) (upd H r (.tup [.int ((plusN (a, b) (c, d)).1 : Nat), .int ((plusN (a, b) (c, d)).2 : Nat)]))
theorem c__law_plus {K : PySem.W.Frag} {cs : Cs} {H : Hp} {p q : Addr} {a b c d : Nat} {Q : PV} {E : XK} (h1 : SqT K H p [.int a, .int b]) (h2 : SqT K H q [.int c, .int d]) (hb : 0 < b) (hd : 0 < d) (hs : a < big ∧ b < big ∧ c < big ∧ d < big)
    (k : ∀ r, H r = none → Q (.ref r) (upd H r (.tup [.int ((plusN (a, b) (c, d)).1 : Nat), .int ((plusN (a, b) (c, d)).2 : Nat)]))) : kC (fun ws H Q => sp__law_plus K cs ws H Q E) [.ref p, .ref q] H Q :=
  fun H1 e _ qq => ⟨p, q, a, b, c, d, rfl, e.st h1, e.st h2, hb, hd, hs, fun r hr H2 e2 => qq _ _ _ (k r (e.fresh hr)) ((e.ups _ _).tr e2)⟩
theorem pure__law_plus {K : PySem.W.Frag} {cs : Cs} {H : Hp} {vs : List V} {Q : VK} {E : XK} (h : sp__law_plus K cs vs H Q E) : t__law_plus K cs E { nx := fun _ H' => Q .non H', rt := Q } (start ["_law_one", "_law_other"] vs) H := by
  obtain ⟨p, q, a, b, c, d, rfl, h1, h2, hb, hd, ⟨s1, s2, s3, s4⟩, k⟩ := h
  unfold big at s1 s2 s3 s4
  refine fin (σ := [some (.ref p), some (.ref q)]) ?_
  unfold t__law_plus
  have m1 : IntMulOk (a : Int) d := mulw s1 s4 (by decide) (by decide) (by decide)
  have m2 : IntMulOk (c : Int) b := mulw s3 s2 (by decide) (by decide) (by decide)
  have m3 : IntMulOk (b : Int) d := mulw s2 s4 (by decide) (by decide) (by decide)
  k_clsL
  refine c__law_made (m := a * d + c * b) (n := b * d) (by simp) (by simp) (Nat.mul_pos hb hd) (Nat.lt_trans (Nat.mul_lt_mul'' s2 s4) (by rw [← Nat.pow_add]; exact Nat.pow_lt_pow_right (by decide) (by decide))) fun r hr => ?_
  exact k r hr
theorem ok__law_plus {P : Program} {w : World} {K : PySem.W.Frag} {mg : Str → Option Value} {base : Heap} {cs : Cs} (D__law_plus : Dn K mg "_law_plus" s__law_plus ["_law_one", "_law_other"]) (cal__law_made : Cal P w K mg base (L2.CX P w) 1 "_law_made" ["_law_top", "_law_under_here"] (sp__law_made K cs)) :
    Cal P w K mg base (L2.CX P w) 2 "_law_plus" ["_law_one", "_law_other"] (sp__law_plus K cs) := by
  refine cal_mk D__law_plus sc__law_plus (fun vs H Q E h => ?_) fun f cdv A outer s H vs Q E hr h => ⟨t__law_plus K cs E, ?_, pure__law_plus h⟩
  · unfold sp__law_plus at h
    first | (obtain ⟨rfl, _⟩ := h; rfl) | (obtain ⟨_, rfl, _⟩ := h; rfl) | (obtain ⟨_, _, rfl, _⟩ := h; rfl) | (obtain ⟨_, _, _, rfl, _⟩ := h; rfl) | (obtain ⟨_, _, _, _, rfl, _⟩ := h; rfl) | (obtain ⟨_, _, _, _, _, rfl, _⟩ := h; rfl) | (obtain ⟨_, _, _, _, _, _, rfl, _⟩ := h; rfl) | (obtain ⟨_, _, _, _, _, _, _, rfl, _⟩ := h; rfl) | (obtain ⟨_, _, _, _, _, _, _, _, rfl, _⟩ := h; rfl) | (obtain ⟨_, _, _, _, _, _, _, _, _, rfl, _⟩ := h; rfl) | (obtain ⟨_, _, _, _, _, _, _, _, _, _, rfl, _⟩ := h; rfl) | (obtain ⟨_, _, _, _, _, _, _, _, _, _, _, rfl, _⟩ := h; rfl) | (obtain ⟨_, _, _, _, _, _, _, _, _, _, _, _, rfl, _⟩ := h; rfl) | (obtain ⟨_, _, _, _, _, _, _, _, _, _, _, _, _, rfl, _⟩ := h; rfl) | (obtain ⟨_, _, _, _, _, _, _, _, _, _, _, _, _, _, rfl, _⟩ := h; rfl) | (obtain ⟨_, _, _, _, _, _, _, _, _, _, _, _, _, _, _, rfl, _⟩ := h; rfl)
  · exact (pss_one (ps_ret (pe_cal cal__law_made hr (by decide) (by rfl) passL (pa_cons (pe_op op_add (pe_op op_mulX (pe_ix ix_tup (pv 0) pe_int (fun _ _ => rfl)) (pe_ix ix_tup (pv 1) pe_int (fun _ _ => rfl))) (pe_op op_mulX (pe_ix ix_tup (pv 1) pe_int (fun _ _ => rfl)) (pe_ix ix_tup (pv 0) pe_int (fun _ _ => rfl)))) (pa_cons (pe_op op_mulX (pe_ix ix_tup (pv 0) pe_int (fun _ _ => rfl)) (pe_ix ix_tup (pv 1) pe_int (fun _ _ => rfl))) pa_nil)))))
theorem sc__law_miss : FnScope ["_law_size", "_law_many", "_law_top", "_law_under_here", "_law_n"] ["_law_size", "_law_many"] (defScope s__law_miss) := ⟨rfl, rfl, rfl, by decide +kernel, rfl, by decide +kernel, by decide +kernel⟩
theorem sc__law_miss_v0 : (defScope s__law_miss).names.lookup ("_law_size" : Str) = some .local := by decide +kernel
theorem sc__law_miss_v1 : (defScope s__law_miss).names.lookup ("_law_many" : Str) = some .local := by decide +kernel
theorem sc__law_miss_v2 : (defScope s__law_miss).names.lookup ("_law_top" : Str) = some .local := by decide +kernel
theorem sc__law_miss_v3 : (defScope s__law_miss).names.lookup ("_law_under_here" : Str) = some .local := by decide +kernel
theorem sc__law_miss_v4 : (defScope s__law_miss).names.lookup ("_law_n" : Str) = some .local := by decide +kernel
def t__law_miss (K : PySem.W.Frag) (cs : Cs) (E : XK) : TS :=
  (tSeq (tAsg (tC (.int 0)) (gName 2))
  (tSeq (tAsg (tC (.int 1)) (gName 3))
  (tSeq (tFor (iRng3 (tCons (tVar 1) (tCons (tUn (rU fun i => .int (-i)) (tC (.int 1))) (tCons (tUn (rU fun i => .int (-i)) (tC (.int 1))) tNil)))) (gName 4)
  (tSeq (tAsg (tOp (rI0 fun i j => .int (i + j)) (tOp (rI IntMulOk fun i j => .int (i * j)) (tOp (rI IntMulOk fun i j => .int (i * j)) (tOp (rI0 fun i j => .int (i + j)) (tVar 4) (tC (.int 1))) (tVar 3)) (tVar 0)) (tOp (rI IntMulOk fun i j => .int (i * j)) (tOp (rI0 fun i j => .int (i - j)) (tVar 1) (tVar 4)) (tVar 2))) (gName 2))
  (tAsg (tOp (rI IntMulOk fun i j => .int (i * j)) (tVar 3) (tVar 0)) (gName 3))))
  (tRet (tCall (sp__law_made K cs) [] E0 (tCons (tOp (rI0 fun i j => .int (i + j)) (tVar 2) (tVar 3)) (tCons (tOp (rI IntMulOk fun i j => .int (i * j)) (tC (.int 2)) (tVar 3)) tNil)))))))
def sp__law_miss (K : PySem.W.Frag) (_ : Cs) : Sp := fun vs H Q _ => ∃ s m : Nat, vs = [.int s, .int m] ∧ s ≤ 64 ∧ m ≤ 64 ∧ okL s m = true ∧ ∀ p, H p = none → upR Q (.ref p) (upd H p (.tup [.int ((lmN s m).1 : Nat), .int ((lmN s m).2 : Nat)]))
theorem c__law_miss {K : PySem.W.Frag} {cs : Cs} {H : Hp} {s m : Nat} {Q : PV} {E : XK} (h1 : s ≤ 64) (h2 : m ≤ 64) (ok : okL s m = true) (k : ∀ p, H p = none → Q (.ref p) (upd H p (.tup [.int ((lmN s m).1 : Nat), .int ((lmN s m).2 : Nat)]))) :
    kC (fun ws H Q => sp__law_miss K cs ws H Q E) [.int s, .int m] H Q :=
  fun H1 e _ q => ⟨s, m, rfl, h1, h2, ok, fun p hp H2 e2 => q _ _ _ (k p (e.fresh hp)) ((e.ups _ _).tr e2)⟩
theorem pure__law_miss {K : PySem.W.Frag} {cs : Cs} {H : Hp} {vs : List V} {Q : VK} {E : XK} (h : sp__law_miss K cs vs H Q E) : t__law_miss K cs E { nx := fun _ H' => Q .non H', rt := Q } (start ["_law_size", "_law_many", "_law_top", "_law_under_here", "_law_n"] vs) H := by
  obtain ⟨s, m, rfl, h1, h2, ok, k⟩ := h
  refine fin (σ := [some (.int s), some (.int m), none, none, none]) ?_
  unfold t__law_miss
  k_clsL
  refine s_forDn m (-1) (m + 1) (fun i σ H1 => H1 = H ∧ ∃ z, σ = [some (.int s), some (.int m), some (.int ((lmS s m i).1 : Nat)), some (.int ((lmS s m i).2 : Nat)), z]) ?_
  k_clsL
  refine ⟨rfl, by omega, by omega, ⟨rfl, none, rfl⟩, ?_, ?_⟩
  · rintro i σ H1 hi ⟨rfl, z, rfl⟩
    obtain ⟨b1, b2, b3⟩ := okP_iff (okL_at ok (i := i) (by omega))
    generalize ht : (lmS s m i).1 = t at *
    generalize hu : (lmS s m i).2 = u at *
    k_clsL
    refine ⟨_, ⟨rfl, some (.int ((m : Int) - i)), ?_⟩, Ex.rf⟩
    have e : lmS s m (i + 1) = ((m - i + 1) * u * s + i * t, u * s) := by rw [← ht, ← hu]; rfl
    have e1 : (((m : Int) - i + 1) * u * s + ((m : Int) - (m - i)) * t) = (((m - i + 1) * u * s + i * t : Nat) : Int) := by
      have a1 : (m : Int) - i + 1 = ((m - i + 1 : Nat) : Int) := by omega
      have a2 : (m : Int) - (m - i) = (i : Int) := by omega
      rw [a1, a2]
      simp
    have e2 : (u : Int) * s = ((u * s : Nat) : Int) := by simp
    rw [e, e1, e2]
    rfl
  · rintro σ H1 ⟨rfl, z, rfl⟩
    obtain ⟨b1, b2, b3⟩ := okP_iff (okL_at ok (i := m + 1) (by omega))
    unfold big at b2
    k_clsL
    refine c__law_made (m := (lmS s m (m + 1)).1 + (lmS s m (m + 1)).2) (n := 2 * (lmS s m (m + 1)).2) (by simp) (by simp) (by omega) (Nat.lt_of_lt_of_le (Nat.mul_lt_mul_of_pos_left b2 (by decide : 0 < 2)) (by rw [← Nat.pow_succ']; exact Nat.pow_le_pow_right (by decide) (by decide))) fun r hr => ?_
    exact k r hr
theorem ok__law_miss {P : Program} {w : World} {K : PySem.W.Frag} {mg : Str → Option Value} {base : Heap} {cs : Cs} (D__law_miss : Dn K mg "_law_miss" s__law_miss ["_law_size", "_law_many"]) (cal__law_made : Cal P w K mg base (L2.CX P w) 1 "_law_made" ["_law_top", "_law_under_here"] (sp__law_made K cs)) (m_range : mg "range" = none) :
    Cal P w K mg base (L2.CX P w) 2 "_law_miss" ["_law_size", "_law_many"] (sp__law_miss K cs) := by
  refine cal_mk D__law_miss sc__law_miss (fun vs H Q E h => ?_) fun f cdv A outer s H vs Q E hr h => ⟨t__law_miss K cs E, ?_, pure__law_miss h⟩
  · unfold sp__law_miss at h
    first | (obtain ⟨rfl, _⟩ := h; rfl) | (obtain ⟨_, rfl, _⟩ := h; rfl) | (obtain ⟨_, _, rfl, _⟩ := h; rfl) | (obtain ⟨_, _, _, rfl, _⟩ := h; rfl) | (obtain ⟨_, _, _, _, rfl, _⟩ := h; rfl) | (obtain ⟨_, _, _, _, _, rfl, _⟩ := h; rfl) | (obtain ⟨_, _, _, _, _, _, rfl, _⟩ := h; rfl) | (obtain ⟨_, _, _, _, _, _, _, rfl, _⟩ := h; rfl) | (obtain ⟨_, _, _, _, _, _, _, _, rfl, _⟩ := h; rfl) | (obtain ⟨_, _, _, _, _, _, _, _, _, rfl, _⟩ := h; rfl) | (obtain ⟨_, _, _, _, _, _, _, _, _, _, rfl, _⟩ := h; rfl) | (obtain ⟨_, _, _, _, _, _, _, _, _, _, _, rfl, _⟩ := h; rfl) | (obtain ⟨_, _, _, _, _, _, _, _, _, _, _, _, rfl, _⟩ := h; rfl) | (obtain ⟨_, _, _, _, _, _, _, _, _, _, _, _, _, rfl, _⟩ := h; rfl) | (obtain ⟨_, _, _, _, _, _, _, _, _, _, _, _, _, _, rfl, _⟩ := h; rfl) | (obtain ⟨_, _, _, _, _, _, _, _, _, _, _, _, _, _, _, rfl, _⟩ := h; rfl)
  · exact (pss_cons (ps_set (i := 2) sc__law_miss.nd rfl (Or.inl sc__law_miss_v2) pe_int)
      (pss_cons (ps_set (i := 3) sc__law_miss.nd rfl (Or.inl sc__law_miss_v3) pe_int)
      (pss_cons (ps_for (passes_of rfl) rfl (pi_range3 (by rfl) m_range (pa_cons (pv 1) (pa_cons (pe_un un_neg pe_int) (pa_cons (pe_un un_neg pe_int) pa_nil)))) (pg_name (i := 4) sc__law_miss.nd rfl (Or.inl sc__law_miss_v4))
      (pss_cons (ps_set (i := 2) sc__law_miss.nd rfl (Or.inl sc__law_miss_v2) (pe_op op_add (pe_op op_mulX (pe_op op_mulX (pe_op op_add (pv 4) pe_int) (pv 3)) (pv 0)) (pe_op op_mulX (pe_op op_sub (pv 1) (pv 4)) (pv 2))))
      (pss_one (ps_set (i := 3) sc__law_miss.nd rfl (Or.inl sc__law_miss_v3) (pe_op op_mulX (pv 3) (pv 0))))))
      (pss_one (ps_ret (pe_cal cal__law_made hr (by decide) (by rfl) passL (pa_cons (pe_op op_add (pv 2) (pv 3)) (pa_cons (pe_op op_mulX pe_int (pv 3)) pa_nil))))))))
theorem sc_law : FnScope ["_law_script", "_law_k", "_law_more", "_law_size", "_law_many", "_law_together", "_law_before", "_law_count", "_law_found", "_law_one"] ["_law_script"] (defScope s_law) := ⟨rfl, rfl, rfl, by decide +kernel, rfl, by decide +kernel, by decide +kernel⟩
theorem sc_law_v0 : (defScope s_law).names.lookup ("_law_script" : Str) = some .local := by decide +kernel
theorem sc_law_v1 : (defScope s_law).names.lookup ("_law_k" : Str) = some .local := by decide +kernel
theorem sc_law_v2 : (defScope s_law).names.lookup ("_law_more" : Str) = some .local := by decide +kernel
theorem sc_law_v3 : (defScope s_law).names.lookup ("_law_size" : Str) = some .local := by decide +kernel
theorem sc_law_v4 : (defScope s_law).names.lookup ("_law_many" : Str) = some .local := by decide +kernel
theorem sc_law_v5 : (defScope s_law).names.lookup ("_law_together" : Str) = some .local := by decide +kernel
theorem sc_law_v6 : (defScope s_law).names.lookup ("_law_before" : Str) = some .local := by decide +kernel
theorem sc_law_v7 : (defScope s_law).names.lookup ("_law_count" : Str) = some .local := by decide +kernel
theorem sc_law_v8 : (defScope s_law).names.lookup ("_law_found" : Str) = some .local := by decide +kernel
theorem sc_law_v9 : (defScope s_law).names.lookup ("_law_one" : Str) = some .local := by decide +kernel
def t_law (K : PySem.W.Frag) (cs : Cs) (E : XK) : TS :=
  (tSeq (tFor (iRng1 (tCons (tCB (fun xs H Q => ∃ i j, xs = [V.int i, .int j] ∧ Q (.int (if j > i then j else i)) H) (tCons (tC (.int 1)) (tCons (tCB (fun xs H Q => ∃ i j, xs = [V.int i, .int j] ∧ Q (.int (if j < i then j else i)) H) (tCons (tC (.int 3)) (tCons (tCB (fun xs H Q => ∃ p ys, xs = [V.ref p] ∧ (SqL K H p ys ∨ SqT K H p ys) ∧ Q (.int ys.length) H) (tCons (tVar 0) tNil)) tNil))) tNil))) tNil)) (gName 1)
  (tSeq (tAsg (tCall (sp__law_drawn K cs) [] E0 (tCons (tCall (sp__law_cell K cs) [] E0 (tCons (tVar 0) (tCons (tVar 1) tNil))) (tCons (tVar 1) tNil))) (gName 2))
  (tSeq (tAsg (tOp (rIxL K) (tLst (tCons (tC (.int 2)) (tCons (tC (.int 28)) (tCons (tOp (rI0 fun i j => .int (i + j)) (tC (.int 2)) (tOp (rI (fun _ j => 0 < j) fun i j => .int (i % j)) (tOp (rI CDivW fun i j => .int (i / j)) (tVar 2) (tC (.int 8))) (tC (.int 29)))) (tCons (tOp (rI0 fun i j => .int (i + j)) (tC (.int 3)) (tOp (rI (fun _ j => 0 < j) fun i j => .int (i % j)) (tOp (rI CDivW fun i j => .int (i / j)) (tVar 2) (tC (.int 8))) (tC (.int 10)))) tNil))))) (tOp (rI (fun _ j => 0 < j) fun i j => .int (i % j)) (tVar 2) (tC (.int 4)))) (gName 3))
  (tSeq (tAsg (tOp (rIxL K) (tLst (tCons (tOp (rI0 fun i j => .int (i - j)) (tVar 3) (tC (.int 1))) (tCons (tOp (rI (fun _ j => 0 < j) fun i j => .int (i % j)) (tOp (rI CDivW fun i j => .int (i / j)) (tVar 2) (tC (.int 512))) (tVar 3)) tNil))) (tOp (rI (fun _ j => 0 < j) fun i j => .int (i % j)) (tOp (rI CDivW fun i j => .int (i / j)) (tVar 2) (tC (.int 4))) (tC (.int 2)))) (gName 4))
  (tSeq (tAsg (tTup (tCons (tC (.int 0)) (tCons (tC (.int 1)) tNil))) (gName 5))
  (tSeq (tAsg (tTup (tCons (tC (.int 0)) (tCons (tC (.int 1)) tNil))) (gName 6))
  (tSeq (tFor (iRng1 (tCons (tOp (rI0 fun i j => .int (i + j)) (tVar 4) (tC (.int 1))) tNil)) (gName 7)
  (tSeq (tAsg (tCall (sp_miss K cs) [] E (tCons (tVar 3) (tCons (tVar 7) tNil))) (gName 8))
  (tSeq (tIfS (tOr (tNot (tB (tCB (rIsi K) (tCons (tVar 8) (tCons (tC (.ty "tuple")) tNil))))) (tB (tCall (sp__law_under K cs) [] E0 (tCons (tVar 8) (tCons (tVar 6) tNil)))))
  (tRet (tC (.bl false)))
  tNext)
  (tSeq (tAsg (tVar 8) (gName 6))
  (tSeq (tIfS (tTest (tOp (rI0 fun i j => .bl (decide (j < i))) (tVar 7) (tC (.int 0))))
  (tSeq (tAsg (tCall (sp_hit K cs) [] E (tCons (tVar 3) (tCons (tVar 7) tNil))) (gName 9))
  (tIfS (tOr (tTest (tOp (rNeD K) (tVar 9) (tCall (sp__law_made K cs) [] E0 (tCons (tOp (rIxT K) (tVar 5) (tC (.int 0))) (tCons (tOp (rI IntMulOk fun i j => .int (i * j)) (tOp (rIxT K) (tVar 5) (tC (.int 1))) (tVar 7)) tNil))))) (tB (tCall (sp__law_under K cs) [] E0 (tCons (tVar 8) (tCons (tVar 9) tNil)))))
  (tRet (tC (.bl false)))
  tNext))
  tNext)
  (tAsg (tCall (sp__law_plus K cs) [] E0 (tCons (tVar 5) (tCons (tVar 8) tNil))) (gName 5)))))))
  (tSeq (tIfS (tOr (tTest (tOp (rNeD K) (tCall (sp_miss K cs) [] E (tCons (tVar 3) (tCons (tC (.int 0)) tNil))) (tTup (tCons (tC (.int 1)) (tCons (tC (.int 1)) tNil))))) (tAnd (tTest (tOp (rI0 fun i j => .bl (decide (j < i))) (tVar 4) (tC (.int 0)))) (tTest (tOp (rNeD K) (tCall (sp_hit K cs) [] E (tCons (tVar 3) (tCons (tC (.int 1)) tNil))) (tTup (tCons (tC (.int 1)) (tCons (tC (.int 1)) tNil)))))))
  (tRet (tC (.bl false)))
  tNext)
  (tIfS (tTest (tOp (rNeD K) (tCall (sp__law_miss K cs) [] E0 (tCons (tVar 3) (tCons (tVar 4) tNil))) (tVar 6)))
  (tRet (tC (.bl false)))
  tNext)))))))))
  (tRet (tC (.bl true))))
def sp_law (K : PySem.W.Frag) (_ : Cs) : Sp := spLaw K
theorem fall_ok {s m w : Nat} (h : okF s m w = true) : okP (fallN s m w) = true := (okF_at h (Nat.le_refl _)).1
theorem pure_law {K : PySem.W.Frag} {cs : Cs} {H : Hp} {vs : List V} {Q : VK} {E : XK} (h : sp_law K cs vs H Q E) : t_law K cs E { nx := fun _ H' => Q .non H', rt := Q } (start ["_law_script", "_law_k", "_law_more", "_law_size", "_law_many", "_law_together", "_law_before", "_law_count", "_law_found", "_law_one"] vs) H := by
  obtain ⟨a, ns, rfl, hS, hl, q⟩ := h
  refine fin (σ := [some (.ref a), none, none, none, none, none, none, none, none, none]) ?_
  unfold t_law
  obtain ⟨n, hn, hn63⟩ : ∃ n : Nat, (if (if (((ns.map V.int).length : Nat) : Int) < 3 then (((ns.map V.int).length : Nat) : Int) else 3) > 1 then (if (((ns.map V.int).length : Nat) : Int) < 3 then (((ns.map V.int).length : Nat) : Int) else 3) else 1) = (n : Int) ∧ n ≤ 63 :=
    nat_of (by split <;> split <;> omega) (by split <;> split <;> omega)
  k_clsL
  refine s_for1 n (fun i σ H1 => H1 = H ∧ ∃ y1 y2 y3 y4 y5 y6 y7 y8 y9, σ = [some (.ref a), y1, y2, y3, y4, y5, y6, y7, y8, y9]) ?_
  k_clsL
  refine ⟨by rw [hn], by omega, ⟨rfl, none, none, none, none, none, none, none, none, none, rfl⟩, ?_, ?_⟩
  · rintro i σ H1 hi ⟨rfl, y1, y2, y3, y4, y5, y6, y7, y8, y9, rfl⟩
    k_clsL
    rename_i r hr p1 hp1
    obtain ⟨v, hv, s, rfl, s2, s30⟩ := pick (z := (r : Int)) (m := 4) (xs := [.int 2, .int 28, .int (2 + (r : Int) / 8 % 29), .int (3 + (r : Int) / 8 % 10)]) (P := fun v => ∃ s : Nat, v = .int s ∧ 2 ≤ s ∧ s ≤ 30) rfl (by decide) (by
      intro x hx
      simp only [List.mem_cons, List.not_mem_nil, or_false] at hx
      rcases hx with rfl | rfl | rfl | rfl
      · exact ⟨2, rfl, by decide, by decide⟩
      · exact ⟨28, rfl, by decide, by decide⟩
      · exact ⟨2 + r / 8 % 29, rfl, by omega, by omega⟩
      · exact ⟨3 + r / 8 % 10, rfl, by omega, by omega⟩)
    refine r_ixL (by k_memK) hv ?_
    k_clsL
    rename_i p2 hp2
    obtain ⟨v, hv, m, rfl, hm⟩ := pick (z := (r : Int) / 4) (m := 2) (xs := [.int ((s : Int) - 1), .int ((r : Int) / 512 % (s : Int))]) (P := fun v => ∃ m : Nat, v = .int m ∧ m + 1 ≤ s) rfl (by decide) (by
      intro x hx
      simp only [List.mem_cons, List.not_mem_nil, or_false] at hx
      rcases hx with rfl | rfl
      · exact ⟨s - 1, congrArg V.int (by omega), by omega⟩
      · exact ⟨r / 512 % s, rfl, Nat.mod_lt _ (by omega)⟩)
    refine r_ixL (by k_memK) hv ?_
    k_clsL
    rename_i p3 hp3 p4 hp4
    refine s_for1 (m + 1) (fun c σ H2 => Ex H1 H2 ∧ ∃ pt pb z7 z8 z9, σ = [some (.ref a), some (.int i), some (.int r), some (.int s), some (.int m), some (.ref pt), some (.ref pb), z7, z8, z9] ∧ SqT K H2 pt [.int ((togN s c).1 : Nat), .int ((togN s c).2 : Nat)] ∧
      SqT K H2 pb [.int ((befN s c).1 : Nat), .int ((befN s c).2 : Nat)]) ?_
    k_clsL
    refine ⟨by simp, by omega, ⟨by k_offL, p3, p4, y7, y8, y9, rfl, st_new hp4 (SqT.of upd_same), SqT.of upd_same⟩, ?_, ?_⟩
    · rintro c σ H2 hc ⟨e2, pt, pb, z7, z8, z9, rfl, ht, hb⟩
      have F : Fact s c := fact_of s2 s30 (by omega)
      obtain ⟨m1, m2, m3⟩ := okP_iff F.m
      obtain ⟨t1, t2, t3⟩ := okP_iff F.t
      obtain ⟨h1, h2, h3⟩ := okP_iff F.h
      have B : okP (befN s c) = true := by
        cases c with
        | zero => exact (by decide : okP (0, 1) = true)
        | succ c => exact (fact_of s2 s30 (by omega)).m
      obtain ⟨b1, b2, b3⟩ := okP_iff B
      k_clsL
      refine c_miss (s := s) (m := c) rfl rfl s2 (by omega) (by omega) (by omega) F.f1 (fall_ok F.f1) fun p5 hp5 => ?_
      k_clsL
      refine c__law_under (SqT.of upd_same) (st_new hp5 hb) ⟨m1, m2, b1, b2⟩ ?_
      k_clsL
      refine ⟨fun h => absurd (F.u.symm.trans h) (by decide), fun _ => ?_⟩
      k_clsL
      refine dec2 (fun hc0 => ?_) (fun hc0 => ?_)
      · have hc1 : 0 < c := by omega
        k_clsL
        refine c_hit (s := s) (m := c) rfl rfl s2 (by omega) (by omega) (by omega) F.f0 (fall_ok F.f0) fun p6 hp6 => ?_
        have hmul : IntMulOk ((togN s c).2 : Int) (c : Int) := mulxR (by omega) (by omega)
        k_clsL
        have hd : (togN s c).2 * c < 2 ^ 4000 := by
          have q1 : c < 2 ^ 10 := by omega
          have q2 : (togN s c).2 < 2 ^ 1000 := t2
          exact Nat.lt_trans (Nat.mul_lt_mul'' q2 q1) (by rw [← Nat.pow_add]; exact Nat.pow_lt_pow_right (by decide) (by decide))
        refine c__law_made (m := (togN s c).1) (n := (togN s c).2 * c) rfl (by simp) (Nat.mul_pos t3 hc1) hd fun p7 hp7 => ?_
        refine r_neP (st_new hp7 (SqT.of upd_same)) (SqT.of upd_same) ?_
        k_clsL
        refine ndec2 (fun hne => ?_) (fun _ => ?_)
        · exact absurd (by rw [F.z hc1]; exact ⟨rfl, rfl⟩) hne
        k_clsL
        refine c__law_under (st_new hp7 (st_new hp6 (SqT.of upd_same))) (st_new hp7 (SqT.of upd_same)) ⟨m1, m2, h1, h2⟩ ?_
        k_clsL
        refine ⟨fun h => absurd ((F.y hc1).symm.trans h) (by decide), fun _ => ?_⟩
        k_clsL
        refine c__law_plus (st_new hp7 (st_new hp6 (st_new hp5 ht))) (st_new hp7 (st_new hp6 (SqT.of upd_same))) t3 m3 ⟨t1, t2, m1, m2⟩ fun p8 hp8 => ?_
        k_clsL
        exact ⟨_, ⟨by k_offL, p8, p5, some (.int c), some (.ref p5), some (.ref p6), rfl, SqT.of upd_same, st_new hp8 (st_new hp7 (st_new hp6 (SqT.of upd_same)))⟩, Ex.rf⟩
      · k_clsL
        refine c__law_plus (st_new hp5 ht) (SqT.of upd_same) t3 m3 ⟨t1, t2, m1, m2⟩ fun p8 hp8 => ?_
        k_clsL
        exact ⟨_, ⟨by k_offL, p8, p5, some (.int c), some (.ref p5), z9, rfl, SqT.of upd_same, st_new hp8 (SqT.of upd_same)⟩, Ex.rf⟩
    · rintro σ H2 ⟨e2, pt, pb, z7, z8, z9, rfl, ht, hb⟩
      obtain ⟨g1, g2⟩ := fact_0 s2 s30
      have F0 : Fact s 0 := fact_of s2 s30 (by omega)
      have F : Fact s m := fact_of s2 s30 (by omega)
      k_clsL
      refine c_miss (s := s) (m := 0) rfl rfl s2 (by omega) (by omega) (by omega) F0.f1 (fall_ok F0.f1) fun p5 hp5 => ?_
      rw [g1]
      k_clsL
      rename_i p6 hp6
      refine r_neP (st_new hp6 (SqT.of upd_same)) (SqT.of upd_same) ?_
      k_clsL
      have last : ∀ H3, Ex H2 H3 → kS (tIfS (tTest (tOp (rNeD K) (tCall (sp__law_miss K cs) [] E0 (tCons (tVar 3) (tCons (tVar 4) tNil))) (tVar 6))) (tRet (tC (.bl false))) tNext) (nxt (fun i σ H1_1 => H1_1 = H1 ∧ ∃ y1 y2 y3 y4 y5 y6 y7 y8 y9, σ = [some (.ref a), y1, y2, y3, y4, y5, y6, y7, y8, y9]) (i + 1)) (upR Q)
          (fun s H1 => kS (tRet (tC (.bl true))) (fun x H0 => upR Q .non H0) (upR Q) noS noS s H1) (nxt (fun i σ H1_1 => H1_1 = H1 ∧ ∃ y1 y2 y3 y4 y5 y6 y7 y8 y9, σ = [some (.ref a), y1, y2, y3, y4, y5, y6, y7, y8, y9]) (i + 1))
          [some (.ref a), some (.int i), some (.int r), some (.int s), some (.int m), some (.ref pt), some (.ref pb), z7, z8, z9] H3 := by
        intro H3 e3
        k_clsL
        refine c__law_miss (by omega) (by omega) F.l fun p7 hp7 => ?_
        k_clsL
        refine r_neP (SqT.of upd_same) (st_new hp7 (e3.st hb)) ?_
        k_clsL
        refine ndec2 (fun hne => ?_) (fun _ => ?_)
        · rw [F.e] at hne
          exact absurd ⟨rfl, rfl⟩ hne
        · k_clsL
          exact ⟨H1, ⟨rfl, _, _, _, _, _, _, _, _, _, rfl⟩, (e2.tr e3).tr (Ex.news hp7)⟩
      refine dec2 (fun hc0 => ?_) (fun hc0 => ?_)
      · have F1 : Fact s 1 := fact_of s2 s30 (by omega)
        k_clsL
        refine c_hit (s := s) (m := 1) rfl rfl s2 (by omega) (by omega) (by omega) F1.f0 (fall_ok F1.f0) fun p7 hp7 => ?_
        rw [g2]
        k_clsL
        rename_i p8 hp8
        refine r_neP (st_new hp8 (SqT.of upd_same)) (SqT.of upd_same) ⟨_, rfl, ?_⟩
        refine ⟨fun h => Bool.noConfusion h, fun _ => ?_⟩
        refine s_next ?_
        exact last _ (by k_offL)
      · refine ⟨fun h => Bool.noConfusion h, fun _ => ?_⟩
        refine s_next ?_
        exact last _ (by k_offL)
  · rintro σ H1 ⟨rfl, y1, y2, y3, y4, y5, y6, y7, y8, y9, rfl⟩
    k_clsL
    exact fun H2 _ => q H2
theorem ok_law {P : Program} {w : World} {K : PySem.W.Frag} {mg : Str → Option Value} {base : Heap} {cs : Cs} {f : Addr} {fd : FuncData} (F : Fun K "law" "law" s_law f fd) (cal__law_cell : Cal P w K mg base (L2.CX P w) 1 "_law_cell" ["_law_script", "_law_k"] (sp__law_cell K cs)) (cal__law_drawn : Cal P w K mg base (L2.CX P w) 1 "_law_drawn" ["_law_cell_here", "_law_k"] (sp__law_drawn K cs)) (cal_miss : Cal P w K mg base (L2.CX P w) 4 "miss" ["size", "many"] (sp_miss K cs)) (cal__law_under : Cal P w K mg base (L2.CX P w) 1 "_law_under" ["_law_one", "_law_other"] (sp__law_under K cs)) (cal_hit : Cal P w K mg base (L2.CX P w) 4 "hit" ["size", "many"] (sp_hit K cs)) (cal__law_made : Cal P w K mg base (L2.CX P w) 1 "_law_made" ["_law_top", "_law_under_here"] (sp__law_made K cs)) (cal__law_plus : Cal P w K mg base (L2.CX P w) 2 "_law_plus" ["_law_one", "_law_other"] (sp__law_plus K cs)) (cal__law_miss : Cal P w K mg base (L2.CX P w) 2 "_law_miss" ["_law_size", "_law_many"] (sp__law_miss K cs)) (m_range : mg "range" = none) (m_len : mg "len" = none) (m_min : mg "min" = none) (m_max : mg "max" = none) (m_tuple : mg "tuple" = none) (m_isinstance : mg "isinstance" = none) :
    FnOk P w K mg base (L2.CX P w) 5 f fd ["_law_script"] (spLaw K) := by
  refine F.okX sc_law (fun vs H Q E h => ?_) fun cdv A outer s H vs Q E hr h => ⟨t_law K cs E, ?_, pure_law (cs := cs) h⟩
  · unfold spLaw at h
    first | (obtain ⟨rfl, _⟩ := h; rfl) | (obtain ⟨_, rfl, _⟩ := h; rfl) | (obtain ⟨_, _, rfl, _⟩ := h; rfl) | (obtain ⟨_, _, _, rfl, _⟩ := h; rfl) | (obtain ⟨_, _, _, _, rfl, _⟩ := h; rfl) | (obtain ⟨_, _, _, _, _, rfl, _⟩ := h; rfl) | (obtain ⟨_, _, _, _, _, _, rfl, _⟩ := h; rfl) | (obtain ⟨_, _, _, _, _, _, _, rfl, _⟩ := h; rfl) | (obtain ⟨_, _, _, _, _, _, _, _, rfl, _⟩ := h; rfl) | (obtain ⟨_, _, _, _, _, _, _, _, _, rfl, _⟩ := h; rfl) | (obtain ⟨_, _, _, _, _, _, _, _, _, _, rfl, _⟩ := h; rfl) | (obtain ⟨_, _, _, _, _, _, _, _, _, _, _, rfl, _⟩ := h; rfl) | (obtain ⟨_, _, _, _, _, _, _, _, _, _, _, _, rfl, _⟩ := h; rfl) | (obtain ⟨_, _, _, _, _, _, _, _, _, _, _, _, _, rfl, _⟩ := h; rfl) | (obtain ⟨_, _, _, _, _, _, _, _, _, _, _, _, _, _, rfl, _⟩ := h; rfl) | (obtain ⟨_, _, _, _, _, _, _, _, _, _, _, _, _, _, _, rfl, _⟩ := h; rfl)
  · exact (pss_cons (ps_for (passes_of rfl) rfl (pi_range1 (by rfl) m_range (pa_cons (pe_callB (call_max2 rfl) (by rfl) m_max (by decide +kernel) (pa_cons pe_int (pa_cons (pe_callB (call_min2 rfl) (by rfl) m_min (by decide +kernel) (pa_cons pe_int (pa_cons (pe_callB call_len_seq (by rfl) m_len (by decide +kernel) (pa_cons (pv 0) pa_nil)) pa_nil))) pa_nil))) pa_nil)) (pg_name (i := 1) sc_law.nd rfl (Or.inl sc_law_v1))
      (pss_cons (ps_set (i := 2) sc_law.nd rfl (Or.inl sc_law_v2) (pe_cal cal__law_drawn hr (by decide) (by rfl) passL (pa_cons (pe_cal cal__law_cell hr (by decide) (by rfl) passL (pa_cons (pv 0) (pa_cons (pv 1) pa_nil))) (pa_cons (pv 1) pa_nil))))
      (pss_cons (ps_set (i := 3) sc_law.nd rfl (Or.inl sc_law_v3) (pe_ix ix_list (pe_lst (pa_cons pe_int (pa_cons pe_int (pa_cons (pe_op op_add pe_int (pe_op op_mod (pe_op op_fdivW (pv 2) pe_int) pe_int)) (pa_cons (pe_op op_add pe_int (pe_op op_mod (pe_op op_fdivW (pv 2) pe_int) pe_int)) pa_nil))))) (pe_op op_mod (pv 2) pe_int) (fun _ _ => rfl)))
      (pss_cons (ps_set (i := 4) sc_law.nd rfl (Or.inl sc_law_v4) (pe_ix ix_list (pe_lst (pa_cons (pe_op op_sub (pv 3) pe_int) (pa_cons (pe_op op_mod (pe_op op_fdivW (pv 2) pe_int) (pv 3)) pa_nil))) (pe_op op_mod (pe_op op_fdivW (pv 2) pe_int) pe_int) (fun _ _ => rfl)))
      (pss_cons (ps_set (i := 5) sc_law.nd rfl (Or.inl sc_law_v5) (pe_tup (pa_cons pe_int (pa_cons pe_int pa_nil))))
      (pss_cons (ps_set (i := 6) sc_law.nd rfl (Or.inl sc_law_v6) (pe_tup (pa_cons pe_int (pa_cons pe_int pa_nil))))
      (pss_cons (ps_for (passes_of rfl) rfl (pi_range1 (by rfl) m_range (pa_cons (pe_op op_add (pv 4) pe_int) pa_nil)) (pg_name (i := 7) sc_law.nd rfl (Or.inl sc_law_v7))
      (pss_cons (ps_set (i := 8) sc_law.nd rfl (Or.inl sc_law_v8) (pe_cal cal_miss hr (by decide) (by rfl) (passes_call (takes_of (E := E) rfl rfl rfl rfl) fun _ _ _ _ h => h) (pa_cons (pv 3) (pa_cons (pv 7) pa_nil))))
      (pss_cons (ps_if (PW.pt (pw_or (pt_not (pt_val (pe_callB call_isi (by rfl) m_isinstance (by decide +kernel) (pa_cons (pv 8) (pa_cons (pe_bltn (v := .ty "tuple") (by rfl) m_tuple (by decide +kernel) rfl) pa_nil))))) (pw_or1 (pt_val (pe_cal cal__law_under hr (by decide) (by rfl) passL (pa_cons (pv 8) (pa_cons (pv 6) pa_nil)))))))
      (pss_one (ps_ret pe_bl))
      pss_nil)
      (pss_cons (ps_set (i := 6) sc_law.nd rfl (Or.inl sc_law_v6) (pv 8))
      (pss_cons (ps_if (pt_cmpR op_gt (pv 7) pe_int (nomark _))
      (pss_cons (ps_set (i := 9) sc_law.nd rfl (Or.inl sc_law_v9) (pe_cal cal_hit hr (by decide) (by rfl) (passes_call (takes_of (E := E) rfl rfl rfl rfl) fun _ _ _ _ h => h) (pa_cons (pv 3) (pa_cons (pv 7) pa_nil))))
      (pss_one (ps_if (PW.pt (pw_or (pt_cmpR (op_neD hr.units) (pv 9) (pe_cal cal__law_made hr (by decide) (by rfl) passL (pa_cons (pe_ix ix_tup (pv 5) pe_int (fun _ _ => rfl)) (pa_cons (pe_op op_mulX (pe_ix ix_tup (pv 5) pe_int (fun _ _ => rfl)) (pv 7)) pa_nil))) (nomark _)) (pw_or1 (pt_val (pe_cal cal__law_under hr (by decide) (by rfl) passL (pa_cons (pv 8) (pa_cons (pv 9) pa_nil)))))))
      (pss_one (ps_ret pe_bl))
      pss_nil)))
      pss_nil)
      (pss_one (ps_set (i := 5) sc_law.nd rfl (Or.inl sc_law_v5) (pe_cal cal__law_plus hr (by decide) (by rfl) passL (pa_cons (pv 5) (pa_cons (pv 8) pa_nil))))))))))
      (pss_cons (ps_if (PW.pt (pw_or (pt_cmpR (op_neD hr.units) (pe_cal cal_miss hr (by decide) (by rfl) (passes_call (takes_of (E := E) rfl rfl rfl rfl) fun _ _ _ _ h => h) (pa_cons (pv 3) (pa_cons pe_int pa_nil))) (pe_tup (pa_cons pe_int (pa_cons pe_int pa_nil))) (nomark _)) (pw_or1 (PW.pt (pw_and (pt_cmpR op_gt (pv 4) pe_int (nomark _)) (pw_and1 (pt_cmpR (op_neD hr.units) (pe_cal cal_hit hr (by decide) (by rfl) (passes_call (takes_of (E := E) rfl rfl rfl rfl) fun _ _ _ _ h => h) (pa_cons (pv 3) (pa_cons pe_int pa_nil))) (pe_tup (pa_cons pe_int (pa_cons pe_int pa_nil))) (nomark _))))))))
      (pss_one (ps_ret pe_bl))
      pss_nil)
      (pss_one (ps_if (pt_cmpR (op_neD hr.units) (pe_cal cal__law_miss hr (by decide) (by rfl) passL (pa_cons (pv 3) (pa_cons (pv 4) pa_nil))) (pv 6) (nomark _))
      (pss_one (ps_ret pe_bl))
      pss_nil))))))))))
      (pss_one (ps_ret pe_bl)))
theorem all_mk {l : PySem.W.OpenLaw} {w : World} {K : PySem.W.Frag} {h : Heap} {mg : Str → Option Value} {fa : Addr} (X : K.In h) (G : h.Ns mainGlobals mg) (hfa : mg "law" = some (.ref fa))
    {C_BadSize : Addr}
    {f0 : Addr} {od0 an0 : Option Addr} {sl0 : Array (Option Value)} {oc0 kV0 dc0 pm0 cd0 ct0 : Value}
    {f1 : Addr} {od1 an1 : Option Addr} {sl1 : Array (Option Value)} {oc1 kV1 dc1 pm1 cd1 ct1 : Value}
    {f2 : Addr} {od2 an2 : Option Addr} {sl2 : Array (Option Value)} {oc2 kV2 dc2 pm2 cd2 ct2 : Value}
    {f3 : Addr} {od3 an3 : Option Addr} {sl3 : Array (Option Value)} {oc3 kV3 dc3 pm3 cd3 ct3 : Value}
    {f4 : Addr} {od4 an4 : Option Addr} {sl4 : Array (Option Value)} {oc4 kV4 dc4 pm4 cd4 ct4 : Value}
    {f5 : Addr} {od5 an5 : Option Addr} {sl5 : Array (Option Value)} {oc5 kV5 dc5 pm5 cd5 ct5 : Value}
    {f6 : Addr} {od6 an6 : Option Addr} {sl6 : Array (Option Value)} {oc6 kV6 dc6 pm6 cd6 ct6 : Value}
    {f7 : Addr} {od7 an7 : Option Addr} {sl7 : Array (Option Value)} {oc7 kV7 dc7 pm7 cd7 ct7 : Value}
    {f8 : Addr} {od8 an8 : Option Addr} {sl8 : Array (Option Value)} {oc8 kV8 dc8 pm8 cd8 ct8 : Value}
    {f9 : Addr} {od9 an9 : Option Addr} {sl9 : Array (Option Value)} {oc9 kV9 dc9 pm9 cd9 ct9 : Value}
    {f10 : Addr} {od10 an10 : Option Addr} {sl10 : Array (Option Value)} {oc10 kV10 dc10 pm10 cd10 ct10 : Value}
    {f11 : Addr} {od11 an11 : Option Addr} {sl11 : Array (Option Value)} {oc11 kV11 dc11 pm11 cd11 ct11 : Value}
    {f12 : Addr} {od12 an12 : Option Addr} {sl12 : Array (Option Value)} {oc12 kV12 dc12 pm12 cd12 ct12 : Value}
    {f13 : Addr} {od13 an13 : Option Addr} {sl13 : Array (Option Value)} {oc13 kV13 dc13 pm13 cd13 ct13 : Value}
    {f14 : Addr} {od14 an14 : Option Addr} {sl14 : Array (Option Value)} {oc14 kV14 dc14 pm14 cd14 ct14 : Value}
    {f15 : Addr} {od15 an15 : Option Addr} {sl15 : Array (Option Value)} {oc15 kV15 dc15 pm15 cd15 ct15 : Value}
    {f16 : Addr} {od16 an16 : Option Addr} {sl16 : Array (Option Value)} {oc16 kV16 dc16 pm16 cd16 ct16 : Value}
    {tk_LEAST_SIZE : Tok}
    {tk_MOST_SIZE : Tok}
    (n_BadSize : PySem.W.nsIn K mainGlobals "BadSize" = some (some (.ref C_BadSize)))
    (kc_BadSize : PySem.W.keepIn K (.ref C_BadSize) = true)
    (xc_BadSize : PySem.W.excIn K C_BadSize [.type "ValueError", .type "Exception", .type "BaseException", .type "object"] "ValueError.__new__" = true)
    (bc_BadSize : PySem.W.subIn K (.ref C_BadSize) (.type "BaseException") = some true)
    (tc_BadSize : PySem.W.typeIn K (.ref C_BadSize) = some (.type "type"))
    (a0 : PySem.W.nsIn K mainGlobals "_law_cell" = some (some (.ref f0)))
    (l0 : K.lookup f0 = some ⟨oc0, od0, .func (PySem.W.fnOf "_law_cell" "_law_cell" (defArgs s__law_cell) (defBody s__law_cell) (defScope s__law_cell) .none kV0 dc0 pm0 an0 cd0 ct0), sl0⟩)
    (c0 : PySem.W.codeIn K cd0 "_law_cell" = true)
    (k0 : PySem.W.keepIn K (.ref f0) = true)
    (a1 : PySem.W.nsIn K mainGlobals "_law_drawn" = some (some (.ref f1)))
    (l1 : K.lookup f1 = some ⟨oc1, od1, .func (PySem.W.fnOf "_law_drawn" "_law_drawn" (defArgs s__law_drawn) (defBody s__law_drawn) (defScope s__law_drawn) .none kV1 dc1 pm1 an1 cd1 ct1), sl1⟩)
    (c1 : PySem.W.codeIn K cd1 "_law_drawn" = true)
    (k1 : PySem.W.keepIn K (.ref f1) = true)
    (a2 : PySem.W.nsIn K mainGlobals "is_count" = some (some (.ref f2)))
    (l2 : K.lookup f2 = some ⟨oc2, od2, .func (PySem.W.fnOf "is_count" "is_count" (defArgs s_is_count) (defBody s_is_count) (defScope s_is_count) .none kV2 dc2 pm2 an2 cd2 ct2), sl2⟩)
    (c2 : PySem.W.codeIn K cd2 "is_count" = true)
    (k2 : PySem.W.keepIn K (.ref f2) = true)
    (a3 : PySem.W.nsIn K mainGlobals "need_size" = some (some (.ref f3)))
    (l3 : K.lookup f3 = some ⟨oc3, od3, .func (PySem.W.fnOf "need_size" "need_size" (defArgs s_need_size) (defBody s_need_size) (defScope s_need_size) .none kV3 dc3 pm3 an3 cd3 ct3), sl3⟩)
    (c3 : PySem.W.codeIn K cd3 "need_size" = true)
    (k3 : PySem.W.keepIn K (.ref f3) = true)
    (a4 : PySem.W.nsIn K mainGlobals "need_count" = some (some (.ref f4)))
    (l4 : K.lookup f4 = some ⟨oc4, od4, .func (PySem.W.fnOf "need_count" "need_count" (defArgs s_need_count) (defBody s_need_count) (defScope s_need_count) .none kV4 dc4 pm4 an4 cd4 ct4), sl4⟩)
    (c4 : PySem.W.codeIn K cd4 "need_count" = true)
    (k4 : PySem.W.keepIn K (.ref f4) = true)
    (a5 : PySem.W.nsIn K mainGlobals "fraction" = some (some (.ref f5)))
    (l5 : K.lookup f5 = some ⟨oc5, od5, .func (PySem.W.fnOf "fraction" "fraction" (defArgs s_fraction) (defBody s_fraction) (defScope s_fraction) .none kV5 dc5 pm5 an5 cd5 ct5), sl5⟩)
    (c5 : PySem.W.codeIn K cd5 "fraction" = true)
    (k5 : PySem.W.keepIn K (.ref f5) = true)
    (a6 : PySem.W.nsIn K mainGlobals "times" = some (some (.ref f6)))
    (l6 : K.lookup f6 = some ⟨oc6, od6, .func (PySem.W.fnOf "times" "times" (defArgs s_times) (defBody s_times) (defScope s_times) .none kV6 dc6 pm6 an6 cd6 ct6), sl6⟩)
    (c6 : PySem.W.codeIn K cd6 "times" = true)
    (k6 : PySem.W.keepIn K (.ref f6) = true)
    (a7 : PySem.W.nsIn K mainGlobals "plus" = some (some (.ref f7)))
    (l7 : K.lookup f7 = some ⟨oc7, od7, .func (PySem.W.fnOf "plus" "plus" (defArgs s_plus) (defBody s_plus) (defScope s_plus) .none kV7 dc7 pm7 an7 cd7 ct7), sl7⟩)
    (c7 : PySem.W.codeIn K cd7 "plus" = true)
    (k7 : PySem.W.keepIn K (.ref f7) = true)
    (a8 : PySem.W.nsIn K mainGlobals "falling" = some (some (.ref f8)))
    (l8 : K.lookup f8 = some ⟨oc8, od8, .func (PySem.W.fnOf "falling" "falling" (defArgs s_falling) (defBody s_falling) (defScope s_falling) .none kV8 dc8 pm8 an8 cd8 ct8), sl8⟩)
    (c8 : PySem.W.codeIn K cd8 "falling" = true)
    (k8 : PySem.W.keepIn K (.ref f8) = true)
    (a9 : PySem.W.nsIn K mainGlobals "half" = some (some (.ref f9)))
    (l9 : K.lookup f9 = some ⟨oc9, od9, .func (PySem.W.fnOf "half" "half" (defArgs s_half) (defBody s_half) (defScope s_half) .none kV9 dc9 pm9 an9 cd9 ct9), sl9⟩)
    (c9 : PySem.W.codeIn K cd9 "half" = true)
    (k9 : PySem.W.keepIn K (.ref f9) = true)
    (a10 : PySem.W.nsIn K mainGlobals "miss" = some (some (.ref f10)))
    (l10 : K.lookup f10 = some ⟨oc10, od10, .func (PySem.W.fnOf "miss" "miss" (defArgs s_miss) (defBody s_miss) (defScope s_miss) .none kV10 dc10 pm10 an10 cd10 ct10), sl10⟩)
    (c10 : PySem.W.codeIn K cd10 "miss" = true)
    (k10 : PySem.W.keepIn K (.ref f10) = true)
    (a11 : PySem.W.nsIn K mainGlobals "_law_under" = some (some (.ref f11)))
    (l11 : K.lookup f11 = some ⟨oc11, od11, .func (PySem.W.fnOf "_law_under" "_law_under" (defArgs s__law_under) (defBody s__law_under) (defScope s__law_under) .none kV11 dc11 pm11 an11 cd11 ct11), sl11⟩)
    (c11 : PySem.W.codeIn K cd11 "_law_under" = true)
    (k11 : PySem.W.keepIn K (.ref f11) = true)
    (a12 : PySem.W.nsIn K mainGlobals "hit" = some (some (.ref f12)))
    (l12 : K.lookup f12 = some ⟨oc12, od12, .func (PySem.W.fnOf "hit" "hit" (defArgs s_hit) (defBody s_hit) (defScope s_hit) .none kV12 dc12 pm12 an12 cd12 ct12), sl12⟩)
    (c12 : PySem.W.codeIn K cd12 "hit" = true)
    (k12 : PySem.W.keepIn K (.ref f12) = true)
    (a13 : PySem.W.nsIn K mainGlobals "_law_made" = some (some (.ref f13)))
    (l13 : K.lookup f13 = some ⟨oc13, od13, .func (PySem.W.fnOf "_law_made" "_law_made" (defArgs s__law_made) (defBody s__law_made) (defScope s__law_made) .none kV13 dc13 pm13 an13 cd13 ct13), sl13⟩)
    (c13 : PySem.W.codeIn K cd13 "_law_made" = true)
    (k13 : PySem.W.keepIn K (.ref f13) = true)
    (a14 : PySem.W.nsIn K mainGlobals "_law_plus" = some (some (.ref f14)))
    (l14 : K.lookup f14 = some ⟨oc14, od14, .func (PySem.W.fnOf "_law_plus" "_law_plus" (defArgs s__law_plus) (defBody s__law_plus) (defScope s__law_plus) .none kV14 dc14 pm14 an14 cd14 ct14), sl14⟩)
    (c14 : PySem.W.codeIn K cd14 "_law_plus" = true)
    (k14 : PySem.W.keepIn K (.ref f14) = true)
    (a15 : PySem.W.nsIn K mainGlobals "_law_miss" = some (some (.ref f15)))
    (l15 : K.lookup f15 = some ⟨oc15, od15, .func (PySem.W.fnOf "_law_miss" "_law_miss" (defArgs s__law_miss) (defBody s__law_miss) (defScope s__law_miss) .none kV15 dc15 pm15 an15 cd15 ct15), sl15⟩)
    (c15 : PySem.W.codeIn K cd15 "_law_miss" = true)
    (k15 : PySem.W.keepIn K (.ref f15) = true)
    (a16 : PySem.W.nsIn K mainGlobals "law" = some (some (.ref f16)))
    (l16 : K.lookup f16 = some ⟨oc16, od16, .func (PySem.W.fnOf "law" "law" (defArgs s_law) (defBody s_law) (defScope s_law) .none kV16 dc16 pm16 an16 cd16 ct16), sl16⟩)
    (c16 : PySem.W.codeIn K cd16 "law" = true)
    (k16 : PySem.W.keepIn K (.ref f16) = true)
    (v_LEAST_SIZE : PySem.W.nsIn K mainGlobals "LEAST_SIZE" = some (some (.int 2 tk_LEAST_SIZE)))
    (v_MOST_SIZE : PySem.W.nsIn K mainGlobals "MOST_SIZE" = some (some (.int 64 tk_MOST_SIZE)))
    (b_abs : PySem.W.nsIn K mainGlobals "abs" = some none)
    (b_bool : PySem.W.nsIn K mainGlobals "bool" = some none)
    (b_int : PySem.W.nsIn K mainGlobals "int" = some none)
    (b_isinstance : PySem.W.nsIn K mainGlobals "isinstance" = some none)
    (b_len : PySem.W.nsIn K mainGlobals "len" = some none)
    (b_max : PySem.W.nsIn K mainGlobals "max" = some none)
    (b_min : PySem.W.nsIn K mainGlobals "min" = some none)
    (b_range : PySem.W.nsIn K mainGlobals "range" = some none)
    (b_tuple : PySem.W.nsIn K mainGlobals "tuple" = some none) :
    ∃ fd : FuncData, (∀ (s : Shared) (v : Value), BindsTo s fd ⟨[v], []⟩ [("_law_script", v)]) ∧ ∀ base : Heap, K.In base → base.Ns mainGlobals mg → FnOk l.prog w K mg base (L2.CX l.prog w) 5 fa fd ["_law_script"] (spLaw K) := by
  have e := hfa.symm.trans (PySem.W.mg_of X G a16)
  cases e
  refine ⟨PySem.W.fnOf "law" "law" (defArgs s_law) (defBody s_law) (defScope s_law) .none kV16 dc16 pm16 an16 cd16 ct16, fun s v => .of_eq rfl, fun base _ _ => ?_⟩
  let cs : Cs := ⟨0, 0, C_BadSize, 0, 0, 0, 0, 0, 0⟩
  have x_BadSize : ExcT K mg "BadSize" cs.BadSize := ⟨PySem.W.mg_of X G n_BadSize, kc_BadSize, xc_BadSize, bc_BadSize, tc_BadSize⟩
  have k_LEAST_SIZE : ∃ t, mg "LEAST_SIZE" = some (.int 2 t) := ⟨_, PySem.W.mg_of X G v_LEAST_SIZE⟩
  have k_MOST_SIZE : ∃ t, mg "MOST_SIZE" = some (.int 64 t) := ⟨_, PySem.W.mg_of X G v_MOST_SIZE⟩
  have m_abs : mg "abs" = none := PySem.W.mg_none_of X G b_abs
  have m_bool : mg "bool" = none := PySem.W.mg_none_of X G b_bool
  have m_int : mg "int" = none := PySem.W.mg_none_of X G b_int
  have m_isinstance : mg "isinstance" = none := PySem.W.mg_none_of X G b_isinstance
  have m_len : mg "len" = none := PySem.W.mg_none_of X G b_len
  have m_max : mg "max" = none := PySem.W.mg_none_of X G b_max
  have m_min : mg "min" = none := PySem.W.mg_none_of X G b_min
  have m_range : mg "range" = none := PySem.W.mg_none_of X G b_range
  have m_tuple : mg "tuple" = none := PySem.W.mg_none_of X G b_tuple
  have D__law_cell : Dn K mg "_law_cell" s__law_cell ["_law_script", "_law_k"] := ⟨f0, _, fun_mk (st := s__law_cell) l0 c0 k0, PySem.W.mg_of X G a0, (fun_mk (st := s__law_cell) l0 c0 k0).binds fun _ _ _ _ _ _ us hl => match us, hl with | [_, _], _ => rfl⟩
  have cal__law_cell := ok__law_cell (P := l.prog) (w := w) (base := base) (cs := cs) D__law_cell m_len
  have D__law_drawn : Dn K mg "_law_drawn" s__law_drawn ["_law_cell_here", "_law_k"] := ⟨f1, _, fun_mk (st := s__law_drawn) l1 c1 k1, PySem.W.mg_of X G a1, (fun_mk (st := s__law_drawn) l1 c1 k1).binds fun _ _ _ _ _ _ us hl => match us, hl with | [_, _], _ => rfl⟩
  have cal__law_drawn := ok__law_drawn (P := l.prog) (w := w) (base := base) (cs := cs) D__law_drawn
  have D_is_count : Dn K mg "is_count" s_is_count ["thing", "least", "most"] := ⟨f2, _, fun_mk (st := s_is_count) l2 c2 k2, PySem.W.mg_of X G a2, (fun_mk (st := s_is_count) l2 c2 k2).binds fun _ _ _ _ _ _ us hl => match us, hl with | [_, _, _], _ => rfl⟩
  have cal_is_count := ok_is_count (P := l.prog) (w := w) (base := base) (cs := cs) D_is_count m_int m_isinstance m_bool
  have D_need_size : Dn K mg "need_size" s_need_size ["size"] := ⟨f3, _, fun_mk (st := s_need_size) l3 c3 k3, PySem.W.mg_of X G a3, (fun_mk (st := s_need_size) l3 c3 k3).binds fun _ _ _ _ _ _ us hl => match us, hl with | [_], _ => rfl⟩
  have cal_need_size := ok_need_size (P := l.prog) (w := w) (base := base) (cs := cs) D_need_size cal_is_count k_LEAST_SIZE k_MOST_SIZE x_BadSize
  have D_need_count : Dn K mg "need_count" s_need_count ["number", "least", "most"] := ⟨f4, _, fun_mk (st := s_need_count) l4 c4 k4, PySem.W.mg_of X G a4, (fun_mk (st := s_need_count) l4 c4 k4).binds fun _ _ _ _ _ _ us hl => match us, hl with | [_, _, _], _ => rfl⟩
  have cal_need_count := ok_need_count (P := l.prog) (w := w) (base := base) (cs := cs) D_need_count cal_is_count x_BadSize
  have D_fraction : Dn K mg "fraction" s_fraction ["top", "under"] := ⟨f5, _, fun_mk (st := s_fraction) l5 c5 k5, PySem.W.mg_of X G a5, (fun_mk (st := s_fraction) l5 c5 k5).binds fun _ _ _ _ _ _ us hl => match us, hl with | [_, _], _ => rfl⟩
  have cal_fraction := ok_fraction (P := l.prog) (w := w) (base := base) (cs := cs) D_fraction m_abs
  have D_times : Dn K mg "times" s_times ["one", "other"] := ⟨f6, _, fun_mk (st := s_times) l6 c6 k6, PySem.W.mg_of X G a6, (fun_mk (st := s_times) l6 c6 k6).binds fun _ _ _ _ _ _ us hl => match us, hl with | [_, _], _ => rfl⟩
  have cal_times := ok_times (P := l.prog) (w := w) (base := base) (cs := cs) D_times cal_fraction
  have D_plus : Dn K mg "plus" s_plus ["one", "other"] := ⟨f7, _, fun_mk (st := s_plus) l7 c7 k7, PySem.W.mg_of X G a7, (fun_mk (st := s_plus) l7 c7 k7).binds fun _ _ _ _ _ _ us hl => match us, hl with | [_, _], _ => rfl⟩
  have cal_plus := ok_plus (P := l.prog) (w := w) (base := base) (cs := cs) D_plus cal_fraction
  have D_falling : Dn K mg "falling" s_falling ["size", "many", "weight"] := ⟨f8, _, fun_mk (st := s_falling) l8 c8 k8, PySem.W.mg_of X G a8, (fun_mk (st := s_falling) l8 c8 k8).binds fun _ _ _ _ _ _ us hl => match us, hl with | [_, _, _], _ => rfl⟩
  have cal_falling := ok_falling (P := l.prog) (w := w) (base := base) (cs := cs) D_falling cal_times cal_plus m_range
  have D_half : Dn K mg "half" s_half ["one"] := ⟨f9, _, fun_mk (st := s_half) l9 c9 k9, PySem.W.mg_of X G a9, (fun_mk (st := s_half) l9 c9 k9).binds fun _ _ _ _ _ _ us hl => match us, hl with | [_], _ => rfl⟩
  have cal_half := ok_half (P := l.prog) (w := w) (base := base) (cs := cs) D_half cal_fraction
  have D_miss : Dn K mg "miss" s_miss ["size", "many"] := ⟨f10, _, fun_mk (st := s_miss) l10 c10 k10, PySem.W.mg_of X G a10, (fun_mk (st := s_miss) l10 c10 k10).binds fun _ _ _ _ _ _ us hl => match us, hl with | [_, _], _ => rfl⟩
  have cal_miss := ok_miss (P := l.prog) (w := w) (base := base) (cs := cs) D_miss cal_need_size cal_need_count cal_falling cal_half
  have D__law_under : Dn K mg "_law_under" s__law_under ["_law_one", "_law_other"] := ⟨f11, _, fun_mk (st := s__law_under) l11 c11 k11, PySem.W.mg_of X G a11, (fun_mk (st := s__law_under) l11 c11 k11).binds fun _ _ _ _ _ _ us hl => match us, hl with | [_, _], _ => rfl⟩
  have cal__law_under := ok__law_under (P := l.prog) (w := w) (base := base) (cs := cs) D__law_under
  have D_hit : Dn K mg "hit" s_hit ["size", "many"] := ⟨f12, _, fun_mk (st := s_hit) l12 c12 k12, PySem.W.mg_of X G a12, (fun_mk (st := s_hit) l12 c12 k12).binds fun _ _ _ _ _ _ us hl => match us, hl with | [_, _], _ => rfl⟩
  have cal_hit := ok_hit (P := l.prog) (w := w) (base := base) (cs := cs) D_hit cal_need_size cal_need_count cal_falling cal_half
  have D__law_made : Dn K mg "_law_made" s__law_made ["_law_top", "_law_under_here"] := ⟨f13, _, fun_mk (st := s__law_made) l13 c13 k13, PySem.W.mg_of X G a13, (fun_mk (st := s__law_made) l13 c13 k13).binds fun _ _ _ _ _ _ us hl => match us, hl with | [_, _], _ => rfl⟩
  have cal__law_made := ok__law_made (P := l.prog) (w := w) (base := base) (cs := cs) D__law_made m_abs
  have D__law_plus : Dn K mg "_law_plus" s__law_plus ["_law_one", "_law_other"] := ⟨f14, _, fun_mk (st := s__law_plus) l14 c14 k14, PySem.W.mg_of X G a14, (fun_mk (st := s__law_plus) l14 c14 k14).binds fun _ _ _ _ _ _ us hl => match us, hl with | [_, _], _ => rfl⟩
  have cal__law_plus := ok__law_plus (P := l.prog) (w := w) (base := base) (cs := cs) D__law_plus cal__law_made
  have D__law_miss : Dn K mg "_law_miss" s__law_miss ["_law_size", "_law_many"] := ⟨f15, _, fun_mk (st := s__law_miss) l15 c15 k15, PySem.W.mg_of X G a15, (fun_mk (st := s__law_miss) l15 c15 k15).binds fun _ _ _ _ _ _ us hl => match us, hl with | [_, _], _ => rfl⟩
  have cal__law_miss := ok__law_miss (P := l.prog) (w := w) (base := base) (cs := cs) D__law_miss cal__law_made m_range
  exact ok_law (cs := cs) (fun_mk (st := s_law) l16 c16 k16) cal__law_cell cal__law_drawn cal_miss cal__law_under cal_hit cal__law_made cal__law_plus cal__law_miss m_range m_len m_min m_max m_tuple m_isinstance
theorem walk {l : PySem.W.OpenLaw} {q : Program} {loose : List Str} {XP : (Str → Option Value) → Heap → Prop} {YP : World → Heap → Prop} {d : DefRec} {K : Params → PySem.W.Frag} (hn : l.most = some 63) (hdf : d.params.defaults = [])
    (hY : ∀ (w : World) (h : Heap), YP w h → (K w.params).In h)
    (F : ∀ (w : World) (mg : Str → Option Value) (fa : Addr) (h : Heap), (K w.params).In h → h.Ns mainGlobals mg → mg d.name = some (.ref fa) →
      ∃ fd : FuncData, (∀ (s : Shared) (u : Value), BindsTo s fd ⟨[u], []⟩ [("_law_script", u)]) ∧ ∀ base : Heap, (K w.params).In base → base.Ns mainGlobals mg → FnOk l.prog w (K w.params) mg base (L2.CX l.prog w) 5 fa fd ["_law_script"] (spLaw (K w.params))) :
    PySem.W.WalkO q loose XP YP l.row.toRowW d [] (fun f vs => PySem.call f vs) := by
  refine L2.walk_of (n := 63) (k := 5) (x := "_law_script") (CX := fun w => L2.CX l.prog w) (sp := fun w => spLaw (K w.params)) hn (by decide) hdf ⟨rfl, by decide, by decide⟩ hY F (fun _ _ a ns hl _ hS => ⟨a, ns, rfl, hS, hl, fun _ => rfl⟩) fun _ _ _ _ _ h => ?_
  obtain ⟨_, _, _, _, _, _, _, _, _, _, _, _, z⟩ := h
  exact z.elim
end Lg
open PySem PySem.W PyProof.Rows
set_option maxRecDepth 100000 in
set_option maxHeartbeats 0 in
theorem PySem.Challenge.cw_strewn_k41_whole_averages_holds : PySem.Challenge.rw_strewn_k41_whole_averages.Holds := by
  w_on; o_law; k_head; (case hw => w_witness2)
  k_fill
  refine Lg.walk (l := PySem.Challenge.rw_strewn_k41_whole_averages) rfl rfl (fun w h Y => PySem.W.kIn_of Y) ?F
  case F =>
    intro w mg fa h KX G hmg
    refine' Lg.all_mk KX G hmg ?n_BadSize ?kc_BadSize ?xc_BadSize ?bc_BadSize ?tc_BadSize ?a0 ?l0 ?c0 ?k0 ?a1 ?l1 ?c1 ?k1 ?a2 ?l2 ?c2 ?k2 ?a3 ?l3 ?c3 ?k3 ?a4 ?l4 ?c4 ?k4 ?a5 ?l5 ?c5 ?k5 ?a6 ?l6 ?c6 ?k6 ?a7 ?l7 ?c7 ?k7 ?a8 ?l8 ?c8 ?k8 ?a9 ?l9 ?c9 ?k9 ?a10 ?l10 ?c10 ?k10 ?a11 ?l11 ?c11 ?k11 ?a12 ?l12 ?c12 ?k12 ?a13 ?l13 ?c13 ?k13 ?a14 ?l14 ?c14 ?k14 ?a15 ?l15 ?c15 ?k15 ?a16 ?l16 ?c16 ?k16 ?v_LEAST_SIZE ?v_MOST_SIZE ?b_abs ?b_bool ?b_int ?b_isinstance ?b_len ?b_max ?b_min ?b_range ?b_tuple
    (case n_BadSize => k_is)
    (case kc_BadSize => k_is)
    (case xc_BadSize => k_exc)
    (case bc_BadSize => k_is)
    (case tc_BadSize => k_is)
    (case a0 => k_is)
    (case l0 => k_is)
    (case c0 => k_is)
    (case k0 => k_is)
    (case a1 => k_is)
    (case l1 => k_is)
    (case c1 => k_is)
    (case k1 => k_is)
    (case a2 => k_is)
    (case l2 => k_is)
    (case c2 => k_is)
    (case k2 => k_is)
    (case a3 => k_is)
    (case l3 => k_is)
    (case c3 => k_is)
    (case k3 => k_is)
    (case a4 => k_is)
    (case l4 => k_is)
    (case c4 => k_is)
    (case k4 => k_is)
    (case a5 => k_is)
    (case l5 => k_is)
    (case c5 => k_is)
    (case k5 => k_is)
    (case a6 => k_is)
    (case l6 => k_is)
    (case c6 => k_is)
    (case k6 => k_is)
    (case a7 => k_is)
    (case l7 => k_is)
    (case c7 => k_is)
    (case k7 => k_is)
    (case a8 => k_is)
    (case l8 => k_is)
    (case c8 => k_is)
    (case k8 => k_is)
    (case a9 => k_is)
    (case l9 => k_is)
    (case c9 => k_is)
    (case k9 => k_is)
    (case a10 => k_is)
    (case l10 => k_is)
    (case c10 => k_is)
    (case k10 => k_is)
    (case a11 => k_is)
    (case l11 => k_is)
    (case c11 => k_is)
    (case k11 => k_is)
    (case a12 => k_is)
    (case l12 => k_is)
    (case c12 => k_is)
    (case k12 => k_is)
    (case a13 => k_is)
    (case l13 => k_is)
    (case c13 => k_is)
    (case k13 => k_is)
    (case a14 => k_is)
    (case l14 => k_is)
    (case c14 => k_is)
    (case k14 => k_is)
    (case a15 => k_is)
    (case l15 => k_is)
    (case c15 => k_is)
    (case k15 => k_is)
    (case a16 => k_is)
    (case l16 => k_is)
    (case c16 => k_is)
    (case k16 => k_is)
    (case v_LEAST_SIZE => k_is)
    (case v_MOST_SIZE => k_is)
    (case b_abs => k_is)
    (case b_bool => k_is)
    (case b_int => k_is)
    (case b_isinstance => k_is)
    (case b_len => k_is)
    (case b_max => k_is)
    (case b_min => k_is)
    (case b_range => k_is)
    (case b_tuple => k_is)
