import PyProof.Rows.All
import Wide.All
import OpenK.AllK
import Wide.FinOn
import HandS.ForExc
import HandS.Comp
import HandS.Iter
import HandS.Zip
import HandS.Wide
import HandS.SortInts
import HandS.IsInst
import HandS.EndBits
import HandS.Style
import HandS.TupMul
import HandS.TupAny
import HandS.Flow
import HandS.ExcCtx
import HandS.HotCalls
import HandS.ExcIs
import HandS.List
import HandS.Remove
import HandS.Walk
import HandS.Dict
import PySem.Challenge.RW_strewn_k51_whole_longest
set_option Elab.async false
set_option linter.all false
set_option maxRecDepth 100000
set_option maxHeartbeats 4000000
set_option exponentiation.threshold 5000
/-! Lg: a small logic over the readings: what is known of the heap is a part of it, and every continuation is kept by extension. -/
namespace Lg
open PySem PySem.Spec PyProof.Rows L2
abbrev Sg := List (Option V)
def Ex (H H' : Hp) : Prop := ∀ a o, H a = some o → H' a = some o
theorem Ex.rf {H : Hp} : Ex H H := fun _ _ h => h
theorem Ex.tr {H H1 H2 : Hp} (a : Ex H H1) (b : Ex H1 H2) : Ex H H2 := fun x o h => b x o (a x o h)
theorem Ex.fresh {H H' : Hp} (e : Ex H H') {p : Addr} (h : H' p = none) : H p = none := by
  cases q : H p with
  | none => rfl
  | some o =>
    have z := e p o q
    rw [h] at z
    cases z
theorem Ex.ups {H H' : Hp} (e : Ex H H') (p : Addr) (o : HO) : Ex (upd H p o) (upd H' p o) := fun a u h => by
  by_cases q : a = p
  · subst q
    rw [upd_same] at h ⊢
    exact h
  · rw [upd_ne q] at h ⊢
    exact e a u h
theorem Ex.news {H : Hp} {p : Addr} {o : HO} (h : H p = none) : Ex H (L2.upd H p o) := fun a u e => by
  rw [upd_ne (ne_of_none e h)]
  exact e
theorem Ex.newr {H H' : Hp} {p : Addr} {o : HO} (e : Ex H H') (h : H' p = none) : Ex H (L2.upd H' p o) := e.tr (Ex.news h)
/-- what H does not know may be changed -/
theorem Ex.mutr {H H' : Hp} {p : Addr} {o : HO} (e : Ex H H') (h : H p = none) : Ex H (L2.upd H' p o) := fun a u ha => by
  rw [upd_ne (ne_of_none ha h)]
  exact e a u ha
theorem Ex.get {H H' : Hp} (e : Ex H H') {a : Addr} {o : HO} (h : H a = some o) : H' a = some o := e a o h
theorem rd_ex {H H' : Hp} (e : Ex H H') {a : Addr} {o : HO} (h : Rd H a o) : Rd H' a o := by
  rcases h with h | ⟨u, h⟩
  · exact .inl (e _ _ h)
  · exact .inr ⟨u, e _ _ h⟩
theorem Ex.sl {K : PySem.W.Frag} {H H' : Hp} (e : Ex H H') {a : Addr} {xs : List V} (h : SqL K H a xs) : SqL K H' a xs := by
  rcases h with h | h
  · exact .inl (rd_ex e h)
  · exact .inr h
theorem Ex.st {K : PySem.W.Frag} {H H' : Hp} (e : Ex H H') {a : Addr} {xs : List V} (h : SqT K H a xs) : SqT K H' a xs := by
  rcases h with h | h
  · exact .inl (rd_ex e h)
  · exact .inr h

abbrev PV := V → Hp → Prop
abbrev PS' := Sg → Hp → Prop
/-! ### the judgements -/
def kE (te : TE) (σ : Sg) (H : Hp) (Q : PV) : Prop := ∀ H1, Ex H H1 → ∀ Q1 : VK, (∀ v H0 H2, Q v H0 → Ex H0 H2 → Q1 v H2) → te σ H1 Q1
def kT (tt : TT) (σ : Sg) (H : Hp) (Q : Bool → Hp → Prop) : Prop := ∀ H1, Ex H H1 → ∀ Q1 : Bool → Hp → Prop, (∀ v H0 H2, Q v H0 → Ex H0 H2 → Q1 v H2) → tt σ H1 Q1
def kA (ta : TA) (σ : Sg) (H : Hp) (Q : List V → Hp → Prop) : Prop := ∀ H1, Ex H H1 → ∀ Q1 : List V → Hp → Prop, (∀ v H0 H2, Q v H0 → Ex H0 H2 → Q1 v H2) → ta σ H1 Q1
def kO (to : TO) (σ : Sg) (H : Hp) (Q : Option Int → Hp → Prop) : Prop := ∀ H1, Ex H H1 → ∀ Q1 : Option Int → Hp → Prop, (∀ v H0 H2, Q v H0 → Ex H0 H2 → Q1 v H2) → to σ H1 Q1
def kR (r : R2) (x y : V) (H : Hp) (Q : PV) : Prop := ∀ H1, Ex H H1 → ∀ Q1 : VK, (∀ v H0 H2, Q v H0 → Ex H0 H2 → Q1 v H2) → r x y H1 Q1
def kU (r : V → Hp → VK → Prop) (x : V) (H : Hp) (Q : PV) : Prop := ∀ H1, Ex H H1 → ∀ Q1 : VK, (∀ v H0 H2, Q v H0 → Ex H0 H2 → Q1 v H2) → r x H1 Q1
def kC (r : List V → Hp → VK → Prop) (vs : List V) (H : Hp) (Q : PV) : Prop := ∀ H1, Ex H H1 → ∀ Q1 : VK, (∀ v H0 H2, Q v H0 → Ex H0 H2 → Q1 v H2) → r vs H1 Q1
def kM (r : V → List V → Hp → VK → Prop) (x : V) (vs : List V) (H : Hp) (Q : PV) : Prop := ∀ H1, Ex H H1 → ∀ Q1 : VK, (∀ v H0 H2, Q v H0 → Ex H0 H2 → Q1 v H2) → r x vs H1 Q1
def kG (g : TG) (v : V) (σ : Sg) (H : Hp) (Q : PS') : Prop := ∀ H1, Ex H H1 → ∀ Q1 : PS', (∀ v H0 H2, Q v H0 → Ex H0 H2 → Q1 v H2) → g v σ H1 Q1
def kGs (g : TGs) (vs : List V) (σ : Sg) (H : Hp) (Q : PS') : Prop := ∀ H1, Ex H H1 → ∀ Q1 : PS', (∀ v H0 H2, Q v H0 → Ex H0 H2 → Q1 v H2) → g vs σ H1 Q1
def kS (ts : TS) (N : PS') (R : PV) (B C : PS') (σ : Sg) (H : Hp) : Prop := ∀ H1, Ex H H1 → ∀ D : Ends, (∀ s H0 H2, N s H0 → Ex H0 H2 → D.nx s H2) → (∀ v H0 H2, R v H0 → Ex H0 H2 → D.rt v H2) →
  (∀ s H0 H2, B s H0 → Ex H0 H2 → D.bk s H2) → (∀ s H0 H2, C s H0 → Ex H0 H2 → D.ct s H2) → ts D σ H1
/-- wanted of every extension -/
def upR (Q : VK) : PV := fun v H0 => ∀ H2, Ex H0 H2 → Q v H2
abbrev noS : PS' := fun _ _ => False
theorem fin {ts : TS} {Q : VK} {σ : Sg} {H : Hp} (h : kS ts (fun _ H0 => upR Q .non H0) (upR Q) noS noS σ H) : ts { nx := fun _ H' => Q .non H', rt := Q } σ H :=
  h H Ex.rf _ (fun _ _ _ r e => r _ e) (fun _ _ _ r e => r _ e) (fun _ _ _ r _ => r.elim) (fun _ _ _ r _ => r.elim)

variable {K : PySem.W.Frag} {σ σ' : Sg} {H H' : Hp} {ta tb tc te : TE} {tt tu : TT} {t u : TA} {Q : PV} {QB : Bool → Hp → Prop} {QA : List V → Hp → Prop} {N B C : PS'} {R : PV} {ts us : TS} {x y v : V} {i j : Int} {r r' : R2} {g : TG} {gs : TGs}
/-! ### expressions -/
theorem e_var {n : Nat} (h : σ[n]? = some (some v)) (k : Q v H) : kE (tVar n) σ H Q := fun H1 e _ q => ⟨v, h, q v H H1 k e⟩
theorem e_c (k : Q v H) : kE (tC v) σ H Q := fun H1 e _ q => q v H H1 k e
theorem e_op (k : kE ta σ H fun x H1 => kE tb σ H1 fun y H2 => kR r x y H2 Q) : kE (tOp r ta tb) σ H Q := fun H1 e _ q =>
  k H1 e _ fun _ _ H2 hx e2 => hx H2 e2 _ fun _ _ H3 hy e3 => hy H3 e3 _ q
theorem e_un {r : V → Hp → VK → Prop} (k : kE ta σ H fun x H1 => kU r x H1 Q) : kE (tUn r ta) σ H Q := fun H1 e _ q => k H1 e _ fun _ _ H2 hx e2 => hx H2 e2 _ q
theorem e_cb {r : List V → Hp → VK → Prop} (k : kA t σ H fun vs H1 => kC r vs H1 Q) : kE (tCB r t) σ H Q := fun H1 e _ q => k H1 e _ fun _ _ H2 hx e2 => hx H2 e2 _ q
theorem e_call {sp : Sp} {E : XK} (k : kA t σ H fun vs H1 => kC (fun ws H Q => sp ws H Q E) vs H1 Q) : kE (tCall sp [] E t) σ H Q := fun H1 e _ q => k H1 e _ fun vs _ H2 hx e2 => by
  rw [List.append_nil]
  exact hx H2 e2 _ q
theorem e_callS {sp : Sp} {E : Sg → XK} (k : kA t σ H fun vs H1 => kC (fun ws H Q => sp ws H Q (E σ)) vs H1 Q) : kE (tCallS sp E t) σ H Q := fun H1 e _ q => k H1 e _ fun _ _ H2 hx e2 => hx H2 e2 _ q
theorem a_nil (k : QA [] H) : kA tNil σ H QA := fun H1 e _ q => q [] H H1 k e
theorem a_cons (k : kE ta σ H fun x H1 => kA t σ H1 fun xs H2 => QA (x :: xs) H2) : kA (tCons ta t) σ H QA := fun H1 e _ q => k H1 e _ fun _ _ H2 hx e2 => hx H2 e2 _ fun _ H0 H3 hy e3 => q _ H0 H3 hy e3
theorem e_tup (k : kA t σ H fun xs H1 => xs.length ≤ sizeLine ∧ ∀ p, H1 p = none → Q (.ref p) (upd H1 p (.tup xs))) : kE (tTup t) σ H Q := fun H1 e _ q => k H1 e _ fun _ _ H2 hx e2 =>
  ⟨hx.1, fun p hp => q _ _ _ (hx.2 p (e2.fresh hp)) (e2.ups p _)⟩
theorem e_lst (k : kA t σ H fun xs H1 => xs.length ≤ sizeLine ∧ ∀ p, H1 p = none → Q (.ref p) (upd H1 p (.lst xs))) : kE (tLst t) σ H Q := fun H1 e _ q => k H1 e _ fun _ _ H2 hx e2 =>
  ⟨hx.1, fun p hp => q _ _ _ (hx.2 p (e2.fresh hp)) (e2.ups p _)⟩
theorem e_if (k : kT tt σ H fun b H1 => (b = true → kE ta σ H1 Q) ∧ (b = false → kE tb σ H1 Q)) : kE (tIf tt ta tb) σ H Q := fun H1 e Q1 q => k H1 e _ fun b _ H2 hx e2 => by
  cases b with
  | true =>
    show ta σ H2 Q1
    exact hx.1 rfl H2 e2 _ q
  | false =>
    show tb σ H2 Q1
    exact hx.2 rfl H2 e2 _ q
theorem e_andV (k : kE ta σ H fun x H1 => ∃ b, x = .bl b ∧ (b = true → kE tb σ H1 Q) ∧ (b = false → Q (.bl false) H1)) : kE (tAndV ta tb) σ H Q := fun H1 e Q1 q => k H1 e _ fun x H0 H2 hx e2 => by
  obtain ⟨b, eb, h1, h2⟩ := hx
  refine ⟨b, eb, ?_⟩
  cases b with
  | true =>
    show tb σ H2 Q1
    exact h1 rfl H2 e2 _ q
  | false =>
    show Q1 (.bl false) H2
    exact q _ _ _ (h2 rfl) e2
theorem e_orV (k : kE ta σ H fun x H1 => ∃ b, x = .bl b ∧ (b = true → Q (.bl true) H1) ∧ (b = false → kE tb σ H1 Q)) : kE (tOrV ta tb) σ H Q := fun H1 e Q1 q => k H1 e _ fun x H0 H2 hx e2 => by
  obtain ⟨b, eb, h1, h2⟩ := hx
  refine ⟨b, eb, ?_⟩
  cases b with
  | true =>
    show Q1 (.bl true) H2
    exact q _ _ _ (h1 rfl) e2
  | false =>
    show tb σ H2 Q1
    exact h2 rfl H2 e2 _ q
theorem e_notV (k : kE ta σ H fun x H1 => ∃ b, x = .bl b ∧ Q (.bl (!b)) H1) : kE (tNotV ta) σ H Q := fun H1 e Q1 q => k H1 e _ fun x H0 H2 hx e2 => by
  obtain ⟨b, eb, h1⟩ := hx
  exact ⟨b, eb, q _ _ _ h1 e2⟩
theorem e_chain (k : kE ta σ H fun x H1 => kE tb σ H1 fun y H2 => kR r x y H2 fun z H3 => ∃ b, z = .bl b ∧ (b = true → kE tc σ H3 fun w H4 => kR r' y w H4 Q) ∧ (b = false → Q (.bl false) H3)) : kE (tChain r r' ta tb tc) σ H Q := fun H1 e Q1 q =>
  k H1 e _ fun x _ H2 hx e2 => hx H2 e2 _ fun y _ H3 hy e3 => hy H3 e3 _ fun z _ H4 hz e4 => by
    obtain ⟨b, eb, h1, h2⟩ := hz
    refine ⟨b, eb, ?_⟩
    cases b with
    | true =>
      show tc σ H4 fun w H5 => r' y w H5 Q1
      exact h1 rfl H4 e4 _ fun w _ H5 hw e5 => hw H5 e5 _ q
    | false =>
      show Q1 (.bl false) H4
      exact q _ _ _ (h2 rfl) e4
/-! ### tests -/
theorem t_test (k : kE te σ H fun x H1 => ∃ b, x = .bl b ∧ QB b H1) : kT (tTest te) σ H QB := fun H1 e _ q => k H1 e _ fun _ H0 H2 ⟨b, eb, hb⟩ e2 => ⟨b, eb, q b H0 H2 hb e2⟩
theorem t_B (k : kE te σ H fun x H1 => ∃ b, x = .bl b ∧ QB b H1) : kT (tB te) σ H QB := fun H1 e _ q => k H1 e _ fun _ H0 H2 ⟨b, eb, hb⟩ e2 => ⟨b, eb, q b H0 H2 hb e2⟩
theorem t_not (k : kT tt σ H fun b H1 => QB (!b) H1) : kT (tNot tt) σ H QB := fun H1 e _ q => k H1 e _ fun b H0 H2 hb e2 => q _ H0 H2 hb e2
theorem t_and (k : kT tt σ H fun b H1 => (b = true → kT tu σ H1 QB) ∧ (b = false → QB false H1)) : kT (tAnd tt tu) σ H QB := fun H1 e Q1 q => k H1 e _ fun b H0 H2 hb e2 => by
  cases b with
  | true =>
    show tu σ H2 Q1
    exact hb.1 rfl H2 e2 _ q
  | false =>
    show Q1 false H2
    exact q _ _ _ (hb.2 rfl) e2
theorem t_or (k : kT tt σ H fun b H1 => (b = true → QB true H1) ∧ (b = false → kT tu σ H1 QB)) : kT (tOr tt tu) σ H QB := fun H1 e Q1 q => k H1 e _ fun b H0 H2 hb e2 => by
  cases b with
  | true =>
    show Q1 true H2
    exact q _ _ _ (hb.1 rfl) e2
  | false =>
    show tu σ H2 Q1
    exact hb.2 rfl H2 e2 _ q
/-! ### operators -/
theorem r_I0 {f : Int → Int → V} (k : Q (f i j) H) : kR (rI0 f) (.int i) (.int j) H Q := fun H1 e _ q => ⟨i, j, rfl, rfl, q _ _ _ k e⟩
theorem r_I {c : Int → Int → Prop} {f : Int → Int → V} (hc : c i j) (k : Q (f i j) H) : kR (rI c f) (.int i) (.int j) H Q := fun H1 e _ q => ⟨i, j, rfl, rfl, hc, q _ _ _ k e⟩
theorem r_eq (h : scal x y = true) (k : Q (.bl (decide (x = y))) H) : kR rEq x y H Q := fun H1 e _ q => ⟨h, q _ _ _ k e⟩
theorem r_ne (h : scal x y = true) (k : Q (.bl (!decide (x = y))) H) : kR rNe x y H Q := fun H1 e _ q => ⟨h, q _ _ _ k e⟩
theorem dInt : decide (V.int i = V.int j) = decide (i = j) := by
  rw [Bool.eq_iff_iff]
  simp
theorem r_eqI (k : Q (.bl (decide (i = j))) H) : kR rEq (.int i) (.int j) H Q := r_eq rfl (by rw [dInt]; exact k)
theorem r_neI (k : Q (.bl (!decide (i = j))) H) : kR rNe (.int i) (.int j) H Q := r_ne rfl (by rw [dInt]; exact k)
theorem r_ixL {p : Addr} {xs : List V} (h : SqL K H p xs) (ha : atI xs i = some v) (k : Q v H) : kR (rIxL K) (.ref p) (.int i) H Q := fun H1 e _ q => ⟨p, xs, i, v, rfl, rfl, e.sl h, ha, q _ _ _ k e⟩
theorem r_ixT {p : Addr} {xs : List V} (h : SqT K H p xs) (ha : atI xs i = some v) (k : Q v H) : kR (rIxT K) (.ref p) (.int i) H Q := fun H1 e _ q => ⟨p, xs, i, v, rfl, rfl, e.st h, ha, q _ _ _ k e⟩
theorem u_U {f : Int → V} (k : Q (f i) H) : kU (rU f) (.int i) H Q := fun H1 e _ q => ⟨i, rfl, q _ _ _ k e⟩
/-! ### statements -/
theorem s_next (k : N σ H) : kS tNext N R B C σ H := fun H1 e D hn _ _ _ => hn _ _ _ k e
theorem s_seq (k : kS ts (fun s H1 => kS us N R B C s H1) R B C σ H) : kS (tSeq ts us) N R B C σ H := fun H1 e D hn hr hb hc => k H1 e { D with nx := us D } (fun s H0 H2 h e2 => h H2 e2 D hn hr hb hc) hr hb hc
theorem s_asg {n : Nat} (k : kE te σ H fun v H1 => N (σ.set n (some v)) H1) : kS (tAsg te (gName n)) N R B C σ H := fun H1 e D hn _ _ _ => k H1 e _ fun v H0 H2 h e2 => hn _ _ _ h e2
theorem s_asgG (k : kE te σ H fun v H1 => kG g v σ H1 N) : kS (tAsg te g) N R B C σ H := fun H1 e D hn _ _ _ => k H1 e _ fun v H0 H2 h e2 => h H2 e2 _ hn
theorem s_ret (k : kE te σ H R) : kS (tRet te) N R B C σ H := fun H1 e D _ hr _ _ => k H1 e _ hr
theorem s_drop (k : kE te σ H fun _ H1 => N σ H1) : kS (tDrop te) N R B C σ H := fun H1 e D hn _ _ _ => k H1 e _ fun _ H0 H2 h e2 => hn _ _ _ h e2
theorem s_if (k : kT tt σ H fun b H1 => (b = true → kS ts N R B C σ H1) ∧ (b = false → kS us N R B C σ H1)) : kS (tIfS tt ts us) N R B C σ H := fun H1 e D hn hr hb hc => k H1 e _ fun b H0 H2 h e2 => by
  cases b with
  | true =>
    show ts D σ H2
    exact h.1 rfl H2 e2 D hn hr hb hc
  | false =>
    show us D σ H2
    exact h.2 rfl H2 e2 D hn hr hb hc
theorem s_brk (k : B σ H) : kS tBreak N R B C σ H := fun H1 e D _ _ hb _ => hb _ _ _ k e
theorem s_cont (k : C σ H) : kS tCont N R B C σ H := fun H1 e D _ _ _ hc => hc _ _ _ k e
theorem s_par {m n : Nat} (k : kA t σ H fun vs H1 => ∃ v w, vs = [v, w] ∧ N ((σ.set m (some v)).set n (some w)) H1) : kS (tPar m n t) N R B C σ H := fun H1 e D hn _ _ _ => k H1 e _ fun vs H0 H2 ⟨v, w, ev, h⟩ e2 => ⟨v, w, ev, hn _ _ _ h e2⟩
def tRaise (E : XK) (c : Addr) : TS := fun _ σ H => E (.ref c) none H
theorem s_raise {E : XK} {c : Addr} (k : ∀ H1, Ex H H1 → E (.ref c) none H1) : kS (tRaise E c) N R B C σ H := fun H1 e _ _ _ _ _ => k H1 e
/-- a while by an invariant and a measure of it -/
theorem s_while (W : Nat → PS') (m : Nat) (h0 : W m σ H)
    (hs : ∀ m s H1, W m s H1 → kT tt s H1 fun b H2 => (b = true → kS ts (fun s' H3 => ∃ m' H4, m' < m ∧ W m' s' H4 ∧ Ex H4 H3) R N (fun s' H3 => ∃ m' H4, m' < m ∧ W m' s' H4 ∧ Ex H4 H3) s H2) ∧ (b = false → N s H2)) : kS (tWhile tt ts) N R B C σ H := fun H1 e D hn hr hb hc =>
  ⟨fun m s H2 => ∃ H0, W m s H0 ∧ Ex H0 H2, ⟨m, H, h0, e⟩, fun m s H2 ⟨H0, w, e0⟩ => hs m s H0 w H2 e0 _ fun b H3 H4 h e4 => by
    cases b with
    | true =>
      show ∃ Nx : PS', _
      refine ⟨fun s' H5 => ∃ m' H6, m' < m ∧ W m' s' H6 ∧ Ex H6 H5, fun s' H5 ⟨m', H6, l, w', e6⟩ => ⟨m', l, H6, w', e6⟩, ?_⟩
      exact h.1 rfl H4 e4 _ (fun s' H5 H7 ⟨m', H6, l, w', e6⟩ e7 => ⟨m', H6, l, w', e6.tr e7⟩) hr hn (fun s' H5 H7 ⟨m', H6, l, w', e6⟩ e7 => ⟨m', H6, l, w', e6.tr e7⟩)
    | false =>
      show D.nx s H4
      exact hn _ _ _ (h.2 rfl) e4⟩
abbrev nxt (W : Nat → PS') (n : Nat) : PS' := fun s H => ∃ H0, W n s H0 ∧ Ex H0 H
theorem nxt_up {W : Nat → PS'} {n : Nat} : ∀ s H0 H2, nxt W n s H0 → Ex H0 H2 → nxt W n s H2 := fun _ _ _ ⟨H1, w, e1⟩ e => ⟨H1, w, e1.tr e⟩
/-- for i in range(n) -/
theorem s_for1 (n : Nat) (W : Nat → PS') (k : kA t σ H fun vs H1 => vs = [.int (n : Int)] ∧ n < 2 ^ 61 ∧ W 0 σ H1 ∧ (∀ i s H2, i < n → W i s H2 → kG g (.int (i : Int)) s H2 fun s' H3 => kS ts (nxt W (i + 1)) R N (nxt W (i + 1)) s' H3) ∧ ∀ s H2, W n s H2 → N s H2) :
    kS (tFor (iRng1 t) g ts) N R B C σ H := fun H1 e D hn hr hb hc => k H1 e _ fun vs H0 H2 ⟨ev, hl, h0, hs, hd⟩ e2 => by
  subst ev
  refine ⟨(n : Int), rfl, by omega, by omega, ?_⟩
  have z := for_range (lo := 0) (n := (n : Int).toNat) (g := g) (tb := ts) (D := D) (σ := σ) (H := H2) (nxt W) ⟨H0, h0, e2⟩ (fun i s H3 hi p => ?_) (fun s H3 p => ?_)
  · exact z
  · obtain ⟨H4, w, e4⟩ := p
    have e0 : (0 : Int) + (i : Int) = (i : Int) := Int.zero_add _
    rw [e0]
    exact hs i s H4 (by omega) w H3 e4 _ fun s' H5 H6 q e6 => q H6 e6 _ nxt_up hr hn nxt_up
  · obtain ⟨H4, w, e4⟩ := p
    have e0 : (n : Int).toNat = n := by omega
    rw [e0] at w
    exact hn _ _ _ (hd s H4 w) e4
theorem g_name {n : Nat} {QS : PS'} (k : QS (σ.set n (some v)) H) : kG (gName n) v σ H QS := fun H1 e _ q => q _ _ _ k e
theorem g_tup {n : Nat} {p : Addr} {xs : List V} {QS : PS'} (h : SqT K H p xs) (hl : xs.length = n) (k : kGs gs xs σ H QS) : kG (gTup K n gs) (.ref p) σ H QS := fun H1 e _ q => ⟨p, xs, rfl, e.st h, hl, k H1 e _ q⟩
theorem g_nil {QS : PS'} (k : QS σ H) : kGs gNil [] σ H QS := fun H1 e _ q => ⟨rfl, q _ _ _ k e⟩
theorem g_cons {xs : List V} {QS : PS'} (k : kG g v σ H fun s H1 => kGs gs xs s H1 QS) : kGs (gCons g gs) (v :: xs) σ H QS := fun H1 e _ q => ⟨v, xs, rfl, k H1 e _ fun s H0 H2 h e2 => h H2 e2 _ q⟩
/-! ### facts of heaps in steps -/
theorem st_new {p a : Addr} {o : HO} {xs : List V} (hn : H p = none) (h : SqT K H a xs) : SqT K (upd H p o) a xs := (Ex.news hn).st h
theorem sl_new {p a : Addr} {o : HO} {xs : List V} (hn : H p = none) (h : SqL K H a xs) : SqL K (upd H p o) a xs := (Ex.news hn).sl h
theorem at_new {p a : Addr} {o u : HO} (hn : H p = none) (h : H a = some u) : upd H p o a = some u := (Ex.news hn).get h
theorem szl {n : Nat} (h : n ≤ 1000) : n ≤ sizeLine := Nat.le_trans h (by decide)
/-! ### built-in calls -/
theorem c_abs (k : Q (.int (if i < 0 then -i else i)) H) : kC (fun xs H Q => ∃ i, xs = [V.int i] ∧ Q (.int (if i < 0 then -i else i)) H) [.int i] H Q := fun H1 e _ q => ⟨i, rfl, q _ _ _ k e⟩
theorem c_max2 (k : Q (.int (if j > i then j else i)) H) : kC (fun xs H Q => ∃ i j, xs = [V.int i, .int j] ∧ Q (.int (if j > i then j else i)) H) [.int i, .int j] H Q := fun H1 e _ q => ⟨i, j, rfl, q _ _ _ k e⟩
theorem c_min2 (k : Q (.int (if j < i then j else i)) H) : kC (fun xs H Q => ∃ i j, xs = [V.int i, .int j] ∧ Q (.int (if j < i then j else i)) H) [.int i, .int j] H Q := fun H1 e _ q => ⟨i, j, rfl, q _ _ _ k e⟩
theorem c_lenL {p : Addr} {ys : List V} (h : SqL K H p ys) (k : Q (.int ys.length) H) : kC (fun xs H Q => ∃ p ys, xs = [V.ref p] ∧ (SqL K H p ys ∨ SqT K H p ys) ∧ Q (.int ys.length) H) [.ref p] H Q := fun H1 e _ q => ⟨p, ys, rfl, .inl (e.sl h), q _ _ _ k e⟩
theorem c_lenT {p : Addr} {ys : List V} (h : SqT K H p ys) (k : Q (.int ys.length) H) : kC (fun xs H Q => ∃ p ys, xs = [V.ref p] ∧ (SqL K H p ys ∨ SqT K H p ys) ∧ Q (.int ys.length) H) [.ref p] H Q := fun H1 e _ q => ⟨p, ys, rfl, .inr (e.st h), q _ _ _ k e⟩

/-! ### types -/
inductive Ty5 (K : PySem.W.Frag) (H : Hp) : V → String → Prop where
  | int (i : Int) : Ty5 K H (.int i) "int"
  | bl (b : Bool) : Ty5 K H (.bl b) "bool"
  | non : Ty5 K H .non "NoneType"
  | str (z : Str) : Ty5 K H (.str z) "str"
  | lst {a : Addr} {xs : List V} (h : H a = some (.lst xs)) : Ty5 K H (.ref a) "list"
  | tup {a : Addr} {xs : List V} (h : H a = some (.tup xs)) : Ty5 K H (.ref a) "tuple"
theorem Ty5.up {x : V} {T : String} (h : Ty5 K H x T) (e : Ex H H') : Ty5 K H' x T := by
  cases h with
  | int i => exact .int i
  | bl b => exact .bl b
  | non => exact .non
  | str z => exact .str z
  | lst h => exact .lst (e _ _ h)
  | tup h => exact .tup (e _ _ h)
theorem Ty5.tyx {x : V} {T : String} (h : Ty5 K H x T) : TyX K H x (.type T) := by
  cases h with
  | int i => exact .base (.int i)
  | bl b => exact .base (.bl b)
  | non => exact .base .non
  | str z => exact .base (.str z)
  | lst h => exact .base (.lst h)
  | tup h => exact .base (.tup h)
theorem c_isi {T T' : String} {b : Bool} (h : Ty5 K H x T) (hb : kitB T T' = some b) (k : Q (.bl b) H) : kC (rIsi K) [x, .ty T'] H Q := fun H1 e _ q => ⟨x, .ty T', .type T, .type T', b, rfl, .ty T', (h.up e).tyx, kit_ty hb, q _ _ _ k e⟩
/-! ### what a caller knows of a def -/
def Cal (P : Program) (w : World) (K : PySem.W.Frag) (mg : Str → Option Value) (base : Heap) (CX : CXT) (k : Nat) (x : Str) (ps : List Str) (sp : Sp) : Prop :=
  ∃ f fd, FnOk P w K mg base CX k f fd ps sp ∧ mg x = some (.ref f) ∧ PySem.W.keepIn K (.ref f) = true ∧ Binds K fd ps []
def Dn (K : PySem.W.Frag) (mg : Str → Option Value) (x : Str) (st : Stmt) (ps : List Str) : Prop := ∃ f fd, Fun K x x st f fd ∧ mg x = some (.ref f) ∧ Binds K fd ps []
section
variable {P : Program} {w : World} {mg : Str → Option Value} {base : Heap} {CX : CXT} {k k' : Nat} {st : Stmt} {ps Ns : List Str} {sp : Sp} {X : Cx} {E : XK} {z : Str} {p pos : Pos} {e : Expr} {es : List Expr}
theorem pe_cal (c : Cal X.prog X.w X.K X.mg X.base CX k z ps sp) (hr : Room k' X.A) (hk : k ≤ k') (hg : Gl X z) (hx : Passes CX X E) (ha : PA X (e :: es) t) (hdb : (z == ("__debug__" : Str)) = false := by decide)
    (he : starEach (e :: es) X.env = (false, eval e X.env) :: starEach es X.env := by rfl) (hpl : (backTo pos (starEach es X.env)).any (·.1) = false := by rfl) : PE X (.Call (.Name z p) (e :: es) [] pos) (tCall sp [] E t) := by
  obtain ⟨f, fd, F, hm, hkp, hb⟩ := c
  exact pe_call F (hr.mono hk) hg hm hkp hb .nil hx ha hdb he hpl
theorem pe_gI {n : Int} (hg : Gl X z) (hm : ∃ t, X.mg z = some (.int n t)) (hd : (z == ("__debug__" : Str)) = false := by decide) : PE X (.Name z p) (tC (.int n)) := by
  obtain ⟨t, hm⟩ := hm
  exact pe_glob hg hm ⟨t, rfl⟩ hd
/-- a def, by its reading -/
theorem cal_mk (D : Dn K mg z st ps) (S : FnScope Ns ps (defScope st)) (len : ∀ vs H Q E, sp vs H Q E → vs.length = ps.length)
    (hbody : ∀ (f : Addr) (cdv : Value) (A : Around) (outer : List Env) (s : Shared) (H : Hp) (vs : List V) (Q : VK) (E : XK), Room k (A.deeper (envOfC z (defScope st) s.heap.objs.size f cdv)) → sp vs H Q E →
      ∃ t, PSs (cxOf (L2N.CX P w) P w K mg base Ns z (defScope st) f cdv A outer s H E) (defBody st) t ∧ t { nx := fun _ H' => Q .non H', rt := Q } (start Ns vs) H) : Cal P w K mg base (L2N.CX P w) (k + 1) z ps sp := by
  obtain ⟨f, fd, F, hm, hb⟩ := D
  obtain ⟨oc, od, kV, doc, pm, an, cdv, ct, osl, rfl, look, code⟩ := F.ex
  exact ⟨f, _, fn_of look code S len fun A outer s H vs Q E hr h => hbody f cdv A outer s H vs Q E hr h, hm, F.kp, hb⟩
theorem fn_mk {f : Addr} {fd : FuncData} {qual : Str} (F : Fun K z qual st f fd) (S : FnScope Ns ps (defScope st)) (len : ∀ vs H Q E, sp vs H Q E → vs.length = ps.length)
    (hbody : ∀ (cdv : Value) (A : Around) (outer : List Env) (s : Shared) (H : Hp) (vs : List V) (Q : VK) (E : XK), Room k (A.deeper (envOfC qual (defScope st) s.heap.objs.size f cdv)) → sp vs H Q E →
      ∃ t, PSs (cxOf (L2N.CX P w) P w K mg base Ns qual (defScope st) f cdv A outer s H E) (defBody st) t ∧ t { nx := fun _ H' => Q .non H', rt := Q } (start Ns vs) H) : FnOk P w K mg base (L2N.CX P w) (k + 1) f fd ps sp := by
  obtain ⟨oc, od, kV, doc, pm, an, cdv, ct, osl, rfl, look, code⟩ := F.ex
  exact fn_of look code S len fun A outer s H vs Q E hr h => hbody cdv A outer s H vs Q E hr h
/-- an own class of error -/
structure ExcT (K : PySem.W.Frag) (mg : Str → Option Value) (z : Str) (c : Addr) : Prop where
  g : mg z = some (.ref c)
  k : PySem.W.keepIn K (.ref c) = true
  x : PySem.W.excIn K c [.type "ValueError", .type "Exception", .type "BaseException", .type "object"] "ValueError.__new__" = true
  b : PySem.W.subIn K (.ref c) (.type "BaseException") = some true
  t : PySem.W.typeIn K (.ref c) = some (.type "type")
theorem ps_raiseT {c : Addr} {m : Str} {j : Nat} {p2 : Pos} {W : WX} {pos' : Pos} (T : ExcT X.K X.mg z c) (hc : X.calm = true) (tk : L2N.Takes X W) (hg : Gl X z) (hdb : (z == ("__debug__" : Str)) = false := by decide) :
    PS X (.Raise (some (.Call (.Name z p) [.Constant (.str m) j p2] [] pos)) none pos') (fun _ σ H => W (.ref c) none σ H) :=
  L2N.ps_raise hc tk (L2N.pmk_own PySem.F.excBase_ValueError T.x T.g T.k (raises_own T.b T.t) hg hdb)
end
theorem kb_int_int : kitB "int" "int" = some true := by decide +kernel
theorem kb_int_bool : kitB "int" "bool" = some false := by decide +kernel
theorem kb_int_tuple : kitB "int" "tuple" = some false := by decide +kernel
theorem kb_int_list : kitB "int" "list" = some false := by decide +kernel
theorem kb_bool_int : kitB "bool" "int" = some true := by decide +kernel
theorem kb_bool_bool : kitB "bool" "bool" = some true := by decide +kernel
theorem kb_bool_tuple : kitB "bool" "tuple" = some false := by decide +kernel
theorem kb_bool_list : kitB "bool" "list" = some false := by decide +kernel
theorem kb_NoneType_int : kitB "NoneType" "int" = some false := by decide +kernel
theorem kb_NoneType_bool : kitB "NoneType" "bool" = some false := by decide +kernel
theorem kb_NoneType_tuple : kitB "NoneType" "tuple" = some false := by decide +kernel
theorem kb_NoneType_list : kitB "NoneType" "list" = some false := by decide +kernel
theorem kb_str_int : kitB "str" "int" = some false := by decide +kernel
theorem kb_str_bool : kitB "str" "bool" = some false := by decide +kernel
theorem kb_str_tuple : kitB "str" "tuple" = some false := by decide +kernel
theorem kb_str_list : kitB "str" "list" = some false := by decide +kernel
theorem kb_list_int : kitB "list" "int" = some false := by decide +kernel
theorem kb_list_bool : kitB "list" "bool" = some false := by decide +kernel
theorem kb_list_tuple : kitB "list" "tuple" = some false := by decide +kernel
theorem kb_list_list : kitB "list" "list" = some true := by decide +kernel
theorem kb_tuple_int : kitB "tuple" "int" = some false := by decide +kernel
theorem kb_tuple_bool : kitB "tuple" "bool" = some false := by decide +kernel
theorem kb_tuple_tuple : kitB "tuple" "tuple" = some true := by decide +kernel
theorem kb_tuple_list : kitB "tuple" "list" = some false := by decide +kernel
/-- the classes' addresses -/
structure Cs where
  BadRule : Addr
  BadKey : Addr
  BadSize : Addr
  Full : Addr
  TooMany : Addr
  StrewError : Addr
  Ring : Addr
  Row : Addr
  Growing : Addr
theorem upE {Q : VK} {v w : V} {H : Hp} (q : upR Q v H) (e : v = w) : upR Q w H := e ▸ q
theorem upX {Q : VK} {v : V} {H H' : Hp} (q : upR Q v H) (e : Ex H H') : upR Q v H' := fun H2 e2 => q H2 (e.tr e2)
/-- what is counted: an int, or what is none -/
def cnt : V → Int → Int → Bool
  | .int i, lo, hi => decide (lo ≤ i) && decide (i ≤ hi)
  | _, _, _ => false
/-! ### more of numbers -/
theorem op_mulX {X : Cx} : OpR X (binaryOp .Mult) (rI IntMulOk fun i j => .int (i * j)) := opI fun _ _ _ _ _ _ _ hc q => mul_int q hc
theorem mulxR {i j : Int} (h1 : -(2 ^ 64) < j) (h2 : j < 2 ^ 64) : IntMulOk i j := .of_right (intBits_le_64 h1 h2)
theorem mulxL {i j : Int} (h1 : -(2 ^ 64) < i) (h2 : i < 2 ^ 64) : IntMulOk i j := .of_left (intBits_le_64 h1 h2)
theorem mulw {m n : Nat} {a b : Nat} (ha : m < 2 ^ a) (hb : n < 2 ^ b) (h0 : 0 < a) (h1 : 0 < b) (h : a + b ≤ 1000000) : IntMulOk (m : Int) (n : Int) := (wide_mul (a := a) (b := b) (by simpa using ha) (by simpa using hb) h0 h1 h).ok
theorem divw {i : Int} {n b : Nat} (h : 0 < n) (hb : n < 2 ^ b) (h0 : 0 < b) (h9 : b ≤ 9000) : CDivW i (n : Int) := wide_div (b := b) (by omega) (by simpa using hb) h0 h9
theorem cdivL {i j : Int} (h0 : 0 < j) (h1 : j < 2 ^ 64) : CDivW i j := wide_div (b := 64) h0 (by omega) (by decide) (by decide)
theorem abs_nat (m : Nat) : (if ((m : Nat) : Int) < 0 then -((m : Nat) : Int) else ((m : Nat) : Int)) = ((m : Nat) : Int) := if_neg (by omega)
/-! ### data compared -/
mutual
theorem dpUp (e : Ex H H') : ∀ {v : V} {d : PyData}, Dp K H v d → Dp K H' v d
  | _, _, .non => .non
  | _, _, .bl b => .bl b
  | _, _, .int i => .int i
  | _, _, .str x => .str x
  | _, _, .lst h a => .lst (e.sl h) (dpAllUp e a)
  | _, _, .tup h a => .tup (e.st h) (dpAllUp e a)
theorem dpAllUp (e : Ex H H') : ∀ {vs : List V} {ds : List PyData}, DpAll K H vs ds → DpAll K H' vs ds
  | _, _, .nil => .nil
  | _, _, .cons h a => .cons (dpUp e h) (dpAllUp e a)
end
theorem r_eqD {d e : PyData} {b : Bool} (h1 : Dp K H x d) (h2 : Dp K H y e) (s1 : SeqAt.shaped d = true) (s2 : SeqAt.shaped e = true) (hb : PyData.eqv d e = b) (k : Q (.bl b) H) : kR (rEqD K) x y H Q := fun H1 ex _ q => ⟨d, e, dpUp ex h1, dpUp ex h2, s1, s2, by rw [hb]; exact q _ _ _ k ex⟩
theorem r_neD {d e : PyData} {b : Bool} (h1 : Dp K H x d) (h2 : Dp K H y e) (s1 : SeqAt.shaped d = true) (s2 : SeqAt.shaped e = true) (hb : PyData.eqv d e = b) (k : Q (.bl (!b)) H) : kR (rNeD K) x y H Q := fun H1 ex _ q => ⟨d, e, dpUp ex h1, dpUp ex h2, s1, s2, by rw [hb]; exact q _ _ _ k ex⟩
theorem dp_ints : ∀ ns : List Int, DpAll K H (ns.map V.int) (ns.map PyData.int)
  | [] => .nil
  | n :: ns => .cons (.int n) (dp_ints ns)
theorem eqv_ints : ∀ ns ms : List Int, PyData.eqv (.list (ns.map PyData.int)) (.list (ms.map PyData.int)) = decide (ns = ms)
  | [], [] => by simp [PyData.eqv, PyData.eqvAll]
  | [], _ :: _ => by simp [PyData.eqv, PyData.eqvAll]
  | _ :: _, [] => by simp [PyData.eqv, PyData.eqvAll]
  | a :: r, b :: t => by
    have ih := eqv_ints r t
    simp only [PyData.eqv] at ih
    simp only [List.map_cons, PyData.eqv, PyData.eqvAll, ih]
    by_cases h : a = b <;> by_cases h' : r = t <;> simp [h, h']
theorem r_eqIs {p q : Addr} {ns ms : List Int} (h1 : SqL K H p (ns.map V.int)) (h2 : SqL K H q (ms.map V.int)) (k : Q (.bl (decide (ns = ms))) H) : kR (rEqD K) (.ref p) (.ref q) H Q :=
  r_eqD (.lst h1 (dp_ints ns)) (.lst h2 (dp_ints ms)) (PySem.W.ke_shaped_ints ns) (PySem.W.ke_shaped_ints ms) (eqv_ints ns ms) k
theorem r_neIs {p q : Addr} {ns ms : List Int} (h1 : SqL K H p (ns.map V.int)) (h2 : SqL K H q (ms.map V.int)) (k : Q (.bl (!decide (ns = ms))) H) : kR (rNeD K) (.ref p) (.ref q) H Q :=
  r_neD (.lst h1 (dp_ints ns)) (.lst h2 (dp_ints ms)) (PySem.W.ke_shaped_ints ns) (PySem.W.ke_shaped_ints ms) (eqv_ints ns ms) k
theorem eqv_pair (a b c d : Int) : PyData.eqv (.tuple [.int a, .int b]) (.tuple [.int c, .int d]) = decide (a = c ∧ b = d) := by
  simp only [PyData.eqv, PyData.eqvAll]
  by_cases h : a = c <;> by_cases h' : b = d <;> simp [h, h']
theorem r_neP {p q : Addr} {a b c d : Int} (h1 : SqT K H p [.int a, .int b]) (h2 : SqT K H q [.int c, .int d]) (k : Q (.bl (!decide (a = c ∧ b = d))) H) : kR (rNeD K) (.ref p) (.ref q) H Q :=
  r_neD (.tup h1 (.cons (.int a) (.cons (.int b) .nil))) (.tup h2 (.cons (.int c) (.cons (.int d) .nil))) rfl rfl (eqv_pair a b c d) k
/-! ### places of a written list -/
theorem atI_mod {α : Type} {xs : List α} {r n : Nat} {v : α} (h : xs[r % n]? = some v) : atI xs ((r : Int) % (n : Int)) = some v := by
  have e : (r : Int) % (n : Int) = ((r % n : Nat) : Int) := by rw [Int.natCast_emod]
  rw [e]
  exact atI_nat h
/-- behind a test -/
theorem dec2 {p : Prop} [Decidable p] {A B : Prop} (h1 : p → A) (h2 : ¬ p → B) : (decide p = true → A) ∧ (decide p = false → B) := ⟨fun h => h1 (of_decide_eq_true h), fun h => h2 (of_decide_eq_false h)⟩
theorem ndec2 {p : Prop} [Decidable p] {A B : Prop} (h1 : ¬ p → A) (h2 : p → B) : ((!decide p) = true → A) ∧ ((!decide p) = false → B) := ⟨fun h => h1 (by simpa using h), fun h => h2 (by simpa using h)⟩
/-- for i in range(a, b, -1) -/
theorem s_forDn (a b : Int) (n : Nat) (W : Nat → PS') (k : kA t σ H fun vs H1 => vs = [.int a, .int b, .int (-1)] ∧ (-(2 ^ 62) ≤ a ∧ a < 2 ^ 62 ∧ -(2 ^ 62) ≤ b ∧ b < 2 ^ 62) ∧ (a - b).toNat = n ∧ W 0 σ H1 ∧ (∀ i s H2, i < n → W i s H2 → kG g (.int (a - (i : Int))) s H2 fun s' H3 => kS ts (nxt W (i + 1)) R N (nxt W (i + 1)) s' H3) ∧ ∀ s H2, W n s H2 → N s H2) :
    kS (tFor (iRng3 t) g ts) N R B C σ H := fun H1 e D hn hr hb hc => k H1 e _ fun vs H0 H2 ⟨ev, ⟨l1, l2, l3, l4⟩, en, h0, hs, hd⟩ e2 => by
  subst ev
  subst en
  refine ⟨a, b, -1, (a - b).toNat, rfl, RgC.neg l1 l2 l3 l4, ?_⟩
  have z := for_rangeC (lo := a) (c := -1) (n := (a - b).toNat) (g := g) (tb := ts) (D := D) (σ := σ) (H := H2) (nxt W) ⟨H0, h0, e2⟩ (fun i s H3 hi p => ?_) (fun s H3 p => ?_)
  · exact z
  · obtain ⟨H4, w, e4⟩ := p
    have e0 : a + (i : Int) * (-1) = a - (i : Int) := by omega
    rw [e0]
    exact hs i s H4 hi w H3 e4 _ fun s' H5 H6 q e6 => q H6 e6 _ nxt_up hr hn nxt_up
  · obtain ⟨H4, w, e4⟩ := p
    exact hn _ _ _ (hd s H4 w) e4
theorem cnt_ok {i lo hi : Int} (h1 : lo ≤ i) (h2 : i ≤ hi) : cnt (.int i) lo hi = true := by simp [cnt, h1, h2]
/-- a whole number among few, as a natural -/
theorem nat_of {z : Int} {b : Nat} (h0 : 0 ≤ z) (h1 : z ≤ b) : ∃ n : Nat, z = (n : Int) ∧ n ≤ b := ⟨z.toNat, by omega, by omega⟩
/-- an item of a written list at a rest -/
theorem pick {xs : List V} {z m : Int} {P : V → Prop} (hm : (xs.length : Int) = m) (h0 : 0 < m) (h : ∀ x ∈ xs, P x) : ∃ v, atI xs (z % m) = some v ∧ P v := by
  subst hm
  have h1 : 0 ≤ z % (xs.length : Int) := Int.emod_nonneg _ (by omega)
  have h2 : z % (xs.length : Int) < xs.length := Int.emod_lt_of_pos _ h0
  obtain ⟨n, hn⟩ := Int.eq_ofNat_of_zero_le h1
  have h3 : n < xs.length := by omega
  refine ⟨xs[n], ?_, h _ (List.getElem_mem h3)⟩
  rw [hn]
  exact atI_nat (List.getElem?_eq_getElem h3)
/-- the law's promise -/
def spLaw (K : PySem.W.Frag) : Sp := fun vs H Q _ => ∃ (a : Addr) (ns : List Int), vs = [.ref a] ∧ SqL K H a (ns.map V.int) ∧ ns.length ≤ 63 ∧ ∀ H', Q (.bl true) H'
end Lg

/-! HotW: lists walked while an exception is handled: the end of a walk, sum, a comprehension of int(x) over truths, isinstance of the exception. -/
namespace LgH
open PySem PySem.Spec PyProof.Rows L2 HotX L2H
section
variable {prog : Program} {w : World} {A : Around} {E : Value → Shared → Prop} {s : Shared}
def NoCtx (h : Heap) (x1 : Addr) : Prop := ∃ (o : Obj) (vs : Array Value), h.get? x1 = some o ∧ o.data = .fields vs ∧ vs[2]? = some .none
theorem end_hot {ia la x1 : Addr} {j : Nat} {its : Array Value} {Q : Option Value → Shared → Prop} (hd : A.handled = some (.ref x1)) (ct : NoCtx s.heap x1) (iter : s.heap.IsListIter ia la j) (lst : s.heap.IsList la its) (past : its[j]? = none) (ne : x1 ≠ ia)
    (fin : ∀ h', Heap.ExtBut ia s.heap h' → Q none { s with heap := h' }) : wpAny (model prog w) A (pyNext (.ref ia)) Q E s := by
  obtain ⟨oi, gi, ci, di⟩ := id iter
  obtain ⟨ol, gl, _, nl, dl⟩ := lst
  obtain ⟨o1, v1, g1, d1, c1⟩ := ct
  unfold pyNext
  apply wpAny_bind
  apply wpAny_attempt
  refine wpAny_callSpecial?_slot (name := Str.ofString "__next__") iter.typeIs slot_listiter_next (wpAny_call_entry slot_listiter_next iter.typeIs entry_listiter_next ?_ (args_listiter_next _))
  show wpAny _ _ (field (.ref ia) 0 >>= _) _ _ s
  apply wpAny_bind
  refine wpAny_field gi di (x := .ref la) rfl ?_
  show wpAny _ _ (if (Value.ref la == Value.none) = true then _ else _) _ _ s
  rw [if_neg (fun z : (Value.ref la == Value.none) = true => Bool.false_ne_true z)]
  show wpAny _ _ (field (.ref ia) 1 >>= _) _ _ s
  apply wpAny_bind
  refine wpAny_field gi di (x := .int j 0) rfl ?_
  show wpAny _ _ (seqItems? (.ref la) >>= _) _ _ s
  apply wpAny_bind
  refine wpAny_seqItems gl dl ?_
  simp only [Int.toNat_natCast, past]
  apply wpAny_bind
  apply wpAny_rule
  apply wpAny_bind
  refine wpAny_setField gi di (by simp) ?_
  show wpAny _ _ (newExc (.type "StopIteration") [] >>= _) _ _ _
  apply wpAny_bind
  simp only [newExc, newTuple]
  apply wpAny_bind
  refine wpAny_newObj_type ?_ (by size_fits)
  refine wpAny_bind (m := firstArgMember _ _) (wpAny_of_eq (a := Value.none) (by first | rfl | (simp only [firstArgMember]; rfl)) ?_)
  refine wpAny_newObj_type ?_ (by size_fits)
  have g1' : (s.heap.update ia (Obj.mapFields (·.setIfInBounds 0 Value.none))).get? x1 = some o1 := by
    rw [Heap.get?_update_other _ _ (Ne.symm ne)]
    exact g1
  refine raiseNew_hot (x1 := x1) ⟨hd, o1, v1, Heap.get?_push_of_some _ (Heap.get?_push_of_some _ g1'), d1, c1⟩ ?_ (Heap.get?_push_size _ rfl) rfl ?_ ?_
  · exact Nat.ne_of_lt (Heap.lt_size (Heap.get?_push_of_some _ g1'))
  · first
      | (simp; done)
      | (simp; omega)
      | (simp only [Array.size_append]; simp; omega)
  · apply wpAny_bind
    refine wpAny_isInstance (T := "StopIteration") (b := true) ⟨_, Heap.get?_update_self _ (Heap.get?_push_size _ rfl) rfl, rfl⟩ isSubtype_stop ?_
    refine wpAny_pure (fin _ ?_)
    intro b o hb e
    have e2 : (s.heap.update ia (Obj.mapFields (·.setIfInBounds 0 Value.none))).get? b = some o := by
      rw [Heap.get?_update_other _ _ (Ne.symm hb)]
      exact e
    rw [Heap.get?_update_other _ _ (Ne.symm (Nat.ne_of_lt (Heap.lt_size (Heap.get?_push_of_some _ e2))))]
    exact Heap.get?_push_of_some _ (Heap.get?_push_of_some _ e2)
theorem walks_hot {x1 : Addr} (hd : A.handled = some (.ref x1)) (ia la : Addr) (n1 : la ≠ ia) (n2 : x1 ≠ ia) (its : Array Value) :
    Walks prog w A ia [ia, la, x1] [ia] its.size (fun i v => its[i]? = some v) (fun i h => h.IsListIter ia la i ∧ h.IsList la its ∧ NoCtx h x1) where
  sub := fun b hb => by
    rw [List.mem_singleton.mp hb]
    exact List.mem_cons_self
  frame := fun i h h' st k => ⟨st.1.at fun o e => k ia (by simp) o e, st.2.1.at fun o e => k la (by simp) o e, by
    obtain ⟨o, vs, g, z⟩ := st.2.2
    exact ⟨o, vs, k x1 (by simp) o g, z⟩⟩
  item := fun i s Q E hi st hQ => by
    refine wpAny_pyNext_list_item st.1 st.2.1 (x := its[i]) (by simp [hi]) fun h' it' same => ?_
    refine hQ _ h' s.toks (by simp [hi]) ⟨it', st.2.1.extBut same.extBut n1, ?_⟩ fun b o hb e => same.extBut b o (fun z => hb (by simp [z])) e
    obtain ⟨o, vs, g, z⟩ := st.2.2
    exact ⟨o, vs, same.extBut x1 o n2 g, z⟩
  done := fun s Q E st hQ => end_hot hd st.2.2 st.1 st.2.1 (by simp) n2 fun h' ext => hQ h' s.toks fun b o hb e => ext b o (fun z => hb (by simp [z])) e
  self := fun _ _ _ _ st hQ => wpAny_pyIter_listiter st.1 hQ
end

/-! ### over the layer -/
section
variable {X : Cx}
/-- sum(xs), whole numbers -/
theorem cr_sumH (hc : HotC X) : CallR X (.builtin "sum") (rSum X.K) := by
  intro pins s σ H vs us Q I r h
  obtain ⟨a, ns, rfl, hs, q⟩ := h
  obtain ⟨its, rv, hl, _⟩ := I.list hs
  obtain ⟨x1, hd, ct⟩ := hc.at I
  rw [Vals.ref1 r]
  have hi := rv.ints
  obtain ⟨zs, ez⟩ := hi.allInts.items
  have hn : numsOf (intItems zs).toList = ns := by rw [← ez]; exact hi.numsOf
  rw [nums_intItems] at hn
  have hl2 := hl.isList
  rw [ez] at hl2
  refine call_sum_walkG (iter_intList hl2 fun s2 e st hfp hlI => ?_)
  subst e
  have nx : x1 ≠ s.heap.objs.size := by
    obtain ⟨o, vs, g, _⟩ := ct
    exact Nat.ne_of_lt (Heap.lt_size g)
  refine ⟨_, _, _, _, _, _, numAt zs, rfl, walks_hot (A := X.A.in1) (x1 := x1) hd _ a hlI nx (intItems zs), ⟨st.1, st.2, ?_⟩, ?_, (fun _ _ => intItems_at), fun h' tk t' hk => ?_⟩
  · obtain ⟨o, vs, g, z⟩ := ct
    exact ⟨o, vs, Heap.get?_push_of_some _ g, z⟩
  · intro b hb
    rcases List.mem_cons.mp hb with z | hb
    · exact hfp b (by rw [z]; simp)
    rcases List.mem_cons.mp hb with z | hb
    · exact hfp b (by rw [z]; simp)
    · rw [List.mem_singleton.mp hb]
      obtain ⟨o, vs, g, z⟩ := ct
      exact Heap.lt_size (Heap.get?_push_of_some _ g)
  · have e1 : preSum (numAt zs) (intItems zs).size = ns.sum := by
      rw [show (intItems zs).size = zs.size by simp [intItems], preSum_eq, List.take_of_length_le (by simp), hn]
    rw [e1]
    refine ⟨.int ns.sum, H, I.kept (t' := tk) fun b o e => hk b o ?_ (Heap.get?_push_of_some _ e), ⟨_, rfl⟩, q⟩
    intro hb
    rw [List.mem_singleton.mp hb] at e
    exact absurd (Heap.lt_size e) (Nat.lt_irrefl _)
def b2n (b : Bool) : Int := if b = true then 1 else 0
/-- [int(x) for x in e], e a list of truths -/
def tHotInts (K : PySem.W.Frag) (te : TE) : TE := fun σ H Q => te σ H fun v H1 => ∃ (a : Addr) (bs : List Bool), v = .ref a ∧ SqL K H1 a (bs.map V.bl) ∧ bs.length ≤ 1000 ∧ ∀ p, H1 p = none → Q (.ref p) (upd H1 p (.lst (bs.map fun b => V.int (b2n b))))
theorem vals_bools : ∀ {bs : List Bool} {us : List Value}, Vals (bs.map V.bl) us → us = bs.map Value.bool
  | [], _, h => by
    cases h
    rfl
  | b :: bs, _, h => by
    cases h with
    | cons r t =>
      rw [show _ = Value.bool b from r, vals_bools t]
      rfl
theorem vals_b2n : ∀ {bs : List Bool} {ys : List Value}, Paired (fun v y => ∃ b t, v = Value.bool b ∧ y = Value.int (b2n b) t) (bs.map Value.bool) ys → Vals (bs.map fun b => V.int (b2n b)) ys
  | [], _, h => by
    cases h
    exact .nil
  | b :: bs, _, h => by
    cases h with
    | cons r t =>
      obtain ⟨b', tk, e1, e2⟩ := r
      cases e1
      exact .cons ⟨tk, e2⟩ (vals_b2n t)
theorem pe_hotInts {x : Str} {p1 p2 p3 p4 pos : Pos} {e : Expr} {te : TE} {scope : Scope} (hc : HotC X) (he : PE X e te) (mi : X.mg "int" = none) (hfree : ∀ y ∈ scope.names, y.2 ≠ .free) (hcell : ∀ y ∈ scope.names, y.2 ≠ .cell) (hkind : scope.kind = .function)
    (hnames : ∀ y ∈ scope.names, y.2 = .local → scope.names.lookup y.1 = some .local) (hx : scope.names.lookup x = some .local) (hint : scope.names.lookup ("int" : Str) = some .globalImplicit) (hdb : (x == ("__debug__" : Str)) = false)
    (hs : ∀ y, foldedSetIterable e X.env y = pure y) : PE X (.ListComp (.Call (.Name "int" p1) [.Name x p2] [] p3) [⟨.Name x p4, e, [], 0⟩] scope pos) (tHotInts X.K te) := by
  refine ⟨fun pins s σ H Q I h => ?_⟩
  refine wpAny_ListComp_walk (fun _ => true) (fun v y => ∃ b t, v = Value.bool b ∧ y = Value.int (b2n b) t) hfree hcell hkind hnames hx (thn (he.run pins s σ H _ I h) fun u s1 ⟨v, H1, I1, r1, q1⟩ => ?_) hs
  obtain ⟨a, bs, ev, hS, hl, q⟩ := q1
  subst ev
  cases r1
  obtain ⟨its, rv, pl, hz⟩ := I1.list hS
  have ei := vals_bools rv
  subst ei
  obtain ⟨x1, hd, ct⟩ := hc.at I1
  have la : a < s1.heap.objs.size := pl.lt
  have lx : x1 < s1.heap.objs.size := by
    obtain ⟨o, vs, g, _⟩ := ct
    exact Heap.lt_size g
  refine wpAny_pyIter_list pl.isList ?_
  refine ⟨s1.heap.objs.size, _, _, _, _, _, rfl, walks_hot hd s1.heap.objs.size a (Nat.ne_of_lt la) (Nat.ne_of_lt lx) (bs.map Value.bool).toArray, ?_, ⟨⟨_, Heap.get?_push_size _ rfl, rfl, rfl⟩, pl.isList.push _, ?_⟩, ?_, ⟨?_, ?_⟩, ?_⟩
  · rw [List.size_toArray, List.length_map]
    exact Nat.le_trans hl (by decide)
  · obtain ⟨o, vs, g, z⟩ := ct
    exact ⟨o, vs, Heap.get?_push_of_some _ g, z⟩
  · intro b hb
    rw [Heap.size_push]
    have e' : b = s1.heap.objs.size ∨ b = a ∨ b = x1 := by simpa using hb
    rcases e' with z | z | z
    · rw [z]
      exact Nat.lt_succ_self _
    · rw [z]
      exact Nat.lt_succ_of_lt la
    · rw [z]
      exact Nat.lt_succ_of_lt lx
  · intro C i v s3 m3 E' hv hn hm hk ht
    exact wpAny_pure ⟨rfl, s3.heap, s3.toks, rfl, fun _ _ e => e⟩
  · intro C i v s3 m3 E' hv _ hn hm hk ht
    obtain ⟨b, eb⟩ : ∃ b, v = Value.bool b := by
      have hv' : (bs.map Value.bool)[i]? = some v := by simpa using hv
      rw [List.getElem?_map] at hv'
      cases eb : bs[i]? with
      | none => rw [eb] at hv'; cases hv'
      | some b => rw [eb] at hv'; exact ⟨b, (Option.some.inj hv').symm⟩
    subst eb
    have hk3 : ∀ b o, X.base.get? b = some o → s3.heap.get? b = some o := fun b o e => by
      have z := I1.bk b o e
      refine hk b o ?_ (Heap.get?_push_of_some _ z)
      intro hb
      rw [List.mem_singleton.mp hb] at z
      exact absurd (Heap.lt_size z) (Nat.lt_irrefl _)
    obtain ⟨mb, hb1, hb2⟩ := I1.mod.blt
    refine Call_ (Calls.Name_function_global hkind hint (Calls.loadGlobal_builtin (mg := X.mg) (mb := mb) (v := .type "int") ?_ mi ?_ ?_ ?_))
    · show s3.heap.Ns X.env.globals X.mg
      rw [I1.ok.glob]
      exact I1.mod.glob.keeps hk3
    · show s3.heap.Ns X.env.builtins mb
      rw [I1.ok.blt]
      exact hb1.keeps hk3
    · exact (hb2 "int" (by decide)).trans (by decide +kernel)
    · refine PyProof.Rows.callWith_type1 (Calls.spliced_cons (wpAny_Name (wpAny_loadName_local hkind hx hn hm ?_) hdb)) rfl rfl
      refine Calls.spliced_nil ?_
      exact call_int_bool ⟨⟨b, _, rfl, rfl⟩, s3.heap, _, rfl, fun _ _ e => e⟩
  · intro D h' tk ys vs hD hlD hpD hlen hP hF hk
    have kk : ∀ b o, s1.heap.get? b = some o → h'.get? b = some o := fun b o e => by
      refine hk b o ?_ (Heap.get?_push_of_some _ e)
      intro hb
      rw [List.mem_singleton.mp hb] at e
      exact absurd (Heap.lt_size e) (Nat.lt_irrefl _)
    have evs : vs = bs.map Value.bool := by
      refine List.ext_getElem? fun j => ?_
      cases ej : vs[j]? with
      | none =>
        have h1 := List.getElem?_eq_none_iff.mp ej
        have h2 : (bs.map Value.bool).length ≤ j := by
          rw [List.size_toArray] at hlen
          omega
        exact (List.getElem?_eq_none_iff.mpr h2).symm
      | some v =>
        have z := hP j v ej
        exact (by simpa using z : (bs.map Value.bool)[j]? = some v).symm
    have hV : Vals (bs.map fun b => V.int (b2n b)) ys.toList := by
      refine vals_b2n ?_
      rw [← evs]
      have ef : vs.filter (fun _ => true) = vs := List.filter_eq_self.mpr fun _ _ => rfl
      rw [ef] at hF
      exact hF
    have gD : s1.heap.get? D = none := by
      cases eD : s1.heap.get? D with
      | none => rfl
      | some o =>
        rw [Heap.get?_push_of_some _ eD] at hD
        cases hD
    have nD : H1 D = none := I1.hok.gone gD
    have nb : ∀ b u, s1.heap.get? b = some u → b ≠ D := fun b u e z => by
      rw [z, gD] at e
      cases e
    obtain ⟨n, eD⟩ := hpD
    have new : ObjOk X.prog X.w (upd H1 D (.lst (bs.map fun b => V.int (b2n b)))) h' D (.lst (bs.map fun b => V.int (b2n b))) := by
      refine ⟨?_, ys.toList, n, hV, ?_⟩
      · rw [List.length_map]
        exact Nat.le_trans hl (by decide)
      · simpa using eD
    refine ⟨.ref D, upd H1 D (.lst (bs.map fun b => V.int (b2n b))), I1.un (t' := tk) ⟨fun b u e _ _ _ => kk b u e, fun b u e _ _ _ => ⟨u.slots, kk b u e⟩, fun b u e n _ => ?_, fun b u e _ => ⟨u, kk b u e⟩, fun b xs e => ?_, fun b o xs e => ?_, fun b ps e => ⟨#[], ?_⟩⟩ ?_, rfl, q D nD⟩
    · rw [upd_ne (nb b u e)]
      exact n
    · rw [upd_ne (ne_of_none e nD)]
      exact e
    · rw [upd_ne (ne_of_none e nD)]
      exact e
    · rw [upd_ne (ne_of_none e nD), e]
      simp
    · intro b u e
      by_cases hb : b = D
      · subst hb
        rw [upd_same] at e
        cases e
        exact new
      · rw [upd_ne hb] at e
        exact (I1.hok b u e).stay (fun c v _ e => kk c v e) (fun c e => by rw [upd_ne (ne_of_none e nD)]; exact e) fun c xs e => by rw [upd_ne (ne_of_none e nD)]; exact e
end
end LgH

/-! Told: a def called in an except suite with the exception that is handled; try .. except StrewError as e: return word(e). -/
namespace Lg
open PySem PySem.Spec PyProof.Rows L2 L2H LgH
section
variable {P : Program} {w : World} {K : PySem.W.Frag} {mg : Str → Option Value} {base : Heap} {k j : Nat} {z : Str} {st : Stmt} {ps Ns : List Str} {X : Cx}
def CalX (P : Program) (w : World) (K : PySem.W.Frag) (mg : Str → Option Value) (base : Heap) (k : Nat) (z : Str) (ps : List Str) (sp : Addr × Obj → Sp) : Prop :=
  ∃ f fd, (∀ (A : Around) (outer : List Env) (s : Shared) (H : Hp) (us : List Value) (vs : List V) (Q : VK) (E : XK) (p : Addr × Obj), RoomH k A → Hot1 A p → PinOk outer H s p → Env0 P w K mg base A outer s H → BindsTo s fd ⟨us, []⟩ (ps.zip us) →
    Vals vs us → vs.length = ps.length → sp p vs H Q E → codeAny (model P w) A (.call (.ref f) ⟨us, []⟩) (CR (L2N.CX P w) outer P w H s Q E) s) ∧ mg z = some (.ref f) ∧ PySem.W.keepIn K (.ref f) = true ∧ Binds K fd ps []
theorem calX_mk {sp : Addr × Obj → Sp} (D : Dn K mg z st ps) (S : FnScope Ns ps (defScope st))
    (hbody : ∀ (f : Addr) (cdv : Value) (A : Around) (outer : List Env) (s : Shared) (H : Hp) (vs : List V) (Q : VK) (E : XK) (p : Addr × Obj), Hot1 A p → RoomH k (A.deeper (envOfC z (defScope st) s.heap.objs.size f cdv)) → sp p vs H Q E →
      ∃ t, PSs (cxH (L2N.CX P w) P w K mg base Ns z (defScope st) f cdv A outer s H E p) (defBody st) t ∧ t { nx := fun _ H' => Q .non H', rt := Q } (L2.start Ns vs) H) : CalX P w K mg base (k + 1) z ps sp := by
  obtain ⟨f, fd, F, hm, hb⟩ := D
  obtain ⟨oc, od, kV, doc, pm, an, cdv, ct, osl, rfl, look, code⟩ := F.ex
  refine ⟨f, _, fun A outer s H us vs Q E p hr hot pin e0 bind rel len hsp => ?_, hm, F.kp, hb⟩
  have here : K.In s.heap := e0.mod.kin.keeps fun b o e => (e0.bs b o e).1
  have nolim : s.heap.NoLimit := e0.mod.nolimit.keeps fun b o e => (e0.bs b o e).1
  refine codeAny_call_function hr.depth (here _ _ look) rfl S.co S.gen rfl (PySem.W.codeRec_of here code) (bind _ _ _ _ ?_)
  refine wpAny_newFunctionEnv_cells S.kind (fun y hy => ?_) fun env he s1 x => ?_
  · obtain ⟨n, v⟩ := y
    rcases S.par n (List.of_mem_zip hy).1 with q | q
    · exact .inl q
    · exact .inr ⟨q, PySem.W.cellsFrom_some _ _ _ (.inl q)⟩
  · subst he
    refine ⟨nolim.keeps x.toInCall.keep, codeAny_func ?_⟩
    obtain ⟨t, body, read⟩ := hbody f cdv A outer s H vs Q E p hot (hr.deeper _) hsp
    have I := inv_startH (CX := L2N.CX P w) (E := E) S pin e0 len rel x
    refine wpAny_mono (body.run [] s1 (L2.start Ns vs) H _ I read) (fun fl s' hs => ?_) fun _ _ h => h
    cases fl with
    | next =>
      obtain ⟨σ', H', J, q⟩ := hs
      exact ⟨.non, H', J.os, J.bare, J.base, J.hok, rfl, q⟩
    | ret u =>
      obtain ⟨v, σ', H', J, r, q⟩ := hs
      exact ⟨v, H', J.os, J.bare, J.base, J.hok, r, q⟩
    | brk =>
      obtain ⟨_, _, _, q⟩ := hs
      exact q.elim
    | cont =>
      obtain ⟨_, _, _, q⟩ := hs
      exact q.elim
theorem noOut {outer : List Env} {H : Hp} {s : Shared} {e : Value} {s' : Shared} (h : L2N.CX P w outer H s E0 e s') : False := by
  obtain ⟨_, _, _, _, _, _, _, _, _, _, _, _, no⟩ := h
  exact no
theorem passN {X : Cx} : Passes (L2N.CX X.prog X.w) X E0 := fun _ _ _ _ _ _ _ h => (noOut h).elim
/-- word(e), e the exception q that is handled -/
def tWordCall (sp : Addr × Obj → Sp) (q : Addr × Obj) (te : TE) : TE := fun σ H Q => te σ H fun v H1 => sp q [v] H1 Q E0
theorem pe_calX {sp : Addr × Obj → Sp} {q : Addr × Obj} {p pos : Pos} {e : Expr} {te : TE} {y : Str} (c : CalX X.prog X.w X.K X.mg X.base k z [y] sp) (hr : RoomH j X.A) (hk : k ≤ j) (hot : Hot1 X.A q) (hq : q ∈ X.pn) (hg : Gl X z) (he : PE X e te)
    (hdb : (z == ("__debug__" : Str)) = false := by decide) (hst : starEach (e :: []) X.env = (false, eval e X.env) :: starEach [] X.env := by rfl) (hpl : (backTo pos (starEach [] X.env)).any (·.1) = false := by rfl) :
    PE X (.Call (.Name z p) [e] [] pos) (tWordCall sp q te) := by
  obtain ⟨f, fd, run, hm, hkp, hb⟩ := c
  refine ⟨fun pins s σ H Q I h => ?_⟩
  refine wpAny_Call_Name_kw (ld_glob I hg hm ?_ hdb)
  have ha : PA X [e] (tCons te tNil) := pa_cons he pa_nil hst
  refine PySem.W.callWith_K (h₀ := X.base) I.ok.mod.kin hkp (thn (ha.run pos pins s σ H (fun vs H1 => ∃ v, vs = [v] ∧ sp q [v] H1 Q E0) I ?_) fun us s1 ⟨vs, H1, I1, r, v, ev, hsp⟩ => ⟨I1.kIn, ?_⟩) hst hpl
  · exact cast (congrArg (te σ H) (funext fun v => funext fun H1 => propext ⟨fun x => ⟨v, rfl, x⟩, fun ⟨v', e', x⟩ => by cases e'; exact x⟩)) h
  · subst ev
    have P1 := I1.pin q (List.mem_append_left _ hq)
    have pin : PinOk X.stack H1 s1 q := ⟨P1.1, P1.2.1, fun hm => (List.mem_cons.mp (I1.stkSub q.1 hm)).elim P1.2.2.1 P1.2.2.2.1, P1.2.2.2.2⟩
    have b := hb s1 us I1.kIn (by rw [List.append_nil, ← r.length]; rfl)
    rw [List.append_nil] at b
    refine wpAny_call (codeAny_mono (run X.A X.stack s1 H1 us [v] Q E0 q (hr.mono hk) hot pin I1.env0 b r rfl hsp) fun res s2 hres => ?_)
    cases res with
    | error e => exact (noOut hres).elim
    | ok fl =>
      cases fl with
      | ret u => exact I1.after hres
      | next => exact False.elim hres
      | brk => exact False.elim hres
      | cont => exact False.elim hres
/-- isinstance of the exception that is handled -/
theorem call_isH {a D : Addr} {oe : Obj} (C : ExcC X.K D) (h1 : oe.cls = .ref D) (h2 : oe.dict = none) (hf : ∃ vs, oe.data = .fields vs) (hp : (a, oe) ∈ X.pn) : CallR X (.builtin "isinstance") (rIsE X.K D a) := by
  rintro pins s σ H xs us Q I r ⟨c, cv, b, rfl, hcv, hk, q⟩
  cases r with
  | cons rx r2 =>
    cases r2 with
    | cons rc r3 =>
      cases r3
      cases rx
      cases hcv _ rc
      have get := (I.pin (a, oe) (List.mem_append_left _ hp)).1
      obtain ⟨vs, hv⟩ := hf
      have J : PySem.W.InstAt s.heap a oe D none := by
        obtain ⟨o1, o2, o3, o4⟩ := oe
        dsimp only at h1 h2 hv
        subst h1 h2 hv
        exact ⟨get, rfl, rfl, trivial⟩
      exact PySem.W.kia_one (PySem.W.handS_kitx_exc C.hg C.hk C.hs C.hd C.ha C.hn C.ht C.hm) I.kIn J hk (fun e => nomatch e) fun tk => ⟨.bl b, H, I.kept (t' := tk) fun _ _ e => e, rfl, q⟩
/-- a call in a try's body -/
theorem pe_calS {CX : CXT} {sp : Sp} {E : Sg → XK} {p pos : Pos} {e : Expr} {es : List Expr} {t : TA} {j : Nat} (c : Cal X.prog X.w X.K X.mg X.base CX k z ps sp) (hr : Room j X.A) (hk : k ≤ j) (hg : Gl X z) (hx : ∀ σ, PassesAt CX X σ (E σ)) (ha : PA X (e :: es) t)
    (hdb : (z == ("__debug__" : Str)) = false := by decide) (he : starEach (e :: es) X.env = (false, eval e X.env) :: starEach es X.env := by rfl) (hpl : (backTo pos (starEach es X.env)).any (·.1) = false := by rfl) :
    PE X (.Call (.Name z p) (e :: es) [] pos) (tCallS sp E t) := by
  obtain ⟨f, fd, F, hm, hkp, hb⟩ := c
  exact pe_callS F (hr.mono hk) hg hm hkp hb hx ha hdb he hpl
end
/-! ### the words -/
/-- what the law's word tells of a class of refusal -/
def wordOf (cs : Cs) (c : Addr) (nm : Str) : Prop := (c = cs.BadRule ∧ nm = ("BadRule" : Str)) ∨ (c = cs.BadKey ∧ nm = ("BadKey" : Str)) ∨ (c = cs.BadSize ∧ nm = ("BadSize" : Str)) ∨ (c = cs.Full ∧ nm = ("Full" : Str)) ∨ (c = cs.TooMany ∧ nm = ("TooMany" : Str))
theorem w_rule {cs : Cs} : wordOf cs cs.BadRule "BadRule" := .inl ⟨rfl, rfl⟩
theorem w_key {cs : Cs} : wordOf cs cs.BadKey "BadKey" := .inr (.inl ⟨rfl, rfl⟩)
theorem w_size {cs : Cs} : wordOf cs cs.BadSize "BadSize" := .inr (.inr (.inl ⟨rfl, rfl⟩))
theorem w_full {cs : Cs} : wordOf cs cs.Full "Full" := .inr (.inr (.inr (.inl ⟨rfl, rfl⟩)))
theorem w_many {cs : Cs} : wordOf cs cs.TooMany "TooMany" := .inr (.inr (.inr (.inr ⟨rfl, rfl⟩)))
def sp_word (cs : Cs) (q : Addr × Obj) : Sp := fun vs H Q _ => ∃ c nm, vs = [.ref q.1] ∧ q.2.cls = .ref c ∧ q.2.dict = none ∧ wordOf cs c nm ∧ upR Q (.str nm) H
/-- try: body, except c as n (slot i): return word(n) -/
def tTry (K : PySem.W.Frag) (cs : Cs) (c : Value) (i : Nat) (tb : WX → TS) : TS := fun D σ H =>
  tb (wAs K c i (fun a cls d => fun D σ H => σ[i]? = some (some (.ref a)) ∧ ∃ cc nm, cls = .ref cc ∧ d = none ∧ wordOf cs cc nm ∧ ∀ H1, Ex H H1 → D.rt (.str nm) H1) (fun _ _ _ _ => False) D) D σ H
theorem s_try {K : PySem.W.Frag} {cs : Cs} {c : Value} {i : Nat} {tb : WX → TS} {N B C : PS'} {R : PV} {σ : Sg} {H : Hp} (ex : ∀ cc nm, wordOf cs cc nm → PySem.W.exmOne K (.ref cc) c = some true)
    (k : ∀ W : WX, (∀ cc nm σ' H0, wordOf cs cc nm → i < σ'.length → R (.str nm) H0 → ∀ H1, Ex H0 H1 → W (.ref cc) none σ' H1) → kS (tb W) N R B C σ H) : kS (tTry K cs c i tb) N R B C σ H := fun H1 e D hn hr hb hc =>
  k _ (fun cc nm σ' H0 hw hi hR H2 e2 => ⟨true, ex cc nm hw, fun _ a ha => ⟨List.getElem?_set_self hi, cc, nm, rfl, rfl, hw, fun H3 e3 => hr _ _ _ hR (e2.tr e3)⟩, fun h => Bool.noConfusion h⟩) H1 e D hn hr hb hc
section
variable {X : Cx} {x n z y : Str} {c : Addr} {cs : Cs} {i j kw : Nat} {body : List Stmt} {tb : WX → TS} {np p1 p2 p3 p4 pos pos' : Pos}
theorem no_takes {X : Cx} : L2N.Takes X (fun _ _ _ _ => False) := by
  intro u s' h
  obtain ⟨_, _, _, _, _, _, _, _, _, _, _, _, _, _, _, _, no⟩ := h
  exact no.elim
/-- try: body, except x as n: return z(n) -/
theorem ps_tryT (hs : X.stack = X.env :: X.outer) (hf : X.env.frame = some X.env.locals) (hN : X.N.Nodup) (hi : X.N[i]? = some n) (hln : X.env.scope.names.lookup n = some .local) (hg : Gl X x) (hm : X.mg x = some (.ref c))
    (w : CalX X.prog X.w X.K X.mg X.base kw z [y] (sp_word cs)) (hr : Room j X.A) (hk : kw ≤ j) (hgz : Gl X z)
    (hb : ∀ (W : WX) (pn : List (Addr × Obj)) (xe : Value → Shared → Prop), L2N.Takes (X.tr pn xe) W → PSs (X.tr pn xe) body (tb W))
    (hv : ∀ (pn : List (Addr × Obj)) (a : Addr), PE (X.suite a pn) (.Name n p2) (tVar i))
    (hdb : (x == ("__debug__" : Str)) = false := by decide) (hdz : (z == ("__debug__" : Str)) = false := by decide)
    (hst : ∀ (pn : List (Addr × Obj)) (a : Addr), starEach (.Name n p2 :: []) (X.suite a pn).env = (false, eval (.Name n p2) (X.suite a pn).env) :: starEach [] (X.suite a pn).env := by intros; rfl)
    (hpl : ∀ (pn : List (Addr × Obj)) (a : Addr), (backTo p3 (starEach [] (X.suite a pn).env)).any (·.1) = false := by intros; rfl) :
    PS X (.Try body [.ExceptHandler (some (.Name x np)) (some n) [.Return (some (.Call (.Name z p1) [.Name n p2] [] p3)) p4] pos'] [] [] pos) (tTry X.K cs (.ref c) i tb) := by
  refine L2N.ps_try_as (Wout := fun _ _ _ _ => False) (ts := fun a cls d => fun D σ H => σ[i]? = some (some (.ref a)) ∧ ∃ cc nm, cls = .ref cc ∧ d = none ∧ wordOf cs cc nm ∧ ∀ H1, Ex H H1 → D.rt (.str nm) H1) hs hf hN hi hln ⟨hg, hdb, .inl hm⟩ no_takes (fun W pn xe tk _ => hb W pn xe tk) fun a oe cls d pn hz hfl => ?_
  have P : PSs (X.suite a ((a, oe) :: pn)) [.Return (some (.Call (.Name z p1) [.Name n p2] [] p3)) p4] (tRet (tWordCall (sp_word cs) (a, oe) (tVar i))) :=
    pss_one (ps_ret (pe_calX (X := X.suite a ((a, oe) :: pn)) (q := (a, oe)) (sp := sp_word cs) w ⟨hr.dp, hr.un⟩ hk ⟨rfl, by
      obtain ⟨vs, e⟩ := hfl
      exact ⟨vs, e, hz.2.2 vs e⟩⟩ List.mem_cons_self hgz (hv _ _) hdz (hst _ _) (hpl _ _)))
  refine ⟨fun pins s σ H D I h => P.run pins s σ H D I ?_⟩
  obtain ⟨h1, cc, nm, h2, h3, h4, h5⟩ := h
  exact ⟨.ref a, h1, cc, nm, rfl, hz.1.trans h2, hz.2.1.trans h3, h4, h5⟩
end
/-- isinstance by the class pairs -/
theorem c_isH {K : PySem.W.Frag} {D a : Addr} {x : V} {cv : Value} {b : Bool} {H : Hp} {Q : PV} (h : PySem.W.kitOne K (.ref D) cv = some b) (hv : ∀ u, RelV x u → u = cv) (k : Q (.bl b) H) : kC (rIsE K D a) [.ref a, x] H Q := fun H1 e _ q => ⟨x, cv, b, rfl, hv, h, q _ _ _ k e⟩
structure KitC (K : PySem.W.Frag) (cs : Cs) (c : Addr) (b1 b2 b3 b4 b5 : Bool) : Prop where
  e : ExcC K c
  k1 : PySem.W.kitOne K (.ref c) (.ref cs.BadRule) = some b1
  k2 : PySem.W.kitOne K (.ref c) (.ref cs.BadKey) = some b2
  k3 : PySem.W.kitOne K (.ref c) (.ref cs.BadSize) = some b3
  k4 : PySem.W.kitOne K (.ref c) (.ref cs.Full) = some b4
  k5 : PySem.W.kitOne K (.ref c) (.ref cs.TooMany) = some b5
  kv : PySem.W.kitOne K (.ref c) (.type "ValueError") = some true
structure KitW (K : PySem.W.Frag) (cs : Cs) : Prop where
  r : KitC K cs cs.BadRule true false false false false
  k : KitC K cs cs.BadKey false true false false false
  s : KitC K cs cs.BadSize false false true false false
  f : KitC K cs cs.Full false false false true false
  m : KitC K cs cs.TooMany false false false false true
theorem KitW.exc {K : PySem.W.Frag} {cs : Cs} {c : Addr} {nm : Str} (k : KitW K cs) (h : wordOf cs c nm) : ExcC K c := by
  rcases h with ⟨rfl, _⟩ | ⟨rfl, _⟩ | ⟨rfl, _⟩ | ⟨rfl, _⟩ | ⟨rfl, _⟩
  · exact k.r.e
  · exact k.k.e
  · exact k.s.e
  · exact k.f.e
  · exact k.m.e
def ExmW (K : PySem.W.Frag) (cs : Cs) : Prop := ∀ cc nm, wordOf cs cc nm → PySem.W.exmOne K (.ref cc) (.ref cs.StrewError) = some true
theorem exmW_mk {K : PySem.W.Frag} {cs : Cs} (h1 : PySem.W.exmOne K (.ref cs.BadRule) (.ref cs.StrewError) = some true) (h2 : PySem.W.exmOne K (.ref cs.BadKey) (.ref cs.StrewError) = some true) (h3 : PySem.W.exmOne K (.ref cs.BadSize) (.ref cs.StrewError) = some true)
    (h4 : PySem.W.exmOne K (.ref cs.Full) (.ref cs.StrewError) = some true) (h5 : PySem.W.exmOne K (.ref cs.TooMany) (.ref cs.StrewError) = some true) : ExmW K cs := by
  rintro c nm (⟨rfl, _⟩ | ⟨rfl, _⟩ | ⟨rfl, _⟩ | ⟨rfl, _⟩ | ⟨rfl, _⟩) <;> assumption
theorem e_hot {K : PySem.W.Frag} {σ : Sg} {H : Hp} {te : TE} {Q : PV} (k : kE te σ H fun v H1 => ∃ (a : Addr) (bs : List Bool), v = .ref a ∧ SqL K H1 a (bs.map V.bl) ∧ bs.length ≤ 1000 ∧ ∀ p, H1 p = none → Q (.ref p) (upd H1 p (.lst (bs.map fun b => V.int (b2n b))))) : kE (tHotInts K te) σ H Q := fun H1 e _ q =>
  k H1 e _ fun v H0 H2 ⟨a, bs, ev, hs, hl, hk⟩ e2 => ⟨a, bs, ev, e2.sl hs, hl, fun p hp => q _ _ _ (hk p (e2.fresh hp)) (e2.ups p _)⟩
theorem c_isHr {K : PySem.W.Frag} {D a c : Addr} {b : Bool} {H : Hp} {Q : PV} (h : PySem.W.kitOne K (.ref D) (.ref c) = some b) (k : Q (.bl b) H) : kC (rIsE K D a) [.ref a, .ref c] H Q := c_isH h (fun _ h => h) k
theorem c_isHt {K : PySem.W.Frag} {D a : Addr} {c : String} {b : Bool} {H : Hp} {Q : PV} (h : PySem.W.kitOne K (.ref D) (.type c) = some b) (k : Q (.bl b) H) : kC (rIsE K D a) [.ref a, .ty c] H Q := c_isH h (fun _ h => h) k
theorem kit_refC {K : PySem.W.Frag} {c C : Addr} {b : Bool} (hdct : PySem.W.hasDictIn K C = true) (ht : PySem.W.typeIn K (.ref C) = some (.type "type")) (hs : PySem.W.subIn K (.ref c) (.ref c) = some true) (h4 : PySem.W.subIn K (.ref c) (.ref C) = some b) : PySem.W.kitOne K (.ref c) (.ref C) = some b := by
  obtain ⟨cd, hc, _⟩ := PySem.W.any_some hdct
  have e2 : ((PySem.W.clsIn K C).isSome && PySem.W.typeIn K (.ref C) == some (.type "type")) = true := by rw [hc, ht] <;> rfl
  unfold PySem.W.kitOne
  by_cases q : (Value.ref c == Value.ref C) = true
  · have e : Value.ref c = Value.ref C := eq_of_beq q
    rw [if_pos q]
    rw [← e] at h4
    exact hs.symm.trans h4
  · rw [if_neg q]
    show (if ((PySem.W.clsIn K C).isSome && PySem.W.typeIn K (.ref C) == some (.type "type")) = true then PySem.W.subIn K (.ref c) (.ref C) else none) = some b
    rw [if_pos e2]
    exact h4
theorem kit_tyC {K : PySem.W.Frag} {c : Addr} {T : String} {b : Bool} (hm : PySem.W.kitMeta T = true) (h4 : PySem.W.subIn K (.ref c) (.type T) = some b) : PySem.W.kitOne K (.ref c) (.type T) = some b := by
  unfold PySem.W.kitOne
  rw [if_neg (by intro h; cases eq_of_beq h)]
  show (if PySem.W.kitMeta T = true then PySem.W.subIn K (.ref c) (.type T) else none) = some b
  rw [if_pos hm]
  exact h4
theorem kitC_mk {K : PySem.W.Frag} {cs : Cs} {c : Addr} {b1 b2 b3 b4 b5 : Bool} (e : ExcC K c) (d1 : PySem.W.hasDictIn K cs.BadRule = true) (d2 : PySem.W.hasDictIn K cs.BadKey = true) (d3 : PySem.W.hasDictIn K cs.BadSize = true) (d4 : PySem.W.hasDictIn K cs.Full = true) (d5 : PySem.W.hasDictIn K cs.TooMany = true)
    (t1 : PySem.W.typeIn K (.ref cs.BadRule) = some (.type "type")) (t2 : PySem.W.typeIn K (.ref cs.BadKey) = some (.type "type")) (t3 : PySem.W.typeIn K (.ref cs.BadSize) = some (.type "type")) (t4 : PySem.W.typeIn K (.ref cs.Full) = some (.type "type")) (t5 : PySem.W.typeIn K (.ref cs.TooMany) = some (.type "type"))
    (hs : PySem.W.subIn K (.ref c) (.ref c) = some true) (s1 : PySem.W.subIn K (.ref c) (.ref cs.BadRule) = some b1) (s2 : PySem.W.subIn K (.ref c) (.ref cs.BadKey) = some b2) (s3 : PySem.W.subIn K (.ref c) (.ref cs.BadSize) = some b3) (s4 : PySem.W.subIn K (.ref c) (.ref cs.Full) = some b4) (s5 : PySem.W.subIn K (.ref c) (.ref cs.TooMany) = some b5)
    (sv : PySem.W.subIn K (.ref c) (.type "ValueError") = some true) : KitC K cs c b1 b2 b3 b4 b5 :=
  ⟨e, kit_refC d1 t1 hs s1, kit_refC d2 t2 hs s2, kit_refC d3 t3 hs s3, kit_refC d4 t4 hs s4, kit_refC d5 t5 hs s5, kit_tyC (by decide +kernel) sv⟩
end Lg

/-! Wk: walks (for, comprehension) and the rules of lists in the logic of Lg. -/
namespace Lg
open PySem PySem.Spec PyProof.Rows L2
abbrev Yk := Nat → Hp → (V → Hp → Prop) → Prop
/-- a walk of n turns while G stands; y tells what a turn gives, known heap by known heap -/
structure WalkK (J : It) (n : Nat) (G : Hp → Prop) (y : Yk) : Prop where
  up : ∀ H H', Ex H H' → G H → G H'
  goes : ∀ i H, i < n → G H → J.go i H
  stops : ∀ H, G H → J.stop n H
  mo : ∀ i H (A B : V → Hp → Prop), (∀ v h, A v h → B v h) → y i H A → y i H B
  yields : ∀ i H H' x H'', i < n → G H' → Ex H H' → J.yld i H' x H'' → ∀ Q, y i H Q → ∃ H0, Q x H0 ∧ Ex H0 H''
def yAt (xs : List V) : Yk := fun i H Q => ∀ x, xs[i]? = some x → Q x H
def yFn (f : Nat → V) : Yk := fun i H Q => Q (f i) H
def yPair (f g : Nat → Option V) : Yk := fun i H Q => ∀ T x z, H T = none → f i = some x → g i = some z → Q (.ref T) (upd H T (.tup [x, z]))
theorem WalkK.ofAt {J : It} {n : Nat} {G : Hp → Prop} {xs : List V} (w : Walk J n G (YAt xs)) (up : ∀ H H', Ex H H' → G H → G H') : WalkK J n G (yAt xs) :=
  ⟨up, w.goes, w.stops, fun i H A B ab h x hx => ab _ _ (h x hx), fun i H H' x H'' hi g e y Q q => by
    obtain ⟨e1, e2⟩ := w.yields i H' x H'' hi g y
    subst e1
    exact ⟨H, q x e2, e⟩⟩
theorem WalkK.ofFn {J : It} {n : Nat} {G : Hp → Prop} {f : Nat → V} (w : Walk J n G (YFn f)) (up : ∀ H H', Ex H H' → G H → G H') : WalkK J n G (yFn f) :=
  ⟨up, w.goes, w.stops, fun i H A B ab h => ab _ _ h, fun i H H' x H'' hi g e y Q q => by
    obtain ⟨e1, e2⟩ := w.yields i H' x H'' hi g y
    subst e1 e2
    exact ⟨H, q, e⟩⟩
theorem WalkK.ofPair {J : It} {n : Nat} {G : Hp → Prop} {f g : Nat → Option V} (w : Walk J n G (YPair f g)) (up : ∀ H H', Ex H H' → G H → G H') : WalkK J n G (yPair f g) :=
  ⟨up, w.goes, w.stops, fun i H A B ab h T x z h1 h2 h3 => ab _ _ (h T x z h1 h2 h3), fun i H H' x H'' hi gg e y Q q => by
    obtain ⟨T, a, b, e1, e2, e3, e4, e5⟩ := w.yields i H' x H'' hi gg y
    subst e1 e3
    exact ⟨_, q T a b (e.fresh e2) e4 e5, e.ups T _⟩⟩
abbrev PI' := Nat → (Hp → Prop) → Yk → Hp → Prop
def kI (wi : TI) (σ : Sg) (H : Hp) (Q : PI') : Prop := ∀ H1, Ex H H1 → ∀ R : It → Hp → Prop, (∀ J n G y H0 H2, WalkK J n G y → Q n G y H0 → Ex H0 H2 → R J H2) → wi σ H1 R
variable {K : PySem.W.Frag} {σ σ' : Sg} {H H' : Hp} {ta tb tc te : TE} {tt tu : TT} {t u : TA} {Q : PV} {QB : Bool → Hp → Prop} {QA : List V → Hp → Prop} {N B C : PS'} {R : PV} {ts us : TS} {x y v : V} {i j : Int} {g : TG} {wi : TI}
theorem i_rng1 {QI : PI'} (k : kA t σ H fun vs H1 => ∃ n : Nat, vs = [.int (n : Int)] ∧ n < 2 ^ 61 ∧ QI n (fun _ => True) (yFn fun i => .int (i : Nat)) H1) : kI (iRng1 t) σ H QI := fun H1 e R r => k H1 e _ fun vs H0 H2 ⟨n, ev, hl, q⟩ e2 => by
  subst ev
  refine ⟨(n : Int), rfl, by omega, by omega, ?_⟩
  have e0 : (n : Int).toNat = n := by omega
  rw [e0]
  refine r _ n _ _ H0 H2 (.ofFn (walk_range.mono (fun _ h => h) ?_) (fun _ _ _ h => h)) q e2
  rintro i H x H' _ _ ⟨a, b⟩
  refine ⟨a, ?_⟩
  rw [b]
  show V.int (0 + (i : Int)) = .int (i : Nat)
  rw [Int.zero_add]
theorem i_rng2 {QI : PI'} (k : kA t σ H fun vs H1 => ∃ (a b : Int) (n : Nat), vs = [.int a, .int b] ∧ (-(2 ^ 62) ≤ a ∧ a < 2 ^ 62 ∧ -(2 ^ 62) ≤ b ∧ b < 2 ^ 62) ∧ (b - a).toNat = n ∧ QI n (fun _ => True) (yFn fun i => .int (a + (i : Nat))) H1) : kI (iRng2 t) σ H QI := fun H1 e R r => k H1 e _ fun vs H0 H2 ⟨a, b, n, ev, hl, en, q⟩ e2 => by
  subst ev en
  exact ⟨a, b, rfl, hl, r _ _ _ _ H0 H2 (.ofFn walk_range (fun _ _ _ h => h)) q e2⟩
theorem i_list {QI : PI'} (k : kE te σ H fun v H1 => ∃ a xs, v = .ref a ∧ SqL K H1 a xs ∧ QI xs.length (fun H => SqL K H a xs) (yAt xs) H1) : kI (iList K te) σ H QI := fun H1 e R r => k H1 e _ fun v H0 H2 ⟨a, xs, ev, hs, q⟩ e2 =>
  ⟨a, ev, ⟨xs, e2.sl hs⟩, r _ _ _ _ H0 H2 (.ofAt walk_list (fun _ _ e h => e.sl h)) q e2⟩
theorem i_tup {QI : PI'} (k : kE te σ H fun v H1 => ∃ a xs, v = .ref a ∧ SqT K H1 a xs ∧ QI xs.length (fun H => SqT K H a xs) (yAt xs) H1) : kI (iTup K te) σ H QI := fun H1 e R r => k H1 e _ fun v H0 H2 ⟨a, xs, ev, hs, q⟩ e2 =>
  ⟨a, ev, ⟨xs, e2.st hs⟩, r _ _ _ _ H0 H2 (.ofAt walk_tup (fun _ _ e h => e.st h)) q e2⟩
theorem i_enum {QI : PI'} (k : kA t σ H fun vs H1 => ∃ a xs, vs = [.ref a] ∧ SqL K H1 a xs ∧ QI xs.length (fun H => SqL K H a xs) (yPair (fun i => some (.int (i : Nat))) (fun i => xs[i]?)) H1) : kI (iEnum K t) σ H QI := fun H1 e R r => k H1 e _ fun v H0 H2 ⟨a, xs, ev, hs, q⟩ e2 =>
  ⟨a, xs, ev, e2.sl hs, r _ _ _ _ H0 H2 (.ofPair walk_enum (fun _ _ e h => e.sl h)) q e2⟩
theorem i_zip {QI : PI'} (k : kA t σ H fun vs H1 => ∃ a b xs ys, vs = [.ref a, .ref b] ∧ SqL K H1 a xs ∧ SqL K H1 b ys ∧ QI (min xs.length ys.length) (fun H => SqL K H a xs ∧ SqL K H b ys) (yPair (fun i => xs[i]?) (fun i => ys[i]?)) H1) : kI (iZip K t) σ H QI := fun H1 e R r => k H1 e _ fun v H0 H2 ⟨a, b, xs, ys, ev, hs, hz, q⟩ e2 =>
  ⟨a, b, xs, ys, ev, e2.sl hs, e2.sl hz, r _ _ _ _ H0 H2 (.ofPair (walk_zip rfl) (fun _ _ e h => ⟨e.sl h.1, e.sl h.2⟩)) q e2⟩
/-- for g in iter -/
theorem s_for (k : kI wi σ H fun n G y H1 => ∃ W : Nat → PS', W 0 σ H1 ∧ (∀ i s H, i ≤ n → W i s H → G H) ∧ (∀ i s H, i < n → W i s H → y i H fun x H2 => kG g x s H2 fun s' H3 => kS ts (nxt W (i + 1)) R N (nxt W (i + 1)) s' H3) ∧ ∀ s H, W n s H → N s H) :
    kS (tFor wi g ts) N R B C σ H := fun H1 e D hn hr hb hc => k H1 e _ fun J n G y H0 H2 w ⟨W, w0, hG, hs, hd⟩ e2 => by
  refine ⟨fun i m s H => m = n - i ∧ i ≤ n ∧ nxt W i s H, ⟨n, by simp, Nat.zero_le _, H0, w0, e2⟩, ?_⟩
  rintro i m s H3 ⟨rfl, hi, H4, w4, e4⟩
  have q := w.up _ _ e4 (hG i s H4 hi w4)
  by_cases hlt : i < n
  · refine .inr ⟨w.goes i H3 hlt q, nxt W (i + 1), fun s' H' p' => ⟨n - (i + 1), by omega, rfl, hlt, p'⟩, fun x H' yl => ?_⟩
    obtain ⟨H5, hg, e5⟩ := w.yields i H4 H3 x H' hlt q e4 yl _ (hs i s H4 hlt w4)
    exact hg H' e5 _ fun s' H6 H7 q6 e7 => q6 H7 e7 _ nxt_up hr hn nxt_up
  · have ei : i = n := by omega
    subst ei
    exact .inl ⟨w.stops H3 q, hn _ _ _ (hd s H4 w4) e4⟩
/-- [te for g in iter if tt]: W tells the heap with the new list at D -/
theorem e_lc {vs : List Nat} (k : kI wi σ H fun n G y H1 => ∀ D, H1 D = none → ∃ W : Nat → Hp → Prop, W 0 (upd H1 D (.lst [])) ∧ (∀ i H, i ≤ n → W i H → G H) ∧
      (∀ i H, i < n → W i H → y i H fun x H2 => kG g x (wipe σ vs) H2 fun s' H3 => wipe s' vs = wipe σ vs ∧ kT tt s' H3 fun b H4 => (b = true → kE te s' H4 fun z H5 => ∃ acc H6, H5 D = some (.lst acc) ∧ acc.length < sizeLine ∧ W (i + 1) H6 ∧ Ex H6 (upd H5 D (.lst (acc ++ [z])))) ∧
        (b = false → ∃ H6, W (i + 1) H6 ∧ Ex H6 H4)) ∧ ∀ H, W n H → Q (.ref D) H) : kE (tLc wi g tt te vs) σ H Q := fun H1 e Q1 q1 => k H1 e _ fun J n G y H0 H2 w kk e2 => by
  intro D hD
  obtain ⟨W, w0, hG, hs, hd⟩ := kk D (e2.fresh hD)
  refine ⟨fun i m H => m = n - i ∧ i ≤ n ∧ ∃ H0, W i H0 ∧ Ex H0 H, ⟨n, by simp, Nat.zero_le _, _, w0, e2.ups D _⟩, ?_⟩
  rintro i m H3 ⟨rfl, hi, H4, w4, e4⟩
  have q := w.up _ _ e4 (hG i H4 hi w4)
  by_cases hlt : i < n
  · refine .inr ⟨w.goes i H3 hlt q, fun H' => ∃ H0, W (i + 1) H0 ∧ Ex H0 H', fun H' p' => ⟨n - (i + 1), by omega, rfl, hlt, p'⟩, fun x H' yl => ?_⟩
    obtain ⟨H5, hg, e5⟩ := w.yields i H4 H3 x H' hlt q e4 yl _ (hs i H4 hlt w4)
    refine hg H' e5 _ fun s' H6 H7 ⟨ew, q6⟩ e7 => ⟨ew, q6 H7 e7 _ fun b H8 H9 q8 e9 => ?_⟩
    cases b with
    | true =>
      show te s' H9 _
      refine q8.1 rfl H9 e9 _ fun z H10 H11 ⟨acc, H12, h1, h2, h3, h4⟩ e11 => ⟨acc, e11 _ _ h1, h2, H12, h3, h4.tr (e11.ups D _)⟩
    | false =>
      show ∃ H0, W (i + 1) H0 ∧ Ex H0 H9
      obtain ⟨H10, h1, h2⟩ := q8.2 rfl
      exact ⟨H10, h1, h2.tr e9⟩
  · have ei : i = n := by omega
    subst ei
    exact .inl ⟨w.stops H3 q, q1 _ _ _ (hd H4 w4) e4⟩
/-- the same, what a turn gives known by its number alone -/
theorem e_lcF {vs : List Nat} (k : kI wi σ H fun n G y H1 => G H1 ∧ n ≤ 100000 ∧ ∃ f : Nat → Option V,
      (∀ D acc i, H1 D = none → i < n → y i (upd H1 D (.lst acc)) fun x H2 => kG g x (wipe σ vs) H2 fun s' H3 => wipe s' vs = wipe σ vs ∧ kT tt s' H3 fun b H4 => (b = true → kE te s' H4 fun z H5 => f i = some z ∧ Ex (upd H1 D (.lst acc)) H5) ∧
        (b = false → f i = none ∧ Ex (upd H1 D (.lst acc)) H4)) ∧ ∀ D, H1 D = none → Q (.ref D) (upd H1 D (.lst ((List.range n).filterMap f)))) : kE (tLc wi g tt te vs) σ H Q := e_lc fun H2 e R r => k H2 e R fun J n G y H0 H3 w ⟨hG, hn, f, hs, hd⟩ e3 => r J n G y H0 H3 w (fun D hD => by
    refine ⟨fun i H => H = upd H0 D (.lst ((List.range i).filterMap f)), rfl, fun i H _ e => ?_, fun i H hi e => ?_, fun H e => ?_⟩
    · subst e
      exact w.up _ _ (Ex.news hD) hG
    · subst e
      have hl : ((List.range i).filterMap f).length < sizeLine := Nat.lt_of_le_of_lt (List.length_filterMap_le _ _) (by rw [List.length_range]; exact Nat.lt_of_lt_of_le (Nat.lt_of_lt_of_le hi hn) (by decide))
      have z := hs D ((List.range i).filterMap f) i hD hi
      · refine w.mo _ _ _ _ (fun v h a => ?_) z
        refine fun H4 e4 Q4 q4 => a H4 e4 Q4 fun s' H5 H6 ⟨e5, t5⟩ e6 => q4 s' H5 H6 ⟨e5, fun H7 e7 Q7 q7 => t5 H7 e7 Q7 fun b H8 H9 ⟨b1, b2⟩ e9 => q7 b H8 H9 ⟨fun hb H10 e10 Q10 q10 => b1 hb H10 e10 Q10 fun v' H11 H12 ⟨f1, f2⟩ e12 => q10 v' H11 H12 ⟨_, _, f2 _ _ upd_same, hl, rfl, ?_⟩ e12, fun hb => ⟨_, rfl, ?_⟩⟩ e9⟩ e6
        · rw [List.range_succ, List.filterMap_append]
          simp only [List.filterMap_cons, List.filterMap_nil, f1]
          intro a o ha
          by_cases hq : a = D
          · subst hq
            rw [upd_same] at ha ⊢
            exact ha
          · rw [upd_ne hq] at ha ⊢
            exact f2 a o (by rw [upd_ne hq]; exact ha)
        · obtain ⟨f1, f2⟩ := b2 hb
          rw [List.range_succ, List.filterMap_append]
          simp only [List.filterMap_cons, List.filterMap_nil, f1, List.append_nil]
          exact f2
    · subst e
      exact hd D hD) e3
theorem filterMap_take {zs : List V} : ∀ n, n ≤ zs.length → (List.range n).filterMap (fun i => zs[i]?) = zs.take n
  | 0, _ => by simp
  | n + 1, h => by
    have hn : n < zs.length := h
    rw [List.range_succ, List.filterMap_append, filterMap_take n (Nat.le_of_lt h), List.take_succ, List.getElem?_eq_getElem hn]
    simp [hn]
theorem filterMap_get {zs : List V} {n : Nat} (h : zs.length = n) : (List.range n).filterMap (fun i => zs[i]?) = zs := by
  subst h
  rw [filterMap_take _ (Nat.le_refl _), List.take_length]
/-- the same, to a list that is told -/
theorem e_lcZ {vs : List Nat} (k : kI wi σ H fun n G y H1 => G H1 ∧ n ≤ 100000 ∧ ∃ zs : List V, zs.length = n ∧
      (∀ D acc i, H1 D = none → i < n → y i (upd H1 D (.lst acc)) fun x H2 => kG g x (wipe σ vs) H2 fun s' H3 => wipe s' vs = wipe σ vs ∧ kT tt s' H3 fun b H4 => b = true ∧ kE te s' H4 fun z H5 => zs[i]? = some z ∧ Ex (upd H1 D (.lst acc)) H5) ∧
      ∀ D, H1 D = none → Q (.ref D) (upd H1 D (.lst zs))) : kE (tLc wi g tt te vs) σ H Q := e_lcF fun H2 e R r => k H2 e R fun J n G y H0 H3 w ⟨hG, hn, zs, hz, hs, hd⟩ e3 => r J n G y H0 H3 w ⟨hG, hn, fun i => zs[i]?, fun D acc i hD hi => by
    refine w.mo _ _ _ _ (fun v h a => ?_) (hs D acc i hD hi)
    exact fun H4 e4 Q4 q4 => a H4 e4 Q4 fun s' H5 H6 ⟨e5, t5⟩ e6 => q4 s' H5 H6 ⟨e5, fun H7 e7 Q7 q7 => t5 H7 e7 Q7 fun b H8 H9 ⟨b1, b2⟩ e9 => q7 b H8 H9 ⟨fun _ => b2, fun hb => by rw [b1] at hb; cases hb⟩ e9⟩ e6, fun D hD => by
    rw [filterMap_get hz]
    exact hd D hD⟩ e3
theorem t_yes {QB : Bool → Hp → Prop} (k : QB true H) : kT tYes σ H QB := fun H1 e _ q => q _ _ _ k e
/-! ### lists -/
def rInt1 : List V → Hp → VK → Prop := fun xs H Q => (∃ i, xs = [.int i] ∧ Q (.int i) H) ∨ ∃ k, xs = [.bl k] ∧ Q (.int (if k then 1 else 0)) H
def rListOf (K : PySem.W.Frag) : List V → Hp → VK → Prop := fun xs H Q => ∃ p ys, xs = [.ref p] ∧ (SqL K H p ys ∨ SqT K H p ys) ∧ ∀ l, H l = none → Q (.ref l) (upd H l (.lst ys))
def rTupOf (K : PySem.W.Frag) : List V → Hp → VK → Prop := fun xs H Q => ∃ p ys, xs = [.ref p] ∧ ((SqL K H p ys ∧ ∀ l, H l = none → Q (.ref l) (upd H l (.tup ys))) ∨ (SqT K H p ys ∧ Q (.ref p) H))
theorem c_int1 (k : Q (.int i) H) : kC rInt1 [.int i] H Q := fun H1 e _ q => .inl ⟨i, rfl, q _ _ _ k e⟩
theorem c_intB {b : Bool} (k : Q (.int (if b then 1 else 0)) H) : kC rInt1 [.bl b] H Q := fun H1 e _ q => .inr ⟨b, rfl, q _ _ _ k e⟩
theorem c_listL {p : Addr} {ys : List V} (h : SqL K H p ys) (k : ∀ l, H l = none → Q (.ref l) (upd H l (.lst ys))) : kC (rListOf K) [.ref p] H Q := fun H1 e _ q => ⟨p, ys, rfl, .inl (e.sl h), fun l hl => q _ _ _ (k l (e.fresh hl)) (e.ups l _)⟩
theorem c_listT {p : Addr} {ys : List V} (h : SqT K H p ys) (k : ∀ l, H l = none → Q (.ref l) (upd H l (.lst ys))) : kC (rListOf K) [.ref p] H Q := fun H1 e _ q => ⟨p, ys, rfl, .inr (e.st h), fun l hl => q _ _ _ (k l (e.fresh hl)) (e.ups l _)⟩
theorem c_tupL {p : Addr} {ys : List V} (h : SqL K H p ys) (k : ∀ l, H l = none → Q (.ref l) (upd H l (.tup ys))) : kC (rTupOf K) [.ref p] H Q := fun H1 e _ q => ⟨p, ys, rfl, .inl ⟨e.sl h, fun l hl => q _ _ _ (k l (e.fresh hl)) (e.ups l _)⟩⟩
theorem c_all {p : Addr} {bs : List Bool} (h : SqL K H p (bs.map V.bl)) (k : Q (.bl (bs.all id)) H) : kC (rAll K) [.ref p] H Q := fun H1 e _ q => ⟨p, bs, rfl, e.sl h, q _ _ _ k e⟩
theorem c_sum {p : Addr} {ns : List Int} (h : SqL K H p (ns.map V.int)) (k : Q (.int ns.sum) H) : kC (rSum K) [.ref p] H Q := fun H1 e _ q => ⟨p, ns, rfl, e.sl h, q _ _ _ k e⟩
theorem c_maxL {p : Addr} {ns : List Int} (h : SqL K H p (ns.map V.int)) (h0 : 0 < ns.length) (k : ∀ m, m ∈ ns → (∀ y, y ∈ ns → y ≤ m) → Q (.int m) H) : kC (rMax K) [.ref p] H Q := fun H1 e _ q => ⟨p, ns, rfl, e.sl h, h0, fun m hm hy => q _ _ _ (k m hm hy) e⟩
theorem c_sorted {p : Addr} {ns : List Int} (h : SqL K H p (ns.map V.int)) (k : ∀ (ns' : List Int) (l : Addr), ns'.Perm ns → ns'.Pairwise (· ≤ ·) → H l = none → Q (.ref l) (upd H l (.lst (ns'.map V.int)))) : kC (rSortedI K) [.ref p] H Q := fun H1 e _ q =>
  ⟨p, ns, rfl, e.sl h, fun ns' l h1 h2 hl => q _ _ _ (k ns' l h1 h2 (e.fresh hl)) (e.ups l _)⟩
theorem r_inT {p : Addr} {xs : List V} (h : SqT K H p xs) (f1 : flatV x = true) (f2 : xs.all flatV = true) (k : Q (.bl (inV x xs)) H) : kR (rIn K false) x (.ref p) H Q := fun H1 e _ q => ⟨p, xs, rfl, .inr (e.st h), f1, f2, q _ _ _ k e⟩
theorem r_ninT {p : Addr} {xs : List V} (h : SqT K H p xs) (f1 : flatV x = true) (f2 : xs.all flatV = true) (k : Q (.bl (!inV x xs)) H) : kR (rIn K true) x (.ref p) H Q := fun H1 e _ q => ⟨p, xs, rfl, .inr (e.st h), f1, f2, q _ _ _ k e⟩
theorem r_inL {p : Addr} {xs : List V} (h : SqL K H p xs) (f1 : flatV x = true) (f2 : xs.all flatV = true) (k : Q (.bl (inV x xs)) H) : kR (rIn K false) x (.ref p) H Q := fun H1 e _ q => ⟨p, xs, rfl, .inl (e.sl h), f1, f2, q _ _ _ k e⟩
theorem r_cat {a b : Addr} {xs zs : List V} (h1 : H a = some (.lst xs)) (h2 : H b = some (.lst zs)) (hz : xs.length + zs.length ≤ sizeLine) (k : ∀ p, H p = none → Q (.ref p) (upd H p (.lst (xs ++ zs)))) : kR rCat (.ref a) (.ref b) H Q := fun H1 e _ q =>
  ⟨a, b, xs, zs, rfl, rfl, e _ _ h1, e _ _ h2, hz, fun p hp => q _ _ _ (k p (e.fresh hp)) (e.ups p _)⟩
theorem r_rep {a : Addr} {xs : List V} {n : Int} (h1 : H a = some (.lst xs)) (hn : -(2 ^ 63) ≤ n ∧ n < 2 ^ 63) (hz : xs.length * n.toNat ≤ sizeLine) (k : ∀ p, H p = none → Q (.ref p) (upd H p (.lst (List.replicate n.toNat xs).flatten))) : kR rRep (.ref a) (.int n) H Q := fun H1 e _ q =>
  ⟨a, n, xs, rfl, rfl, e _ _ h1, hn.1, hn.2, hz, fun p hp => q _ _ _ (k p (e.fresh hp)) (e.ups p _)⟩
theorem r_rep1 {a : Addr} {x : V} {n : Nat} (h1 : H a = some (.lst [x])) (hn : n ≤ 100000) (k : ∀ p, H p = none → Q (.ref p) (upd H p (.lst (List.replicate n x)))) : kR rRep (.ref a) (.int (n : Int)) H Q := by
  refine r_rep h1 ⟨by omega, by omega⟩ ?_ fun p hp => ?_
  · have e : ((n : Nat) : Int).toNat = n := by omega
    rw [e, List.length_singleton]
    exact Nat.le_trans (by omega) (Nat.le_trans hn (by decide))
  · have e : ((n : Nat) : Int).toNat = n := by omega
    rw [e, List.flatten_replicate_singleton]
    exact k p hp
theorem r_repT {a : Addr} {xs : List V} {n : Int} (h1 : SqT K H a xs) (h0 : xs ≠ []) (hn : 2 ≤ n ∧ n ≤ 1000) (hz : xs.length ≤ 1000) (k : ∀ p, H p = none → Q (.ref p) (upd H p (.tup (List.replicate n.toNat xs).flatten))) : kR (rRepT K) (.ref a) (.int n) H Q := fun H1 e _ q =>
  ⟨a, n, xs, rfl, rfl, e.st h1, h0, hn.1, hn.2, hz, fun p hp => q _ _ _ (k p (e.fresh hp)) (e.ups p _)⟩
theorem e_bm {r : V → List V → Hp → VK → Prop} (k : kE ta σ H fun x H1 => ∃ p xs, x = .ref p ∧ SqL K H1 p xs ∧ kA t σ H1 fun vs H2 => kM r x vs H2 Q) : kE (tBM K "list" r ta t) σ H Q := fun H1 e Q1 q => k H1 e _ fun x H0 H2 ⟨p, xs, ex, hs, hk⟩ e2 => by
  subst ex
  exact ⟨.inl ⟨rfl, xs, e2.sl hs⟩, hk H2 e2 _ fun vs H3 H4 hm e4 => hm H4 e4 _ q⟩
theorem m_append {l : Addr} {xs : List V} (h : H l = some (.lst xs)) (hz : xs.length ≤ 100000) (k : Q .non (upd H l (.lst (xs ++ [y])))) : kM rAppend (.ref l) [y] H Q := fun H1 e _ q => ⟨l, xs, y, rfl, rfl, e _ _ h, Nat.lt_of_le_of_lt hz (by decide), q _ _ _ k (e.ups l _)⟩
theorem m_extend {l b : Addr} {xs zs : List V} (h : H l = some (.lst xs)) (hb : H b = some (.lst zs)) (hz : xs.length + zs.length ≤ 100000) (k : Q .non (upd H l (.lst (xs ++ zs)))) : kM rExtend (.ref l) [.ref b] H Q := fun H1 e _ q => ⟨l, b, xs, zs, rfl, rfl, e _ _ h, e _ _ hb, Nat.le_trans hz (by decide), q _ _ _ k (e.ups l _)⟩
theorem m_index {l : Addr} {ys : List V} {j : Nat} {z : V} (h : SqL K H l ys) (f1 : flatV y = true) (f2 : ys.all flatV = true) (hj : ys[j]? = some z) (he : eqV z y = true) (hf : ∀ (m : Nat) (z' : V), m < j → ys[m]? = some z' → eqV z' y = false) (k : Q (.int (j : Nat)) H) :
    kM (rIndex K) (.ref l) [y] H Q := fun H1 e _ q => ⟨l, ys, y, j, z, rfl, rfl, e.sl h, f1, f2, hj, he, hf, q _ _ _ k e⟩
theorem g_subL {to ti : TE} {QS : PS'} (k : kE to σ H fun o H1 => kE ti σ H1 fun i H2 => ∃ p xs n j, o = .ref p ∧ i = .int n ∧ H2 p = some (.lst xs) ∧ ixN xs.length n = some j ∧ QS σ (upd H2 p (.lst (xs.set j v)))) : kG (gSub to ti rSetL) v σ H QS := fun H1 e _ q =>
  k H1 e _ fun o H0 H2 hk e2 => hk H2 e2 _ fun i H3 H4 ⟨p, xs, n, j, h1, h2, h3, h4, h5⟩ e4 => ⟨p, xs, n, j, h1, h2, e4 _ _ h3, h4, q _ _ _ h5 (e4.ups p _)⟩
theorem o_no {QO : Option Int → Hp → Prop} (k : QO none H) : kO tNoPart σ H QO := fun H1 e _ q => q _ _ _ k e
theorem o_part {QO : Option Int → Hp → Prop} (k : kE te σ H fun v H1 => ∃ i, v = .int i ∧ QO (some i) H1) : kO (tPart te) σ H QO := fun H1 e _ q => k H1 e _ fun v H0 H2 ⟨i, ei, h⟩ e2 => ⟨i, ei, q _ _ _ h e2⟩
theorem e_slL {tl th : TO} (k : kE te σ H fun x H1 => kO tl σ H1 fun lo H2 => kO th σ H2 fun hi H3 => ∃ a xs, x = .ref a ∧ SqL K H3 a xs ∧ ∀ p, H3 p = none → Q (.ref p) (upd H3 p (.lst (cutV xs lo hi)))) : kE (tSl (rSlL K) te tl th) σ H Q := fun H1 e _ q =>
  k H1 e _ fun x H0 H2 h e2 => h H2 e2 _ fun lo H3 H4 h e4 => h H4 e4 _ fun hi H5 H6 ⟨a, xs, ex, hs, hk⟩ e6 => ⟨a, xs, ex, e6.sl hs, fun p hp => q _ _ _ (hk p (e6.fresh hp)) (e6.ups p _)⟩
theorem s_retN (k : R .non H) : kS tRetN N R B C σ H := fun H1 e D _ hr _ _ => hr _ _ _ k e
theorem bF {b : Bool} {A B : Prop} (h : b = false) (k : B) : (b = true → A) ∧ (b = false → B) := ⟨fun z => (by rw [h] at z; cases z), fun _ => k⟩
theorem bT {b : Bool} {A B : Prop} (h : b = true) (k : A) : (b = true → A) ∧ (b = false → B) := ⟨fun _ => k, fun z => (by rw [h] at z; cases z)⟩
theorem dec2' {p : Prop} [Decidable p] {A B : Prop} (h1 : p → A) (h2 : ¬ p → B) : ((!decide p) = false → A) ∧ ((!decide p) = true → B) := ⟨fun h => h1 (by simpa using h), fun h => h2 (by simpa using h)⟩
theorem r_p16 (k : Q (.int 65536) H) : kR (rI CPow fun i j => .int (i ^ j.toNat)) (.int 2) (.int 16) H Q := r_I ⟨by decide, by decide, by decide⟩ (by rw [show (2 : Int) ^ (16 : Int).toNat = 65536 from by decide]; exact k)
theorem r_p20 (k : Q (.int 1048576) H) : kR (rI CPow fun i j => .int (i ^ j.toNat)) (.int 2) (.int 20) H Q := r_I ⟨by decide, by decide, by decide⟩ (by rw [show (2 : Int) ^ (20 : Int).toNat = 1048576 from by decide]; exact k)
theorem r_p24 (k : Q (.int 16777216) H) : kR (rI CPow fun i j => .int (i ^ j.toNat)) (.int 2) (.int 24) H Q := r_I ⟨by decide, by decide, by decide⟩ (by rw [show (2 : Int) ^ (24 : Int).toNat = 16777216 from by decide]; exact k)
theorem r_p30 (k : Q (.int 1073741824) H) : kR (rI CPow fun i j => .int (i ^ j.toNat)) (.int 2) (.int 30) H Q := r_I ⟨by decide, by decide, by decide⟩ (by rw [show (2 : Int) ^ (30 : Int).toNat = 1073741824 from by decide]; exact k)
theorem r_p40 (k : Q (.int 1099511627776) H) : kR (rI CPow fun i j => .int (i ^ j.toNat)) (.int 2) (.int 40) H Q := r_I ⟨by decide, by decide, by decide⟩ (by rw [show (2 : Int) ^ (40 : Int).toNat = 1099511627776 from by decide]; exact k)
theorem r_p46 (k : Q (.int 70368744177664) H) : kR (rI CPow fun i j => .int (i ^ j.toNat)) (.int 2) (.int 46) H Q := r_I ⟨by decide, by decide, by decide⟩ (by rw [show (2 : Int) ^ (46 : Int).toNat = 70368744177664 from by decide]; exact k)
theorem r_p50 (k : Q (.int 1125899906842624) H) : kR (rI CPow fun i j => .int (i ^ j.toNat)) (.int 2) (.int 50) H Q := r_I ⟨by decide, by decide, by decide⟩ (by rw [show (2 : Int) ^ (50 : Int).toNat = 1125899906842624 from by decide]; exact k)
theorem kS_gen (P : Hp → Prop) (h : P H) (k : ∀ H', P H' → kS ts N R B C σ H') : kS ts N R B C σ H := k H h
theorem r_repT1 {a : Addr} {x : V} {n : Nat} (h1 : SqT K H a [x]) (hn : 2 ≤ n ∧ n ≤ 1000) (k : ∀ p, H p = none → Q (.ref p) (upd H p (.tup (List.replicate n x)))) : kR (rRepT K) (.ref a) (.int (n : Int)) H Q := by
  refine r_repT h1 (by simp) (by omega) (by simp) fun p hp => ?_
  have e : ((n : Nat) : Int).toNat = n := by omega
  rw [e, List.flatten_replicate_singleton]
  exact k p hp
theorem dp_strs : ∀ zs : List Str, DpAll K H (zs.map V.str) (zs.map PyData.str)
  | [] => .nil
  | z :: zs => .cons (.str z) (dp_strs zs)
theorem eqv_strs : ∀ zs ws : List Str, PyData.eqv (.list (zs.map PyData.str)) (.list (ws.map PyData.str)) = decide (zs = ws)
  | [], [] => by simp [PyData.eqv, PyData.eqvAll]
  | [], _ :: _ => by simp [PyData.eqv, PyData.eqvAll]
  | _ :: _, [] => by simp [PyData.eqv, PyData.eqvAll]
  | a :: r, b :: t => by
    have ih := eqv_strs r t
    simp only [PyData.eqv] at ih
    simp only [List.map_cons, PyData.eqv, PyData.eqvAll, ih]
    by_cases h : a = b <;> by_cases h' : r = t <;> simp [h, h']
theorem lay_all {ds : List PyData} (h : ∀ d ∈ ds, d.canLay0 = true ∧ d.depth ≤ 50) : PyData.canLayAll0 ds = true ∧ PyData.depthAll ds ≤ 50 := by
  induction ds with
  | nil => exact ⟨rfl, Nat.zero_le _⟩
  | cons d ds ih =>
    obtain ⟨h1, h2⟩ := h d List.mem_cons_self
    obtain ⟨i1, i2⟩ := ih fun x hx => h x (List.mem_cons_of_mem _ hx)
    simp only [PyData.canLayAll0, PyData.depthAll, Bool.and_eq_true]
    exact ⟨⟨h1, i1⟩, Nat.max_le.mpr ⟨h2, i2⟩⟩
theorem shaped_list {ds : List PyData} (h : ∀ d ∈ ds, d.canLay0 = true ∧ d.depth ≤ 50) : SeqAt.shaped (.list ds) = true := by
  obtain ⟨h1, h2⟩ := lay_all h
  have h3 : PyData.depth (.list ds) ≤ 64 := by
    unfold PyData.depth
    first | exact Nat.le_trans (Nat.succ_le_succ h2) (by decide) | exact Nat.le_trans (Nat.add_le_add_left h2 1) (by decide)
  have h4 : PyData.canLay0 (.list ds) = true := by
    unfold PyData.canLay0
    exact h1
  unfold SeqAt.shaped
  rw [h4, decide_eq_true h3]
  rfl
theorem r_neSs {p q : Addr} {zs ws : List Str} (h1 : SqL K H p (zs.map V.str)) (h2 : SqL K H q (ws.map V.str)) (s1 : SeqAt.shaped (.list (zs.map PyData.str)) = true) (s2 : SeqAt.shaped (.list (ws.map PyData.str)) = true) (k : Q (.bl (!decide (zs = ws))) H) : kR (rNeD K) (.ref p) (.ref q) H Q :=
  r_neD (.lst h1 (dp_strs zs)) (.lst h2 (dp_strs ws)) s1 s2 (eqv_strs zs ws) k
end Lg

/-! Rl: things that are handed in where a rule is wanted; rules; homes. -/
namespace Lg
open PySem PySem.Spec PyProof.Rows L2
inductive Th where
  | int (i : Int) | bl (b : Bool) | non | str (z : Str) | lst | tup (xs : List Th)
mutual
inductive IsT : Hp → V → Th → Prop where
  | int {H : Hp} (i : Int) : IsT H (.int i) (.int i)
  | bl {H : Hp} (b : Bool) : IsT H (.bl b) (.bl b)
  | non {H : Hp} : IsT H .non .non
  | str {H : Hp} (z : Str) : IsT H (.str z) (.str z)
  | lst {H : Hp} {a : Addr} {vs : List V} (h : H a = some (.lst vs)) : IsT H (.ref a) .lst
  | tup {H : Hp} {a : Addr} {vs : List V} {ts : List Th} (h : H a = some (.tup vs)) (all : IsTs H vs ts) : IsT H (.ref a) (.tup ts)
inductive IsTs : Hp → List V → List Th → Prop where
  | nil {H : Hp} : IsTs H [] []
  | cons {H : Hp} {v : V} {t : Th} {vs : List V} {ts : List Th} (h : IsT H v t) (r : IsTs H vs ts) : IsTs H (v :: vs) (t :: ts)
end
mutual
theorem IsT.up {H H' : Hp} (e : Ex H H') : ∀ {v : V} {t : Th}, IsT H v t → IsT H' v t
  | _, _, .int i => .int i
  | _, _, .bl b => .bl b
  | _, _, .non => .non
  | _, _, .str z => .str z
  | _, _, .lst h => .lst (e _ _ h)
  | _, _, .tup h a => .tup (e _ _ h) (IsTs.up e a)
theorem IsTs.up {H H' : Hp} (e : Ex H H') : ∀ {vs : List V} {ts : List Th}, IsTs H vs ts → IsTs H' vs ts
  | _, _, .nil => .nil
  | _, _, .cons h r => .cons (IsT.up e h) (IsTs.up e r)
end
theorem IsTs.len {H : Hp} : ∀ {vs : List V} {ts : List Th}, IsTs H vs ts → vs.length = ts.length
  | _, _, .nil => rfl
  | _, _, .cons _ r => congrArg (· + 1) r.len
theorem IsTs.at {H : Hp} : ∀ {vs : List V} {ts : List Th}, IsTs H vs ts → ∀ {i : Nat} {v : V}, vs[i]? = some v → ∃ t, ts[i]? = some t ∧ IsT H v t
  | _, _, .nil, i, v, h => by simp at h
  | _, _, .cons (t := t) h r, 0, v, e => by
    have e' : _ = v := Option.some.inj e
    subst e'
    exact ⟨t, rfl, h⟩
  | _, _, .cons h r, i + 1, v, e => r.at (i := i) e
def thTy : Th → String
  | .int _ => "int" | .bl _ => "bool" | .non => "NoneType" | .str _ => "str" | .lst => "list" | .tup _ => "tuple"
theorem IsT.ty {K : PySem.W.Frag} {H : Hp} {v : V} {t : Th} (h : IsT H v t) : Ty5 K H v (thTy t) := by
  cases h with
  | int i => exact .int i
  | bl b => exact .bl b
  | non => exact .non
  | str z => exact .str z
  | lst h => exact .lst h
  | tup h _ => exact .tup h
def thCnt : Th → Int → Int → Bool
  | .int i, lo, hi => decide (lo ≤ i) && decide (i ≤ hi)
  | _, _, _ => false
theorem IsT.cnt {H : Hp} {v : V} {t : Th} (h : IsT H v t) (lo hi : Int) : cnt v lo hi = thCnt t lo hi := by
  cases h <;> rfl
def thNums : Th → Bool
  | .tup ts => decide (1 ≤ ts.length) && decide (ts.length ≤ 64) && ts.all fun t => thCnt t 0 999
  | _ => false
/-- what stands first is a text or a whole number -/
def thHead : Th → Bool
  | .int _ => true | .str _ => true | _ => false
def thRule : Th → Bool
  | .tup [.str z, t] => decide (z = ("told" : Str)) && thNums t
  | .tup [.str z, a, b] => if z = ("times" : Str) then thCnt a 0 999999 && thCnt b 0 999999 else if z = ("high" : Str) then thCnt a 0 999999 && thCnt b 1 30 else false
  | _ => false
/-- a tuple of two or three begins with a text or a number -/
def thOk : Th → Bool
  | .tup [h, _] => thHead h
  | .tup [h, _, _] => thHead h
  | _ => true
/-! ### rules -/
inductive Rl where
  | times (a b : Nat) | high (a b : Nat) | told (ns : List Nat)
def Rl.ok : Rl → Prop
  | .times a b => a ≤ 999999 ∧ b ≤ 999999
  | .high a b => a ≤ 999999 ∧ 1 ≤ b ∧ b ≤ 30
  | .told ns => 1 ≤ ns.length ∧ ns.length ≤ 64 ∧ ∀ n ∈ ns, n ≤ 999
def IsRl (H : Hp) (v : V) : Rl → Prop
  | .times a b => ∃ p, v = .ref p ∧ H p = some (.tup [.str "times", .int (a : Int), .int (b : Int)])
  | .high a b => ∃ p, v = .ref p ∧ H p = some (.tup [.str "high", .int (a : Int), .int (b : Int)])
  | .told ns => ∃ p q, v = .ref p ∧ H p = some (.tup [.str "told", .ref q]) ∧ H q = some (.tup (ns.map fun n : Nat => V.int (n : Int)))
theorem IsRl.up {H H' : Hp} (e : Ex H H') {v : V} : ∀ {r : Rl}, IsRl H v r → IsRl H' v r
  | .times _ _, ⟨p, h1, h2⟩ => ⟨p, h1, e _ _ h2⟩
  | .high _ _, ⟨p, h1, h2⟩ => ⟨p, h1, e _ _ h2⟩
  | .told _, ⟨p, q, h1, h2, h3⟩ => ⟨p, q, h1, e _ _ h2, e _ _ h3⟩
def Rl.th : Rl → Th
  | .times a b => .tup [.str "times", .int a, .int b]
  | .high a b => .tup [.str "high", .int a, .int b]
  | .told ns => .tup [.str "told", .tup (ns.map fun n : Nat => Th.int (n : Int))]
theorem isTs_nums {H : Hp} : ∀ ns : List Nat, IsTs H (ns.map fun n : Nat => V.int (n : Int)) (ns.map fun n : Nat => Th.int (n : Int))
  | [] => .nil
  | n :: ns => .cons (.int _) (isTs_nums ns)
theorem IsRl.th {H : Hp} {v : V} : ∀ {r : Rl}, IsRl H v r → IsT H v r.th
  | .times a b, ⟨p, h1, h2⟩ => by
    subst h1
    exact .tup h2 (.cons (.str _) (.cons (.int _) (.cons (.int _) .nil)))
  | .high a b, ⟨p, h1, h2⟩ => by
    subst h1
    exact .tup h2 (.cons (.str _) (.cons (.int _) (.cons (.int _) .nil)))
  | .told ns, ⟨p, q, h1, h2, h3⟩ => by
    subst h1
    exact .tup h2 (.cons (.str _) (.cons (.tup h3 (isTs_nums ns)) .nil))
theorem thCnt_nat {n lo hi : Nat} (h : lo ≤ n) (h2 : n ≤ hi) : thCnt (.int (n : Int)) (lo : Int) (hi : Int) = true := by
  simp only [thCnt, Bool.and_eq_true, decide_eq_true_eq]
  omega
theorem Rl.ok_th : ∀ {r : Rl}, r.ok → thRule r.th = true ∧ thOk r.th = true
  | .times a b, h => by
    refine ⟨?_, rfl⟩
    have h1 := thCnt_nat (lo := 0) (hi := 999999) (Nat.zero_le a) h.1
    have h2 := thCnt_nat (lo := 0) (hi := 999999) (Nat.zero_le b) h.2
    simp only [Rl.th, thRule, if_pos]
    rw [Bool.and_eq_true]
    exact ⟨h1, h2⟩
  | .high a b, h => by
    refine ⟨?_, rfl⟩
    have h1 := thCnt_nat (lo := 0) (hi := 999999) (Nat.zero_le a) h.1
    have h2 := thCnt_nat (lo := 1) (hi := 30) h.2.1 h.2.2
    simp only [Rl.th, thRule]
    rw [if_neg (by decide)]
    simp only [if_true, Bool.and_eq_true]
    exact ⟨h1, h2⟩
  | .told ns, h => by
    refine ⟨?_, rfl⟩
    simp only [Rl.th, thRule, thNums, List.length_map, Bool.and_eq_true, decide_eq_true_eq, List.all_map, true_and]
    refine ⟨⟨h.1, h.2.1⟩, List.all_eq_true.mpr fun n hn => ?_⟩
    exact thCnt_nat (lo := 0) (hi := 999) (Nat.zero_le n) (h.2.2 n hn)
/-- the home by a rule -/
def homeN : Rl → Nat → Nat → Nat
  | .times a b, key, size => (a * key + b) % size
  | .high a b, key, size => a * key % 2 ^ b * size / 2 ^ b
  | .told ns, key, size => ns.getD (key % ns.length) 0 % size
theorem homeN_lt {r : Rl} {key size : Nat} (h : 0 < size) : homeN r key size < size := by
  cases r with
  | times a b => exact Nat.mod_lt _ h
  | high a b =>
    have h2 : 0 < 2 ^ b := Nat.two_pow_pos b
    exact Nat.div_lt_of_lt_mul (by
      have := Nat.mod_lt (a * key) h2
      exact Nat.mul_lt_mul_of_pos_right this h)
  | told ns => exact Nat.mod_lt _ h
theorem isTs_rep {H : Hp} {i : Int} : ∀ n : Nat, IsTs H (List.replicate n (.int i)) (List.replicate n (.int i))
  | 0 => .nil
  | n + 1 => .cons (.int i) (isTs_rep n)
theorem pow_lt30 {b : Nat} (h : b ≤ 30) : 2 ^ b < 2 ^ 31 := Nat.pow_lt_pow_right (by decide) (by omega)
end Lg

/-! Ks: keys: sets of them, sorted lists, lists of lists compared. -/
namespace Lg
open PySem PySem.Spec PyProof.Rows L2
/-! ### len(set(xs)) -/
theorem met_lt {val : Nat → Int} {j : Nat} (h : (firstMet val j).any (· == val j) = true) : ∀ i, j < i → (firstMet val i).length < i
  | 0, hi => absurd hi (Nat.not_lt_zero _)
  | i + 1, hi => by
    rw [firstMet_succ]
    by_cases e : j = i
    · subst e
      unfold step_dedup
      rw [if_pos h]
      exact Nat.lt_succ_of_le (firstMet_length_le val j)
    · have ih := met_lt h i (by omega)
      unfold step_dedup
      split
      · omega
      · rw [List.length_append, List.length_singleton]
        omega
theorem dup_at {ns : List Int} (h : ¬ ns.Nodup) : ∃ j, ∃ hj : j < ns.length, ns[j] ∈ ns.take j := by
  by_cases q : ∃ j, ∃ hj : j < ns.length, ns[j] ∈ ns.take j
  · exact q
  · refine absurd (List.pairwise_iff_getElem.mpr fun i j hi hj hij e => q ⟨j, hj, ?_⟩) h
    rw [← e]
    exact List.mem_iff_getElem.mpr ⟨i, by rw [List.length_take]; omega, by rw [List.getElem_take]⟩
theorem met_dup {ns : List Int} (h : ¬ ns.Nodup) : (firstMet (fun i => ns.getD i 0) ns.length).length < ns.length := by
  obtain ⟨j, hj, hm⟩ := dup_at h
  refine met_lt (j := j) ?_ _ hj
  rw [firstMet_any]
  refine List.any_eq_true.mpr ⟨ns[j], ?_, ?_⟩
  · obtain ⟨i, hi, e⟩ := List.mem_iff_getElem.mp hm
    rw [List.length_take] at hi
    rw [List.getElem_take] at e
    refine List.mem_map.mpr ⟨i, List.mem_range.mpr (by omega), ?_⟩
    rw [← e]
    show ns.getD i 0 = _
    rw [List.getD_eq_getElem?_getD, List.getElem?_eq_getElem (by omega)]
    rfl
  · show (ns[j] == ns.getD j 0) = true
    rw [List.getD_eq_getElem?_getD, List.getElem?_eq_getElem hj]
    exact beq_self_eq_true _
def tLenSet (K : PySem.W.Frag) (ta : TE) : TE := fun σ H Q => ta σ H fun x H1 => ∃ (l : Addr) (ns : List Int), x = .ref l ∧ SqL K H1 l (ns.map V.int) ∧ ns.length ≤ 4000 ∧ ∀ m : Nat, (ns.Nodup → m = ns.length) → (¬ ns.Nodup → m < ns.length) → Q (.int (m : Int)) H1
theorem pe_lenSetG {X : Cx} {a : Expr} {ta : TE} {p p2 q pos : Pos} (hg : Gl X "len") (hg2 : Gl X "set") (hm : X.mg "len" = none) (hm2 : X.mg "set" = none) (ha : PE X a ta) (hc : X.calm = true := by rfl)
    (na : starEach [a] X.env = (false, eval a X.env) :: starEach [] X.env := by rfl) : PE X (.Call (.Name "len" p) [.Call (.Name "set" p2) [a] [] q] [] pos) (tLenSet X.K ta) := by
  refine ⟨fun pins s σ H Q I h => ?_⟩
  refine Call_ (ld_blt I hg hm boot_len ?_)
  refine PyProof.Rows.callWith_builtin1 (PyProof.Rows.args_cons ?_ rfl) rfl rfl
  refine Call_ (ld_blt I hg2 hm2 boot_set ?_)
  refine PyProof.Rows.callWith_type1 (PyProof.Rows.args_cons (thn (ha.run pins s σ H _ I h) fun v s1 ⟨x, H1, I1, r1, q1⟩ => PyProof.Rows.args_nil ?_) na) na rfl
  obtain ⟨l, ns, rfl, hq, hl, q1⟩ := q1
  cases r1
  obtain ⟨its, r, pl, hz⟩ := I1.list hq
  have hlen : its.toArray.size = ns.length := by rw [List.size_toArray, ← r.length, List.length_map]
  refine call_set_list (I1.ok.hd hc) pl.isList (by simpa using RZ.intsAre_vals r) (by rw [hlen]; unfold scanBound; omega) fun h' tk hS hk => ?_
  refine PyProof.Rows.args_nil ?_
  have h1 : ns.Nodup → (firstMet (fun i => ns.getD i 0) ns.length).length = ns.length := fun hnd => by rw [RZ.firstMet_nodup hnd ns.length (Nat.le_refl _), List.take_length]
  have h2 : ¬ ns.Nodup → (firstMet (fun i => ns.getD i 0) ns.length).length < ns.length := fun h => met_dup h
  have h3 := firstMet_length_le (fun i => ns.getD i 0) ns.length
  rw [hlen] at hS
  generalize firstMet (fun i => ns.getD i 0) ns.length = ms at *
  obtain ⟨o, es, ep, t, ho, hex, hd, _, _, _, hf, hn⟩ := hS
  have I2 : Inv X pins σ H1 { s1 with heap := h', toks := tk } := I1.kept fun b o e => hk b o (Heap.lt_size e) e
  exact call_len_set ho hex hd hf (by rw [hn] <;> omega) ⟨.int ms.length, H1, I2.tok _, ⟨_, by rw [hn]⟩, q1 ms.length h1 h2⟩
variable {K : PySem.W.Frag} {σ : Sg} {H H' : Hp} {ta te : TE} {Q : PV}
theorem e_lenSet (k : kE ta σ H fun x H1 => ∃ (l : Addr) (ns : List Int), x = .ref l ∧ SqL K H1 l (ns.map V.int) ∧ ns.length ≤ 4000 ∧ ∀ m : Nat, (ns.Nodup → m = ns.length) → (¬ ns.Nodup → m < ns.length) → Q (.int (m : Int)) H1) : kE (tLenSet K ta) σ H Q := fun H1 e _ q =>
  k H1 e _ fun x H0 H2 ⟨l, ns, ex, hs, hl, hk⟩ e2 => ⟨l, ns, ex, e2.sl hs, hl, fun m h1 h2 => q _ _ _ (hk m h1 h2) e2⟩
/-! ### lists of lists -/
theorem eqv_lls : ∀ xs ys : List (List Int), PyData.eqv (.list (xs.map fun b => PyData.list (b.map PyData.int))) (.list (ys.map fun b => PyData.list (b.map PyData.int))) = decide (xs = ys)
  | [], [] => by simp [PyData.eqv, PyData.eqvAll]
  | [], _ :: _ => by simp [PyData.eqv, PyData.eqvAll]
  | _ :: _, [] => by simp [PyData.eqv, PyData.eqvAll]
  | a :: r, b :: t => by
    have ih := eqv_lls r t
    have ia := eqv_ints a b
    rw [List.map_cons, List.map_cons]
    rw [show PyData.eqv (.list (PyData.list (a.map PyData.int) :: r.map fun b => PyData.list (b.map PyData.int))) (.list (PyData.list (b.map PyData.int) :: t.map fun b => PyData.list (b.map PyData.int))) = (PyData.eqv (.list (a.map PyData.int)) (.list (b.map PyData.int)) && PyData.eqv (.list (r.map fun b => PyData.list (b.map PyData.int))) (.list (t.map fun b => PyData.list (b.map PyData.int)))) from by simp only [PyData.eqv, PyData.eqvAll]]
    rw [ih, ia]
    by_cases h : a = b <;> by_cases h' : r = t <;> simp [h, h']
theorem lay_ints (b : List Int) : (PyData.list (b.map PyData.int)).canLay0 = true ∧ (PyData.list (b.map PyData.int)).depth ≤ 50 := by
  have h := PySem.W.ke_shaped_ints b
  unfold SeqAt.shaped at h
  rw [Bool.and_eq_true] at h
  refine ⟨h.1, ?_⟩
  simp [PyData.depth, PySem.W.ke_depthAll]
theorem shaped_lls (xs : List (List Int)) : SeqAt.shaped (.list (xs.map fun b => PyData.list (b.map PyData.int))) = true := shaped_list fun d hd => by
  obtain ⟨b, _, rfl⟩ := List.mem_map.mp hd
  exact lay_ints b
/-- a list of lists of whole numbers stands at p -/
inductive LLs (H : Hp) : List Addr → List (List Int) → Prop where
  | nil : LLs H [] []
  | cons {a : Addr} {ps : List Addr} {b : List Int} {xs : List (List Int)} (h : H a = some (.lst (b.map V.int))) (r : LLs H ps xs) : LLs H (a :: ps) (b :: xs)
theorem LLs.up (e : Ex H H') : ∀ {ps : List Addr} {xs : List (List Int)}, LLs H ps xs → LLs H' ps xs
  | _, _, .nil => .nil
  | _, _, .cons h r => .cons (e _ _ h) (r.up e)
theorem LLs.dp : ∀ {ps : List Addr} {xs : List (List Int)}, LLs H ps xs → DpAll K H (ps.map V.ref) (xs.map fun b => PyData.list (b.map PyData.int))
  | _, _, .nil => .nil
  | _, _, .cons h r => .cons (.lst (SqL.of h) (dp_ints _)) r.dp
theorem LLs.of {ps : List Addr} {xs : List (List Int)} (hl : ps.length = xs.length) (h : ∀ i (hi : i < xs.length), H (ps[i]'(by omega)) = some (.lst (xs[i].map V.int))) : LLs H ps xs := by
  induction xs generalizing ps with
  | nil =>
    cases ps with
    | nil => exact .nil
    | cons a ps => simp at hl
  | cons b xs ih =>
    cases ps with
    | nil => simp at hl
    | cons a ps => exact .cons (h 0 (by simp)) (ih (by simpa using hl) fun i hi => h (i + 1) (by simpa using hi))
theorem LLs.len : ∀ {ps : List Addr} {xs : List (List Int)}, LLs H ps xs → ps.length = xs.length
  | _, _, .nil => rfl
  | _, _, .cons _ r => congrArg (· + 1) r.len
theorem LLs.at : ∀ {ps : List Addr} {xs : List (List Int)}, LLs H ps xs → ∀ i (hi : i < ps.length) (hx : i < xs.length), H ps[i] = some (.lst (xs[i].map V.int))
  | _, _, .cons h _, 0, _, _ => h
  | _, _, .cons _ r, i + 1, hi, hx => r.at i (by simpa using hi) (by simpa using hx)
theorem r_neLL {p q : Addr} {ps qs : List Addr} {xs ys : List (List Int)} (h1 : SqL K H p (ps.map V.ref)) (l1 : LLs H ps xs) (h2 : SqL K H q (qs.map V.ref)) (l2 : LLs H qs ys) (k : Q (.bl (!decide (xs = ys))) H) : kR (rNeD K) (.ref p) (.ref q) H Q :=
  r_neD (.lst h1 l1.dp) (.lst h2 l2.dp) (shaped_lls xs) (shaped_lls ys) (eqv_lls xs ys) k
/-! ### lists by places -/
theorem filterMap_idx {α β : Type} {xs : List α} {g : α → Option β} : ∀ n, n ≤ xs.length → (List.range n).filterMap (fun i => (xs[i]?).bind g) = (xs.take n).filterMap g
  | 0, _ => by simp
  | n + 1, h => by
    have hn : n < xs.length := h
    rw [List.range_succ, List.filterMap_append, filterMap_idx n (Nat.le_of_lt h), List.take_succ, List.getElem?_eq_getElem hn, List.filterMap_append]
    simp [List.filterMap_cons, hn]
/-- one order is sorted -/
theorem sorted_one : ∀ {xs ys : List Int}, xs.Perm ys → xs.Pairwise (· ≤ ·) → ys.Pairwise (· ≤ ·) → xs = ys
  | xs, ys, h, h1, h2 => List.Perm.eq_of_pairwise (le := (· ≤ ·)) (fun a b _ _ hab hba => Int.le_antisymm hab hba) h1 h2 h
/-! ### a place that is not told -/
theorem nodup_le {α : Type} [DecidableEq α] : ∀ {l m : List α}, l.Nodup → (∀ x ∈ l, x ∈ m) → l.length ≤ m.length
  | [], _, _, _ => Nat.zero_le _
  | a :: l, m, hn, hs => by
    have ha : a ∈ m := hs a List.mem_cons_self
    obtain ⟨h1, h2⟩ := List.nodup_cons.mp hn
    have := nodup_le (l := l) (m := m.erase a) h2 fun x hx => (List.mem_erase_of_ne (fun e => h1 (by rw [← e]; exact hx))).mpr (hs x (List.mem_cons_of_mem _ hx))
    rw [List.length_erase_of_mem ha] at this
    have hp := List.length_pos_of_mem ha
    simp only [List.length_cons]
    omega
theorem free_at (found : List Nat) (key M : Nat) (h : found.length < M) : ∃ d, d ≤ found.length ∧ (key + d) % M ∉ found := by
  by_cases q : ∃ d, d ≤ found.length ∧ (key + d) % M ∉ found
  · exact q
  · have hs : ∀ x ∈ (List.range (found.length + 1)).map fun d => (key + d) % M, x ∈ found := fun x hx => by
      obtain ⟨d, hd, rfl⟩ := List.mem_map.mp hx
      by_cases z : (key + d) % M ∈ found
      · exact z
      · exact absurd ⟨d, by have := List.mem_range.mp hd; omega, z⟩ q
    have hn : ((List.range (found.length + 1)).map fun d => (key + d) % M).Nodup := by
      refine List.pairwise_map.mpr (List.Pairwise.imp_of_mem ?_ (List.nodup_range (n := found.length + 1)))
      intro a b ha hb hab e
      have h1 := List.mem_range.mp ha
      have h2 := List.mem_range.mp hb
      apply hab
      have e1 := Nat.div_add_mod (key + a) M
      have e2 := Nat.div_add_mod (key + b) M
      rcases Nat.lt_trichotomy ((key + a) / M) ((key + b) / M) with z | z | z
      · have : M * ((key + a) / M + 1) ≤ M * ((key + b) / M) := Nat.mul_le_mul_left _ z
        rw [Nat.mul_add] at this
        omega
      · rw [z] at e1
        omega
      · have : M * ((key + b) / M + 1) ≤ M * ((key + a) / M) := Nat.mul_le_mul_left _ z
        rw [Nat.mul_add] at this
        omega
    have := nodup_le hn hs
    rw [List.length_map, List.length_range] at this
    omega
theorem inV_ints {k : Nat} {ns : List Nat} : inV (.int (k : Int)) (ns.map fun n : Nat => V.int (n : Int)) = decide (k ∈ ns) := by
  rw [Bool.eq_iff_iff]
  simp only [inV, List.any_map, List.any_eq_true, Function.comp, decide_eq_true_eq, eqV]
  constructor
  · rintro ⟨x, hx, e⟩
    have : (x : Int) = k := by simpa using e
    have : x = k := by omega
    exact this ▸ hx
  · intro h
    exact ⟨k, h, by simp⟩
theorem LLs.snoc {a : Addr} {b : List Int} (h : H a = some (.lst (b.map V.int))) : ∀ {ps : List Addr} {xs : List (List Int)}, LLs H ps xs → LLs H (ps ++ [a]) (xs ++ [b])
  | _, _, .nil => .cons h .nil
  | _, _, .cons h' r => .cons h' (r.snoc h)
theorem LLs.upd_ne {D : Addr} {o : HO} : ∀ {ps : List Addr} {xs : List (List Int)}, LLs H ps xs → (∀ q ∈ ps, q ≠ D) → LLs (upd H D o) ps xs
  | _, _, .nil, _ => .nil
  | _, _, .cons h r, hn => .cons (by rw [L2.upd_ne (hn _ List.mem_cons_self)]; exact h) (r.upd_ne fun q hq => hn q (List.mem_cons_of_mem _ hq))
theorem filterMap_if {P : Int → Bool} : ∀ {ms : List Int}, ms.filterMap (fun k => if P k = true then some (V.int k) else none) = (ms.filter P).map V.int
  | [] => rfl
  | k :: ms => by
    rw [List.filterMap_cons, List.filter_cons]
    cases h : P k with
    | true => simp only [if_true, List.map_cons, filterMap_if]
    | false => simp only [Bool.false_eq_true, if_false, filterMap_if]
def nI (ns : List Nat) : List Int := ns.map fun n : Nat => (n : Int)
theorem nI_v {ns : List Nat} : (nI ns).map V.int = ns.map fun n : Nat => V.int (n : Int) := by
  unfold nI
  rw [List.map_map]
  rfl
theorem nI_nodup {ns : List Nat} : (nI ns).Nodup ↔ ns.Nodup := by
  unfold nI
  constructor
  · intro h
    exact (List.pairwise_map.mp h).imp fun h e => h (by rw [e])
  · intro h
    exact List.pairwise_map.mpr (h.imp fun h e => h (by omega))
theorem map_int_inj : ∀ {a b : List Int}, a.map V.int = b.map V.int → a = b
  | [], [], _ => rfl
  | [], _ :: _, h => by simp at h
  | _ :: _, [], h => by simp at h
  | x :: a, y :: b, h => by
    simp only [List.map_cons, List.cons.injEq, V.int.injEq] at h
    rw [h.1, map_int_inj h.2]
theorem atI_lastN {α : Type} {xs : List α} {n : Nat} {v : α} (hl : xs.length = n + 1) (h : xs[n]? = some v) : atI xs (-1) = some v := by
  have e : xs = xs.take n ++ [v] := by
    have hn : n < xs.length := by omega
    have hv : xs[n] = v := by
      rw [List.getElem?_eq_getElem hn] at h
      exact Option.some.inj h
    rw [← hv, List.take_append_getElem hn, List.take_of_length_le (by omega)]
  rw [e]
  exact L2.atI_last _ _
theorem cut1 {xs : List V} (h : 0 < xs.length) : cutV xs (some 1) none = xs.drop 1 := by
  unfold cutV HT.sIx
  have h1 : min 1 xs.length = 1 := by omega
  simp [h1]
  exact List.take_of_length_le (by simp)
theorem cut0 {xs : List V} {n : Nat} (h : n ≤ xs.length) : cutV xs none (some (n : Int)) = xs.take n := by
  unfold cutV
  rw [HT.sIx_none, HT.sIx_nat, Nat.min_eq_left h]
  simp
theorem nI_len {ns : List Nat} : (nI ns).length = ns.length := by simp [nI]
theorem nI_map {α : Type} {f : α → Nat} {l : List α} : (nI (l.map f)).map V.int = l.map fun x => V.int ((f x : Nat) : Int) := by
  rw [nI_v, List.map_map]
  rfl
theorem nI_sum {ns : List Nat} : (nI ns).sum = ((ns.sum : Nat) : Int) := by
  induction ns with
  | nil => rfl
  | cons n ns ih =>
    simp only [nI, List.map_cons, List.sum_cons] at ih ⊢
    rw [ih]
    omega
theorem nI_inj : ∀ {a b : List Nat}, nI a = nI b → a = b
  | [], [], _ => rfl
  | [], _ :: _, h => by simp [nI] at h
  | _ :: _, [], h => by simp [nI] at h
  | x :: a, y :: b, h => by
    simp only [nI, List.map_cons, List.cons.injEq] at h
    rw [nI_inj (a := a) (b := b) h.2, show x = y by omega]
end Lg

namespace Lg
open PySem PySem.Spec PyProof.Rows L2 L2H LgH
local macro_rules | `(tactic| k_memK) => `(tactic| first
  | with_reducible assumption
  | with_reducible exact SqT.of upd_same
  | with_reducible exact SqL.of upd_same
  | with_reducible exact upd_same
  | ((with_reducible refine' st_new ?k1 ?k2); (case k1 => with_reducible assumption); (case k2 => k_memK))
  | ((with_reducible refine' sl_new ?k1 ?k2); (case k1 => with_reducible assumption); (case k2 => k_memK))
  | ((with_reducible refine' at_new ?k1 ?k2); (case k1 => with_reducible assumption); (case k2 => k_memK))
  | (with_reducible refine' SqT.of ?k1); (case k1 => k_memK)
  | ((with_reducible refine' SqL.of ?k1); (case k1 => k_memK))
  | ((with_reducible refine' Ex.get ?k1 ?k2); (case k2 => with_reducible assumption); (case k1 => k_offL))
  | ((with_reducible refine' Ex.sl ?k1 ?k2); (case k2 => with_reducible assumption); (case k1 => k_offL))
  | ((with_reducible refine' Ex.st ?k1 ?k2); (case k2 => with_reducible assumption); (case k1 => k_offL)))
local macro_rules | `(tactic| k_allIn) => `(tactic| first | with_reducible assumption | with_reducible exact mulxR (by decide) (by decide) | with_reducible exact cdivL (by decide) (by decide) | with_reducible exact cdivL (by omega) (by omega) | with_reducible exact mulxL (by decide) (by decide) | with_reducible exact mulxR (by omega) (by omega) | with_reducible exact mulxL (by omega) (by omega) | omega | decide)
local macro_rules | `(tactic| k_ownIn) => `(tactic| first
  | with_reducible exact Ty5.int _ | with_reducible exact Ty5.bl _ | with_reducible exact Ty5.non | with_reducible exact Ty5.str _ | with_reducible assumption
  | ((with_reducible refine' Ty5.lst (xs := ?k2) ?k1); (case k1 => k_memK)) | ((with_reducible refine' Ty5.tup (xs := ?k2) ?k1); (case k1 => k_memK))
  | ((with_reducible refine' Ty5.up (IsT.ty ?k1) ?k2); (case k1 => with_reducible assumption); (case k2 => k_offL))
  | ((with_reducible refine' Ty5.up ?k1 ?k2); (case k1 => with_reducible assumption); (case k2 => k_offL))
  | with_reducible exact IsT.int _ | with_reducible exact IsT.bl _ | with_reducible exact IsT.non | with_reducible exact IsT.str _
  | ((with_reducible refine' IsT.up ?k2 ?k1); (case k1 => with_reducible assumption); (case k2 => k_offL))
  | ((with_reducible refine' IsT.up ?k2 (IsRl.th ?k1)); (case k1 => with_reducible assumption); (case k2 => k_offL))
  | ((with_reducible refine' IsRl.up ?k2 ?k1); (case k1 => with_reducible assumption); (case k2 => k_offL))
  | with_reducible exact IsTs.nil | with_reducible exact isTs_rep _
  | ((with_reducible refine' IsTs.cons ?k1 ?k2); (case k1 => k_ownIn); (case k2 => k_ownIn))
  | ((with_reducible refine' IsT.lst (vs := ?k2) ?k1); (case k1 => k_memK))
  | ((with_reducible refine' IsT.tup (vs := ?k2) ?k1 ?k3); (case k1 => k_memK); (case k3 => k_ownIn)))
local macro_rules | `(tactic| k_places) => `(tactic| first
  | ((with_reducible refine' e_var ?k1 ?_); (case k1 => rfl))
  | (with_reducible refine' e_c ?_)
  | (with_reducible refine' e_op ?_)
  | (with_reducible refine' a_cons ?_)
  | (with_reducible refine' a_nil ?_)
  | (with_reducible refine' r_I0 ?_)
  | (with_reducible refine' s_seq ?_)
  | (with_reducible refine' s_asg ?_)
  | (with_reducible refine' t_test ?_)
  | (with_reducible refine' t_not ?_)
  | (with_reducible refine' t_B ?_)
  | (with_reducible refine ⟨_, rfl, ?_⟩)
  | (with_reducible refine' r_eqI ?_)
  | (with_reducible refine' r_neI ?_)
  | (with_reducible refine' e_call ?_)
  | (with_reducible refine' e_cb ?_)
  | (with_reducible refine' s_if ?_)
  | (with_reducible refine' s_ret ?_)
  | (with_reducible refine' r_p16 ?_) | (with_reducible refine' r_p20 ?_) | (with_reducible refine' r_p24 ?_) | (with_reducible refine' r_p30 ?_) | (with_reducible refine' r_p40 ?_) | (with_reducible refine' r_p46 ?_) | (with_reducible refine' r_p50 ?_)
  | (with_reducible refine' s_next ?_)
  | ((with_reducible refine' r_I ?k1 ?_); (case k1 => k_allIn))
  | (refine ⟨fun h => Bool.noConfusion h, fun _ => ?_⟩)
  | (refine ⟨fun _ => ?_, fun h => Bool.noConfusion h⟩)
  | ((with_reducible refine' r_ixT ?k1 ?k2 ?_); (case k1 => k_memK); (case k2 => rfl))
  | ((with_reducible refine' r_ixL ?k1 ?k2 ?_); (case k1 => k_memK); (case k2 => rfl))
  | ((with_reducible refine' r_eq ?k1 ?_); (case k1 => rfl))
  | ((with_reducible refine' r_ne ?k1 ?_); (case k1 => rfl))
  | (with_reducible refine' e_un ?_) | (with_reducible refine' u_U ?_)
  | (with_reducible refine' e_tup ?_) | (with_reducible refine' e_lst ?_)
  | (with_reducible refine' ⟨szl (Nat.le_of_ble_eq_true rfl), fun _ _ => ?_⟩)
  | (with_reducible refine' e_if ?_) | (with_reducible refine' e_andV ?_) | (with_reducible refine' e_orV ?_) | (with_reducible refine' e_notV ?_) | (with_reducible refine' e_chain ?_)
  | (with_reducible refine' t_and ?_) | (with_reducible refine' t_or ?_)
  | (with_reducible refine' s_drop ?_) | (with_reducible refine' s_brk ?_) | (with_reducible refine' s_cont ?_) | (with_reducible refine' s_par ?_)
  | (with_reducible refine ⟨_, _, rfl, ?_⟩)
  | (with_reducible refine' c_abs ?_) | (with_reducible refine' c_max2 ?_) | (with_reducible refine' c_min2 ?_)
  | ((with_reducible refine' c_lenL ?k1 ?_); (case k1 => k_memK)) | ((with_reducible refine' c_lenT ?k1 ?_); (case k1 => k_memK))
  | ((with_reducible refine' r_cat ?k1 ?k2 ?k3 (fun _ _ => ?_)); (case k1 => k_memK); (case k2 => k_memK); (case k3 => with_reducible exact szl (Nat.le_of_ble_eq_true rfl)))
  | (with_reducible refine' e_bm ?_)
  | ((with_reducible refine ⟨_, ?k0, rfl, ?k1, ?_⟩); (case k1 => k_memK))
  | ((with_reducible refine' m_append ?k1 ?k2 ?_); (case k1 => k_memK); (case k2 => first | with_reducible exact Nat.le_of_ble_eq_true rfl | omega))
  | (with_reducible refine' c_int1 ?_) | (with_reducible refine' c_intB ?_)
  | ((with_reducible refine' c_listL ?k1 (fun _ _ => ?_)); (case k1 => k_memK)) | ((with_reducible refine' c_tupL ?k1 (fun _ _ => ?_)); (case k1 => k_memK))
  | ((with_reducible refine' r_inT ?k1 ?k2 ?k3 ?_); (case k1 => k_memK); (case k2 => rfl); (case k3 => rfl)) | ((with_reducible refine' r_ninT ?k1 ?k2 ?k3 ?_); (case k1 => k_memK); (case k2 => rfl); (case k3 => rfl))
  | (with_reducible refine' s_retN ?_) | (with_reducible refine' e_slL ?_) | (with_reducible refine' o_no ?_) | (with_reducible refine' o_part ?_)
  | ((with_reducible refine' c_tupL ?k1 (fun _ _ => ?_)); (case k1 => k_memK))
  | (with_reducible refine' t_yes ?_)
  | (with_reducible refine' i_rng1 ?_) | (with_reducible refine' i_rng2 ?_) | (with_reducible refine' i_list ?_) | (with_reducible refine' i_tup ?_) | (with_reducible refine' i_enum ?_) | (with_reducible refine' i_zip ?_)
  | ((with_reducible refine' c_isi ?k1 ?k2 ?_); (case k1 => k_ownIn); (case k2 => first | with_reducible exact kb_int_int | with_reducible exact kb_int_bool | with_reducible exact kb_int_tuple | with_reducible exact kb_int_list | with_reducible exact kb_bool_int | with_reducible exact kb_bool_bool | with_reducible exact kb_bool_tuple | with_reducible exact kb_bool_list | with_reducible exact kb_NoneType_int | with_reducible exact kb_NoneType_bool | with_reducible exact kb_NoneType_tuple | with_reducible exact kb_NoneType_list | with_reducible exact kb_str_int | with_reducible exact kb_str_bool | with_reducible exact kb_str_tuple | with_reducible exact kb_str_list | with_reducible exact kb_list_int | with_reducible exact kb_list_bool | with_reducible exact kb_list_tuple | with_reducible exact kb_list_list | with_reducible exact kb_tuple_int | with_reducible exact kb_tuple_bool | with_reducible exact kb_tuple_tuple | with_reducible exact kb_tuple_list))
  | (with_reducible refine' s_asgG ?_) | (with_reducible refine' g_name ?_) | (with_reducible refine' g_cons ?_) | (with_reducible refine' g_nil ?_)
  | ((with_reducible refine' g_tup ?k1 ?k2 ?_); (case k1 => k_memK); (case k2 => rfl))
  | (with_reducible refine' s_asgG ?_))
local macro_rules | `(tactic| k_clsL) => `(tactic| repeat k_places)
local macro_rules | `(tactic| k_offL) => `(tactic| first
  | with_reducible assumption | with_reducible exact Ex.rf
  | ((with_reducible refine' Ex.newr ?k1 ?k2); (case k2 => with_reducible assumption); (case k1 => k_offL))
  | ((with_reducible refine' Ex.mutr ?k1 ?k2); (case k2 => k_offL); (case k1 => k_offL))
  | ((with_reducible refine' Ex.tr ?k1 ?k2); (case k1 => with_reducible assumption); (case k2 => k_offL))
  | ((with_reducible refine' Ex.fresh ?k1 ?k2); (case k2 => with_reducible assumption); (case k1 => k_offL)))
def topS (i : Nat) : Stmt := PySem.Challenge.pw_strewn_k51_whole_longest.main.body.getD i (.Pass ⟨0, 0, 0, 0⟩)
/-! ### fractions of naturals -/
def fr (a b : Nat) : Nat × Nat := (a / Nat.gcd a b, b / Nat.gcd a b)
theorem fr_pos {a b : Nat} (h : 0 < b) : 0 < (fr a b).2 := Nat.div_pos (Nat.le_of_dvd h (Nat.gcd_dvd_right a b)) (Nat.gcd_pos_of_pos_right a h)
theorem fr_le1 (a b : Nat) : (fr a b).1 ≤ a := Nat.div_le_self _ _
theorem fr_le2 (a b : Nat) : (fr a b).2 ≤ b := Nat.div_le_self _ _
theorem gcd_turn (m n : Nat) : Nat.gcd n (m % n) = Nat.gcd m n := by
  rw [Nat.gcd_comm n (m % n), ← Nat.gcd_rec n m, Nat.gcd_comm]
def plusN (x y : Nat × Nat) : Nat × Nat := fr (x.1 * y.2 + y.1 * x.2) (x.2 * y.2)
def timesN (x y : Nat × Nat) : Nat × Nat := fr (x.1 * y.1) (x.2 * y.2)
def halfN (x : Nat × Nat) : Nat × Nat := fr (x.1 + x.2) (2 * x.2)
/-- what is small enough -/
def big : Nat := 2 ^ 1000
/-! ### k51: choices, bounded counts, heights -/
def pasc : Nat → List Nat
  | 0 => [1]
  | t + 1 => [1] ++ List.zipWith (· + ·) (pasc t) ((pasc t).drop 1) ++ [1]
def pc (l h : Nat) : Nat := (pasc l).getD h 0
/-- in how many scatterings no chain has more than so many -/
def Bf (most : Nat) : Nat → Nat → Nat
  | 0, left => if left = 0 then 1 else 0
  | s + 1, left => ((List.range (min left most + 1)).map fun here => pc left here * Bf most s (left - here)).sum
def chN (many : Nat) : Nat → Nat
  | 0 => 1
  | j + 1 => chN many j * (many - j) / (j + 1)
theorem pasc_len : ∀ t, (pasc t).length = t + 1
  | 0 => rfl
  | t + 1 => by
    simp only [pasc, List.length_append, List.length_cons, List.length_nil, List.length_zipWith, List.length_drop, pasc_len t]
    omega
theorem pc_small : ∀ l, l ≤ 24 → ∀ x ∈ pasc l, x < 2 ^ 60 := by
  have h : ∀ l : Fin 25, ∀ x ∈ pasc l.val, x < 2 ^ 60 := by decide +kernel
  exact fun l hl => h ⟨l, by omega⟩
theorem pc_ch : ∀ l, l ≤ 24 → ∀ h, h ≤ l → chN l h = pc l h := by
  have z : ∀ l : Fin 25, ∀ h : Fin 25, h.val ≤ l.val → chN l.val h.val = pc l.val h.val := by decide +kernel
  exact fun l hl h hh => z ⟨l, by omega⟩ ⟨h, by omega⟩ hh
theorem pc_lt {l h : Nat} (hl : l ≤ 24) : pc l h < 2 ^ 60 := by
  unfold pc
  rw [List.getD_eq_getElem?_getD]
  cases e : (pasc l)[h]? with
  | none => decide
  | some x => exact pc_small l hl x (List.mem_of_getElem? e)
theorem binom : ∀ s, s ≤ 21 → ∀ l, l ≤ 24 → ((List.range (l + 1)).map fun h => pc l h * s ^ (l - h)).sum = (s + 1) ^ l := by
  have z : ∀ s : Fin 22, ∀ l : Fin 25, ((List.range (l.val + 1)).map fun h => pc l.val h * s.val ^ (l.val - h)).sum = (s.val + 1) ^ l.val := by decide +kernel
  exact fun s hs l hl => z ⟨s, by omega⟩ ⟨l, by omega⟩
theorem sum_map_le {α : Type} {f g : α → Nat} : ∀ {l : List α}, (∀ x ∈ l, f x ≤ g x) → (l.map f).sum ≤ (l.map g).sum
  | [], _ => Nat.le_refl _
  | a :: l, h => by
    simp only [List.map_cons, List.sum_cons]
    exact Nat.add_le_add (h a List.mem_cons_self) (sum_map_le fun x hx => h x (List.mem_cons_of_mem _ hx))
theorem sum_range_le {f : Nat → Nat} {m n : Nat} (h : m ≤ n) : ((List.range m).map f).sum ≤ ((List.range n).map f).sum := by
  induction n with
  | zero => rw [Nat.le_zero.mp h]; exact Nat.le_refl _
  | succ n ih =>
    rcases Nat.lt_or_ge m (n + 1) with z | z
    · rw [List.range_succ, List.map_append, List.sum_append]
      exact Nat.le_trans (ih (by omega)) (Nat.le_add_right _ _)
    · rw [Nat.le_antisymm h z]
      exact Nat.le_refl _
theorem Bf_mono {most : Nat} : ∀ s left, Bf most s left ≤ Bf (most + 1) s left
  | 0, _ => Nat.le_refl _
  | s + 1, left => by
    unfold Bf
    refine Nat.le_trans (sum_map_le fun h _ => Nat.mul_le_mul_left _ (Bf_mono s (left - h))) (sum_range_le ?_)
    omega
theorem Bf_mono2 {a b : Nat} (h : a ≤ b) (s left : Nat) : Bf a s left ≤ Bf b s left := by
  induction b with
  | zero => rw [Nat.le_zero.mp h]; exact Nat.le_refl _
  | succ b ih =>
    rcases Nat.lt_or_ge a (b + 1) with z | z
    · exact Nat.le_trans (ih (by omega)) (Bf_mono s left)
    · rw [Nat.le_antisymm h z]
      exact Nat.le_refl _
theorem Bf_all {most : Nat} : ∀ s left, s ≤ 22 → left ≤ 24 → left ≤ most → Bf most s left = s ^ left
  | 0, left, _, _, _ => by
    unfold Bf
    split
    · rename_i h
      rw [h]
    · rename_i h
      rw [Nat.zero_pow (by omega)]
  | s + 1, left, hs, hl, hm => by
    unfold Bf
    rw [Nat.min_eq_left hm, ← binom s (by omega) left hl]
    congr 1
    refine List.map_congr_left fun h hh => ?_
    rw [Bf_all s (left - h) (by omega) (by omega) (by omega)]
theorem Bf_le {most s left : Nat} (hs : s ≤ 22) (hl : left ≤ 24) : Bf most s left ≤ s ^ left := by
  rcases Nat.le_total left most with h | h
  · exact Nat.le_of_eq (Bf_all s left hs hl h)
  · rw [← Bf_all (most := left) s left hs hl (Nat.le_refl _)]
    exact Bf_mono2 h s left
theorem pc_zero (l : Nat) : pc l 0 = 1 := by
  cases l with
  | zero => rfl
  | succ t => simp [pc, pasc]
theorem Bf_zero : ∀ s left, Bf 0 s left = if left = 0 then 1 else 0
  | 0, _ => rfl
  | s + 1, left => by
    unfold Bf
    rw [Nat.min_zero]
    simp [pc_zero, Bf_zero s left]
/-- digits of a number counted -/
def digs (s : Nat) : Nat → List Nat × Nat → List Nat × Nat
  | 0, c => c
  | j + 1, c => digs s j (c.1.set (c.2 % s) (c.1.getD (c.2 % s) 0 + 1), c.2 / s)
def maxd (s m number : Nat) : Nat := (digs s m (List.replicate s 0, number)).1.foldl Nat.max 0
def cntR (p : Nat → Bool) : Nat → Nat
  | 0 => 0
  | n + 1 => cntR p n + (if p n then 1 else 0)
def hts (s m : Nat) : List Nat := (List.range (m + 1)).map fun j => cntR (fun number => maxd s m number == j) (s ^ m)
def difs (s m : Nat) : List Nat := (List.range (m + 1)).map fun n => Bf n s m - (if n = 0 then 0 else Bf (n - 1) s m)
def pairs51 : List (Nat × Nat) := [(2, 8), (3, 6), (4, 5), (5, 4), (6, 4), (2, 3), (9, 3)]
set_option maxRecDepth 1000000 in
theorem hts_ok : ∀ p ∈ pairs51, ∀ m, m ≤ p.2 → hts p.1 m = difs p.1 m := by
  have z : ∀ p ∈ pairs51, ∀ m ∈ List.range (p.2 + 1), hts p.1 m = difs p.1 m := by decide +kernel
  exact fun p hp m hm => z p hp m (List.mem_range.mpr (by omega))
theorem pre_ok : ∀ p ∈ pairs51, ∀ m, m ≤ p.2 → (List.range (m + 1)).map (fun n => ((difs p.1 m).take (n + 1)).sum) = (List.range (m + 1)).map (fun n => Bf n p.1 m) := by
  have z : ∀ p ∈ pairs51, ∀ m ∈ List.range (p.2 + 1), (List.range (m + 1)).map (fun n => ((difs p.1 m).take (n + 1)).sum) = (List.range (m + 1)).map (fun n => Bf n p.1 m) := by decide +kernel
  exact fun p hp m hm => z p hp m (List.mem_range.mpr (by omega))
theorem mean_ok : ∀ p ∈ pairs51, ∀ m, m ≤ p.2 → ((List.range (m + 1)).map fun n => n * (difs p.1 m).getD n 0).sum = ((List.range (m + 1)).map fun n => p.1 ^ m - Bf n p.1 m).sum := by
  have z : ∀ p ∈ pairs51, ∀ m ∈ List.range (p.2 + 1), ((List.range (m + 1)).map fun n => n * (difs p.1 m).getD n 0).sum = ((List.range (m + 1)).map fun n => p.1 ^ m - Bf n p.1 m).sum := by decide +kernel
  exact fun p hp m hm => z p hp m (List.mem_range.mpr (by omega))
abbrev s__law_cell : Stmt := topS 24
abbrev s__law_drawn : Stmt := topS 25
abbrev s__law_power : Stmt := topS 29
abbrev s__law_heights : Stmt := topS 30
abbrev s__law_word : Stmt := topS 26
abbrev s_is_count : Stmt := topS 10
abbrev s_need_size : Stmt := topS 11
abbrev s_need_count : Stmt := topS 12
abbrev s_choices : Stmt := topS 19
abbrev s_bounded : Stmt := topS 20
abbrev s_longest : Stmt := topS 21
abbrev s_power : Stmt := topS 16
abbrev s_fraction : Stmt := topS 14
abbrev s_mean_longest : Stmt := topS 22
abbrev s__law_told : Stmt := topS 27
abbrev s__law_fraction : Stmt := topS 28
abbrev s__law_chosen : Stmt := topS 31
abbrev s__law_bounded : Stmt := topS 32
abbrev s_law : Stmt := topS 33
theorem sc__law_cell : FnScope ["_law_script", "_law_k"] ["_law_script", "_law_k"] (defScope s__law_cell) := ⟨rfl, rfl, rfl, by decide +kernel, rfl, by decide +kernel, by decide +kernel⟩
theorem sc__law_cell_v0 : (defScope s__law_cell).names.lookup ("_law_script" : Str) = some .local := by decide +kernel
theorem sc__law_cell_v1 : (defScope s__law_cell).names.lookup ("_law_k" : Str) = some .local := by decide +kernel
def t__law_cell (K : PySem.W.Frag) (cs : Cs) (E : XK) : TS :=
  (tSeq (tIfS (tTest (tOp (rEqD K) (tVar 0) (tLst tNil)))
  (tRet (tOp (rI IntMulOk fun i j => .int (i * j)) (tVar 1) (tC (.int 7919))))
  tNext)
  (tRet (tOp (rI0 fun i j => .int (i + j)) (tOp (rIxL K) (tVar 0) (tOp (rI (fun _ j => 0 < j) fun i j => .int (i % j)) (tVar 1) (tCB (fun xs H Q => ∃ p ys, xs = [V.ref p] ∧ (SqL K H p ys ∨ SqT K H p ys) ∧ Q (.int ys.length) H) (tCons (tVar 0) tNil)))) (tOp (rI IntMulOk fun i j => .int (i * j)) (tOp (rI CDivW fun i j => .int (i / j)) (tVar 1) (tCB (fun xs H Q => ∃ p ys, xs = [V.ref p] ∧ (SqL K H p ys ∨ SqT K H p ys) ∧ Q (.int ys.length) H) (tCons (tVar 0) tNil))) (tC (.int 104729))))))
def sp__law_cell (K : PySem.W.Frag) (_ : Cs) : Sp := fun vs H Q _ => ∃ (a : Addr) (ns : List Int) (k : Nat), vs = [.ref a, .int k] ∧ SqL K H a (ns.map V.int) ∧ ns.length ≤ 63 ∧ k < 1000 ∧ ∀ z : Int, upR Q (.int z) H
theorem c__law_cell {K : PySem.W.Frag} {cs : Cs} {H : Hp} {a : Addr} {ns : List Int} {k : Nat} {Q : PV} {E : XK} (h : SqL K H a (ns.map V.int)) (hl : ns.length ≤ 63) (hk : k < 1000) (q : ∀ z : Int, Q (.int z) H) : kC (fun ws H Q => sp__law_cell K cs ws H Q E) [.ref a, .int k] H Q :=
  fun H1 e _ qq => ⟨a, ns, k, rfl, e.sl h, hl, hk, fun z H2 e2 => qq _ _ _ (q z) (e.tr e2)⟩
local macro_rules | `(tactic| k_places) => `(tactic| ((with_reducible refine' c__law_cell ?k1 ?k2 ?k3 (fun _ => ?_)); (case k1 => k_memK); (case k2 => with_reducible assumption); (case k3 => omega)))
theorem pure__law_cell {K : PySem.W.Frag} {cs : Cs} {H : Hp} {vs : List V} {Q : VK} {E : XK} (h : sp__law_cell K cs vs H Q E) : t__law_cell K cs E { nx := fun _ H' => Q .non H', rt := Q } (start ["_law_script", "_law_k"] vs) H := by
  obtain ⟨a, ns, k, rfl, h, hl, hk, q⟩ := h
  refine fin (σ := [some (.ref a), some (.int k)]) ?_
  unfold t__law_cell
  k_clsL
  refine r_eqIs (ms := []) (by k_memK) (by k_memK) ?_
  k_clsL
  refine dec2 (fun h1 => ?_) (fun h1 => ?_)
  · k_clsL
    exact upX (q _) (by k_offL)
  · have h0 : 0 < ns.length := List.length_pos_iff.mpr h1
    have hn : (0 : Int) < (((ns.map V.int).length : Nat) : Int) := by rw [List.length_map]; omega
    have hd : CDivW (k : Int) (((ns.map V.int).length : Nat) : Int) := cdivL hn (by rw [List.length_map]; omega)
    have hi : k % (ns.map V.int).length < ns.length := by rw [List.length_map]; exact Nat.mod_lt _ h0
    k_clsL
    refine r_ixL (v := .int (ns[k % (ns.map V.int).length])) (by k_memK) (atI_mod (by rw [List.getElem?_map, List.getElem?_eq_getElem hi]; rfl)) ?_
    k_clsL
    exact upX (q _) (by k_offL)
theorem ok__law_cell {P : Program} {w : World} {K : PySem.W.Frag} {mg : Str → Option Value} {base : Heap} {cs : Cs} (D__law_cell : Dn K mg "_law_cell" s__law_cell ["_law_script", "_law_k"]) (m_len : mg "len" = none) :
    Cal P w K mg base (L2N.CX P w) 1 "_law_cell" ["_law_script", "_law_k"] (sp__law_cell K cs) := by
  refine cal_mk D__law_cell sc__law_cell (fun vs H Q E h => ?_) fun f cdv A outer s H vs Q E hr h => ⟨t__law_cell K cs E, ?_, pure__law_cell h⟩
  · unfold sp__law_cell at h
    first | (obtain ⟨rfl, _⟩ := h; rfl) | (obtain ⟨_, rfl, _⟩ := h; rfl) | (obtain ⟨_, _, rfl, _⟩ := h; rfl) | (obtain ⟨_, _, _, rfl, _⟩ := h; rfl) | (obtain ⟨_, _, _, _, rfl, _⟩ := h; rfl) | (obtain ⟨_, _, _, _, _, rfl, _⟩ := h; rfl) | (obtain ⟨_, _, _, _, _, _, rfl, _⟩ := h; rfl) | (obtain ⟨_, _, _, _, _, _, _, rfl, _⟩ := h; rfl) | (obtain ⟨_, _, _, _, _, _, _, _, rfl, _⟩ := h; rfl) | (obtain ⟨_, _, _, _, _, _, _, _, _, rfl, _⟩ := h; rfl) | (obtain ⟨_, _, _, _, _, _, _, _, _, _, rfl, _⟩ := h; rfl) | (obtain ⟨_, _, _, _, _, _, _, _, _, _, _, rfl, _⟩ := h; rfl) | (obtain ⟨_, _, _, _, _, _, _, _, _, _, _, _, rfl, _⟩ := h; rfl) | (obtain ⟨_, _, _, _, _, _, _, _, _, _, _, _, _, rfl, _⟩ := h; rfl) | (obtain ⟨_, _, _, _, _, _, _, _, _, _, _, _, _, _, rfl, _⟩ := h; rfl) | (obtain ⟨_, _, _, _, _, _, _, _, _, _, _, _, _, _, _, rfl, _⟩ := h; rfl)
  · exact (pss_cons (ps_if (pt_cmpR (op_eqD hr.units) (pv 0) (pe_lst pa_nil) (nomark _))
      (pss_one (ps_ret (pe_op op_mulX (pv 1) pe_int)))
      pss_nil)
      (pss_one (ps_ret (pe_op op_add (pe_ix ix_list (pv 0) (pe_op op_mod (pv 1) (pe_callB call_len_seq (by rfl) m_len (by decide +kernel) (pa_cons (pv 0) pa_nil))) (fun _ _ => rfl)) (pe_op op_mulX (pe_op op_fdivW (pv 1) (pe_callB call_len_seq (by rfl) m_len (by decide +kernel) (pa_cons (pv 0) pa_nil))) pe_int)))))
theorem sc__law_drawn : FnScope ["_law_cell_here", "_law_k", "_law_more"] ["_law_cell_here", "_law_k"] (defScope s__law_drawn) := ⟨rfl, rfl, rfl, by decide +kernel, rfl, by decide +kernel, by decide +kernel⟩
theorem sc__law_drawn_v0 : (defScope s__law_drawn).names.lookup ("_law_cell_here" : Str) = some .local := by decide +kernel
theorem sc__law_drawn_v1 : (defScope s__law_drawn).names.lookup ("_law_k" : Str) = some .local := by decide +kernel
theorem sc__law_drawn_v2 : (defScope s__law_drawn).names.lookup ("_law_more" : Str) = some .local := by decide +kernel
def t__law_drawn (K : PySem.W.Frag) (cs : Cs) (E : XK) : TS :=
  (tSeq (tAsg (tOp (rI (fun _ j => 0 < j) fun i j => .int (i % j)) (tOp (rI0 fun i j => .int (i + j)) (tOp (rI IntMulOk fun i j => .int (i * j)) (tVar 0) (tC (.int 6364136223846793005))) (tOp (rI IntMulOk fun i j => .int (i * j)) (tOp (rI0 fun i j => .int (i + j)) (tVar 1) (tC (.int 1))) (tC (.int 1442695040888963407)))) (tC (.int 340282366920938463463374607431768211507))) (gName 2))
  (tRet (tOp (rI (fun _ j => 0 < j) fun i j => .int (i % j)) (tOp (rI IntMulOk fun i j => .int (i * j)) (tVar 2) (tVar 2)) (tC (.int 340282366920938463463374607431768211297)))))
def sp__law_drawn (K : PySem.W.Frag) (_ : Cs) : Sp := fun vs H Q _ => ∃ (c k : Int), vs = [.int c, .int k] ∧ ∀ r : Nat, r < 2 ^ 128 → upR Q (.int (r : Int)) H
theorem c__law_drawn {K : PySem.W.Frag} {cs : Cs} {H : Hp} {c k : Int} {Q : PV} {E : XK} (q : ∀ r : Nat, r < 2 ^ 128 → Q (.int (r : Int)) H) : kC (fun ws H Q => sp__law_drawn K cs ws H Q E) [.int c, .int k] H Q :=
  fun H1 e _ qq => ⟨c, k, rfl, fun r hr H2 e2 => qq _ _ _ (q r hr) (e.tr e2)⟩
local macro_rules | `(tactic| k_places) => `(tactic| (with_reducible refine' c__law_drawn (fun _ _ => ?_)))
theorem pure__law_drawn {K : PySem.W.Frag} {cs : Cs} {H : Hp} {vs : List V} {Q : VK} {E : XK} (h : sp__law_drawn K cs vs H Q E) : t__law_drawn K cs E { nx := fun _ H' => Q .non H', rt := Q } (start ["_law_cell_here", "_law_k", "_law_more"] vs) H := by
  obtain ⟨c, k, rfl, q⟩ := h
  refine fin (σ := [some (.int c), some (.int k), none]) ?_
  unfold t__law_drawn
  k_clsL
  generalize c * 6364136223846793005 + (k + 1) * 1442695040888963407 = z
  have hz0 : 0 ≤ z % 340282366920938463463374607431768211507 := Int.emod_nonneg _ (by decide)
  have hz1 : z % 340282366920938463463374607431768211507 < 340282366920938463463374607431768211507 := Int.emod_lt_of_pos _ (by decide)
  generalize z % 340282366920938463463374607431768211507 = y at *
  have hm : IntMulOk y y := by
    obtain ⟨n, rfl⟩ := Int.eq_ofNat_of_zero_le hz0
    exact mulw (a := 129) (b := 129) (by omega) (by omega) (by decide) (by decide) (by decide)
  k_clsL
  have h0 : 0 ≤ y * y % 340282366920938463463374607431768211297 := Int.emod_nonneg _ (by decide)
  have h1 : y * y % 340282366920938463463374607431768211297 < 340282366920938463463374607431768211297 := Int.emod_lt_of_pos _ (by decide)
  obtain ⟨n, hn⟩ := Int.eq_ofNat_of_zero_le h0
  rw [hn]
  exact q n (by omega)
theorem ok__law_drawn {P : Program} {w : World} {K : PySem.W.Frag} {mg : Str → Option Value} {base : Heap} {cs : Cs} (D__law_drawn : Dn K mg "_law_drawn" s__law_drawn ["_law_cell_here", "_law_k"]) :
    Cal P w K mg base (L2N.CX P w) 1 "_law_drawn" ["_law_cell_here", "_law_k"] (sp__law_drawn K cs) := by
  refine cal_mk D__law_drawn sc__law_drawn (fun vs H Q E h => ?_) fun f cdv A outer s H vs Q E hr h => ⟨t__law_drawn K cs E, ?_, pure__law_drawn h⟩
  · unfold sp__law_drawn at h
    first | (obtain ⟨rfl, _⟩ := h; rfl) | (obtain ⟨_, rfl, _⟩ := h; rfl) | (obtain ⟨_, _, rfl, _⟩ := h; rfl) | (obtain ⟨_, _, _, rfl, _⟩ := h; rfl) | (obtain ⟨_, _, _, _, rfl, _⟩ := h; rfl) | (obtain ⟨_, _, _, _, _, rfl, _⟩ := h; rfl) | (obtain ⟨_, _, _, _, _, _, rfl, _⟩ := h; rfl) | (obtain ⟨_, _, _, _, _, _, _, rfl, _⟩ := h; rfl) | (obtain ⟨_, _, _, _, _, _, _, _, rfl, _⟩ := h; rfl) | (obtain ⟨_, _, _, _, _, _, _, _, _, rfl, _⟩ := h; rfl) | (obtain ⟨_, _, _, _, _, _, _, _, _, _, rfl, _⟩ := h; rfl) | (obtain ⟨_, _, _, _, _, _, _, _, _, _, _, rfl, _⟩ := h; rfl) | (obtain ⟨_, _, _, _, _, _, _, _, _, _, _, _, rfl, _⟩ := h; rfl) | (obtain ⟨_, _, _, _, _, _, _, _, _, _, _, _, _, rfl, _⟩ := h; rfl) | (obtain ⟨_, _, _, _, _, _, _, _, _, _, _, _, _, _, rfl, _⟩ := h; rfl) | (obtain ⟨_, _, _, _, _, _, _, _, _, _, _, _, _, _, _, rfl, _⟩ := h; rfl)
  · exact (pss_cons (ps_set (i := 2) sc__law_drawn.nd rfl (Or.inl sc__law_drawn_v2) (pe_op op_mod (pe_op op_add (pe_op op_mulX (pv 0) pe_int) (pe_op op_mulX (pe_op op_add (pv 1) pe_int) pe_int)) pe_int))
      (pss_one (ps_ret (pe_op op_mod (pe_op op_mulX (pv 2) (pv 2)) pe_int))))
theorem sc__law_power : FnScope ["_law_size", "_law_many", "_law_found", "_law_turn"] ["_law_size", "_law_many"] (defScope s__law_power) := ⟨rfl, rfl, rfl, by decide +kernel, rfl, by decide +kernel, by decide +kernel⟩
theorem sc__law_power_v0 : (defScope s__law_power).names.lookup ("_law_size" : Str) = some .local := by decide +kernel
theorem sc__law_power_v1 : (defScope s__law_power).names.lookup ("_law_many" : Str) = some .local := by decide +kernel
theorem sc__law_power_v2 : (defScope s__law_power).names.lookup ("_law_found" : Str) = some .local := by decide +kernel
theorem sc__law_power_v3 : (defScope s__law_power).names.lookup ("_law_turn" : Str) = some .local := by decide +kernel
def t__law_power (K : PySem.W.Frag) (cs : Cs) (E : XK) : TS :=
  (tSeq (tAsg (tC (.int 1)) (gName 2))
  (tSeq (tFor (iRng1 (tCons (tVar 1) tNil)) (gName 3)
  (tAsg (tOp (rI IntMulOk fun i j => .int (i * j)) (tVar 2) (tVar 0)) (gName 2)))
  (tRet (tVar 2))))
def sp__law_power (K : PySem.W.Frag) (_ : Cs) : Sp := fun vs H Q _ => ∃ s m : Nat, vs = [.int (s : Int), .int (m : Int)] ∧ s ≤ 1000 ∧ m ≤ 1000 ∧ upR Q (.int ((s ^ m : Nat) : Int)) H
theorem c__law_power {K : PySem.W.Frag} {cs : Cs} {H : Hp} {s m : Nat} {i j : Int} {Q : PV} {E : XK} (hi : i = s) (hj : j = m) (hs : s ≤ 1000) (hm : m ≤ 1000) (k : Q (.int ((s ^ m : Nat) : Int)) H) : kC (fun ws H Q => sp__law_power K cs ws H Q E) [.int i, .int j] H Q := by
  subst hi hj
  exact fun H1 e _ q => ⟨s, m, rfl, hs, hm, fun H2 e2 => q _ _ _ k (e.tr e2)⟩
theorem pure__law_power {K : PySem.W.Frag} {cs : Cs} {H : Hp} {vs : List V} {Q : VK} {E : XK} (h : sp__law_power K cs vs H Q E) : t__law_power K cs E { nx := fun _ H' => Q .non H', rt := Q } (start ["_law_size", "_law_many", "_law_found", "_law_turn"] vs) H := by
  obtain ⟨s, m, rfl, hs, hm, q⟩ := h
  refine fin (σ := [some (.int (s : Int)), some (.int (m : Int)), none, none]) ?_
  unfold t__law_power
  k_clsL
  refine s_for ?_
  k_clsL
  refine ⟨by omega, fun i σ H1 => H1 = H ∧ ∃ z, σ = [some (.int (s : Int)), some (.int (m : Int)), some (.int ((s ^ i : Nat) : Int)), z], ⟨rfl, none, rfl⟩, fun _ _ _ _ _ => trivial, ?_, ?_⟩
  · rintro i σ H1 hi ⟨rfl, z, rfl⟩
    refine g_name ?_
    k_clsL
    refine ⟨_, ⟨rfl, some (.int (i : Nat)), ?_⟩, Ex.rf⟩
    have e3 : ((s ^ i : Nat) : Int) * (s : Int) = ((s ^ (i + 1) : Nat) : Int) := by
      rw [Nat.pow_succ]
      push_cast
      rfl
    rw [e3]
    rfl
  · rintro σ H1 ⟨rfl, z, rfl⟩
    k_clsL
    exact q
theorem ok__law_power {P : Program} {w : World} {K : PySem.W.Frag} {mg : Str → Option Value} {base : Heap} {cs : Cs} (D__law_power : Dn K mg "_law_power" s__law_power ["_law_size", "_law_many"]) (m_range : mg "range" = none) :
    Cal P w K mg base (L2N.CX P w) 1 "_law_power" ["_law_size", "_law_many"] (sp__law_power K cs) := by
  refine cal_mk D__law_power sc__law_power (fun vs H Q E h => ?_) fun f cdv A outer s H vs Q E hr h => ⟨t__law_power K cs E, ?_, pure__law_power h⟩
  · unfold sp__law_power at h
    first | (obtain ⟨rfl, _⟩ := h; rfl) | (obtain ⟨_, rfl, _⟩ := h; rfl) | (obtain ⟨_, _, rfl, _⟩ := h; rfl) | (obtain ⟨_, _, _, rfl, _⟩ := h; rfl) | (obtain ⟨_, _, _, _, rfl, _⟩ := h; rfl) | (obtain ⟨_, _, _, _, _, rfl, _⟩ := h; rfl) | (obtain ⟨_, _, _, _, _, _, rfl, _⟩ := h; rfl) | (obtain ⟨_, _, _, _, _, _, _, rfl, _⟩ := h; rfl) | (obtain ⟨_, _, _, _, _, _, _, _, rfl, _⟩ := h; rfl) | (obtain ⟨_, _, _, _, _, _, _, _, _, rfl, _⟩ := h; rfl) | (obtain ⟨_, _, _, _, _, _, _, _, _, _, rfl, _⟩ := h; rfl) | (obtain ⟨_, _, _, _, _, _, _, _, _, _, _, rfl, _⟩ := h; rfl) | (obtain ⟨_, _, _, _, _, _, _, _, _, _, _, _, rfl, _⟩ := h; rfl) | (obtain ⟨_, _, _, _, _, _, _, _, _, _, _, _, _, rfl, _⟩ := h; rfl) | (obtain ⟨_, _, _, _, _, _, _, _, _, _, _, _, _, _, rfl, _⟩ := h; rfl) | (obtain ⟨_, _, _, _, _, _, _, _, _, _, _, _, _, _, _, rfl, _⟩ := h; rfl)
  · exact (pss_cons (ps_set (i := 2) sc__law_power.nd rfl (Or.inl sc__law_power_v2) pe_int)
      (pss_cons (ps_for (passes_of rfl) rfl (pi_range1 (by rfl) m_range (pa_cons (pv 1) pa_nil)) (pg_name (i := 3) sc__law_power.nd rfl (Or.inl sc__law_power_v3))
      (pss_one (ps_set (i := 2) sc__law_power.nd rfl (Or.inl sc__law_power_v2) (pe_op op_mulX (pv 2) (pv 0)))))
      (pss_one (ps_ret (pv 2)))))
theorem sc__law_heights : FnScope ["_law_size", "_law_many", "_law_found", "_law_number", "_law_counts", "_law_j"] ["_law_size", "_law_many"] (defScope s__law_heights) := ⟨rfl, rfl, rfl, by decide +kernel, rfl, by decide +kernel, by decide +kernel⟩
theorem sc__law_heights_v0 : (defScope s__law_heights).names.lookup ("_law_size" : Str) = some .local := by decide +kernel
theorem sc__law_heights_v1 : (defScope s__law_heights).names.lookup ("_law_many" : Str) = some .local := by decide +kernel
theorem sc__law_heights_v2 : (defScope s__law_heights).names.lookup ("_law_found" : Str) = some .local := by decide +kernel
theorem sc__law_heights_v3 : (defScope s__law_heights).names.lookup ("_law_number" : Str) = some .local := by decide +kernel
theorem sc__law_heights_v4 : (defScope s__law_heights).names.lookup ("_law_counts" : Str) = some .local := by decide +kernel
theorem sc__law_heights_v5 : (defScope s__law_heights).names.lookup ("_law_j" : Str) = some .local := by decide +kernel
def t__law_heights (K : PySem.W.Frag) (cs : Cs) (E : XK) : TS :=
  (tSeq (tAsg (tOp rRep (tLst (tCons (tC (.int 0)) tNil)) (tOp (rI0 fun i j => .int (i + j)) (tVar 1) (tC (.int 1)))) (gName 2))
  (tSeq (tFor (iRng1 (tCons (tCall (sp__law_power K cs) [] E0 (tCons (tVar 0) (tCons (tVar 1) tNil))) tNil)) (gName 3)
  (tSeq (tAsg (tOp rRep (tLst (tCons (tC (.int 0)) tNil)) (tVar 0)) (gName 4))
  (tSeq (tFor (iRng1 (tCons (tVar 1) tNil)) (gName 5)
  (tSeq (tAsg (tOp (rI0 fun i j => .int (i + j)) (tOp (rIxL K) (tVar 4) (tOp (rI (fun _ j => 0 < j) fun i j => .int (i % j)) (tVar 3) (tVar 0))) (tC (.int 1))) (gSub (tVar 4) (tOp (rI (fun _ j => 0 < j) fun i j => .int (i % j)) (tVar 3) (tVar 0)) rSetL))
  (tAsg (tOp (rI CDivW fun i j => .int (i / j)) (tVar 3) (tVar 0)) (gName 3))))
  (tAsg (tOp (rI0 fun i j => .int (i + j)) (tOp (rIxL K) (tVar 2) (tCB (rMax K) (tCons (tVar 4) tNil))) (tC (.int 1))) (gSub (tVar 2) (tCB (rMax K) (tCons (tVar 4) tNil)) rSetL)))))
  (tRet (tVar 2))))
theorem digs_snoc (s : Nat) : ∀ j c, digs s (j + 1) c = ((digs s j c).1.set ((digs s j c).2 % s) ((digs s j c).1.getD ((digs s j c).2 % s) 0 + 1), (digs s j c).2 / s)
  | 0, c => rfl
  | j + 1, c => by
    rw [digs, digs_snoc s j]
    rfl
theorem digs_len (s : Nat) : ∀ j c, (digs s j c).1.length = c.1.length
  | 0, _ => rfl
  | j + 1, c => by rw [digs, digs_len s j]; simp
theorem digs_le (s n : Nat) : ∀ j, ∀ x ∈ (digs s j (List.replicate s 0, n)).1, x ≤ j
  | 0, x, h => by
    have := (List.mem_replicate.mp h).2
    omega
  | j + 1, x, h => by
    rw [digs_snoc] at h
    rcases List.mem_or_eq_of_mem_set h with h | h
    · exact Nat.le_succ_of_le (digs_le s n j x h)
    · rw [h, List.getD_eq_getElem?_getD]
      cases e : (digs s j (List.replicate s 0, n)).1[(digs s j (List.replicate s 0, n)).2 % s]? with
      | none => simp
      | some y =>
        have := digs_le s n j y (List.mem_of_getElem? e)
        simpa using this
theorem foldl_max_mem : ∀ (l : List Nat) (a : Nat), l.foldl Nat.max a = a ∨ l.foldl Nat.max a ∈ l
  | [], _ => .inl rfl
  | b :: l, a => by
    rw [List.foldl_cons]
    rcases foldl_max_mem l (Nat.max a b) with h | h
    · rcases Nat.le_total a b with z | z
      · rw [h, show Nat.max a b = b from Nat.max_eq_right z]
        exact .inr List.mem_cons_self
      · rw [h, show Nat.max a b = a from Nat.max_eq_left z]
        exact .inl rfl
    · exact .inr (List.mem_cons_of_mem _ h)
theorem foldl_max_ge : ∀ (l : List Nat) (a : Nat), a ≤ l.foldl Nat.max a ∧ ∀ x ∈ l, x ≤ l.foldl Nat.max a
  | [], a => ⟨Nat.le_refl _, fun _ h => absurd h List.not_mem_nil⟩
  | b :: l, a => by
    rw [List.foldl_cons]
    obtain ⟨h1, h2⟩ := foldl_max_ge l (Nat.max a b)
    have ha : a ≤ Nat.max a b := Nat.le_max_left a b
    have hb : b ≤ Nat.max a b := Nat.le_max_right a b
    refine ⟨Nat.le_trans ha h1, fun x hx => ?_⟩
    rcases List.mem_cons.mp hx with rfl | hx
    · exact Nat.le_trans hb h1
    · exact h2 x hx
theorem max_is {l : List Nat} {m : Int} (hm : m ∈ nI l) (hy : ∀ y ∈ nI l, y ≤ m) : m = ((l.foldl Nat.max 0 : Nat) : Int) := by
  obtain ⟨n, h1, rfl⟩ := List.mem_map.mp hm
  have a := (foldl_max_ge l 0).2 n h1
  rcases foldl_max_mem l 0 with h | h
  · rw [h] at a ⊢
    omega
  · have := hy _ (List.mem_map.mpr ⟨_, h, rfl⟩)
    omega
theorem maxd_le (s m n : Nat) : maxd s m n ≤ m := by
  unfold maxd
  rcases foldl_max_mem (digs s m (List.replicate s 0, n)).1 0 with h | h
  · rw [h]; exact Nat.zero_le _
  · exact digs_le s n m _ h
def htsI (s m i : Nat) : List Nat := (List.range (m + 1)).map fun j => cntR (fun number => maxd s m number == j) i
theorem htsI_set (s m i : Nat) : htsI s m (i + 1) = (htsI s m i).set (maxd s m i) (cntR (fun number => maxd s m number == maxd s m i) i + 1) := by
  refine List.ext_getElem (by simp [htsI]) fun j h1 h2 => ?_
  have hj : j < m + 1 := by simpa [htsI] using h1
  rw [List.getElem_set]
  by_cases e : maxd s m i = j
  · rw [if_pos e]
    simp [htsI, cntR, e]
  · rw [if_neg e]
    simp [htsI, cntR, e]
theorem nI_set {l : List Nat} {j x : Nat} : (nI (l.set j x)).map V.int = ((nI l).map V.int).set j (.int (x : Int)) := by
  simp [nI, List.map_set]
def sp__law_heights (K : PySem.W.Frag) (_ : Cs) : Sp := fun vs H Q _ => ∃ s m : Nat, vs = [.int (s : Int), .int (m : Int)] ∧ 2 ≤ s ∧ s ≤ 64 ∧ m ≤ 64 ∧ s ^ m < 2 ^ 20 ∧ ∀ (H' : Hp) (p : Addr), Ex H H' → H p = none → H' p = some (.lst ((nI (hts s m)).map V.int)) → upR Q (.ref p) H'
theorem c__law_heights {K : PySem.W.Frag} {cs : Cs} {H : Hp} {s m : Nat} {i j : Int} {Q : PV} {E : XK} (hi : i = s) (hj : j = m) (h2 : 2 ≤ s) (hs : s ≤ 64) (hm : m ≤ 64) (hp : s ^ m < 2 ^ 20) (k : ∀ (H' : Hp) (p : Addr), Ex H H' → H p = none → H' p = some (.lst ((nI (hts s m)).map V.int)) → Q (.ref p) H') :
    kC (fun ws H Q => sp__law_heights K cs ws H Q E) [.int i, .int j] H Q := by
  subst hi hj
  exact fun H1 e _ q => ⟨s, m, rfl, h2, hs, hm, hp, fun H' p e1 hpp hl H2 e2 => q _ _ _ (k H' p (e.tr e1) (e.fresh hpp) hl) e2⟩
theorem ixN_nat {n j : Nat} (h : j < n) : ixN n (j : Int) = some j := by
  unfold ixN
  rw [if_pos (by omega), if_pos (by omega), Int.toNat_natCast]
theorem pure__law_heights {K : PySem.W.Frag} {cs : Cs} {H : Hp} {vs : List V} {Q : VK} {E : XK} (h : sp__law_heights K cs vs H Q E) : t__law_heights K cs E { nx := fun _ H' => Q .non H', rt := Q } (start ["_law_size", "_law_many", "_law_found", "_law_number", "_law_counts", "_law_j"] vs) H := by
  obtain ⟨s, m, rfl, h2, hs, hm, hp, q⟩ := h
  refine fin (σ := [some (.int (s : Int)), some (.int (m : Int)), none, none, none, none]) ?_
  unfold t__law_heights
  k_clsL
  rename_i a1 ha1
  have em : (m : Int) + 1 = ((m + 1 : Nat) : Int) := rfl
  rw [em]
  refine r_rep1 (x := .int 0) (n := m + 1) (by k_memK) (by omega) fun f hf => ?_
  k_clsL
  refine s_for ?_
  k_clsL
  refine c__law_power rfl rfl (by omega) (by omega) ?_
  k_clsL
  refine ⟨by omega, fun i σ H1 => Ex H H1 ∧ ∃ z3 z4 z5, σ = [some (.int (s : Int)), some (.int (m : Int)), some (.ref f), z3, z4, z5] ∧ H1 f = some (.lst ((nI (htsI s m i)).map V.int)), ⟨by k_offL, none, none, none, rfl, ?_⟩, fun _ _ _ _ _ => trivial, ?_, ?_⟩
  · rw [upd_same]
    congr 2
    unfold htsI
    rw [nI_map]
    refine List.ext_getElem (by simp) fun i h1 h2 => ?_
    simp [cntR]
  · rintro i σ H1 hi ⟨e1, z3, z4, z5, rfl, hf1⟩
    refine g_name ?_
    k_clsL
    rename_i a2 ha2
    refine r_rep1 (x := .int 0) (n := s) (by k_memK) (by omega) fun c hc => ?_
    k_clsL
    refine s_for ?_
    k_clsL
    refine ⟨by omega, fun j σ H2 => Ex H1 H2 ∧ ∃ z5, σ = [some (.int (s : Int)), some (.int (m : Int)), some (.ref f), some (.int (((digs s j (List.replicate s 0, i)).2 : Nat) : Int)), some (.ref c), z5] ∧ H2 c = some (.lst ((nI (digs s j (List.replicate s 0, i)).1).map V.int)), ⟨by k_offL, z5, rfl, ?_⟩, fun _ _ _ _ _ => trivial, ?_, ?_⟩
    · rw [upd_same]
      congr 2
      simp [digs, nI]
    · rintro j σ H2 hj ⟨e2, z5, rfl, hc2⟩
      have hlen : (digs s j (List.replicate s 0, i)).1.length = s := by rw [digs_len]; simp
      have hsn := digs_snoc s j (List.replicate s 0, i)
      generalize (digs s j (List.replicate s 0, i)) = st at *
      obtain ⟨cl, nn⟩ := st
      dsimp only at hlen hsn hc2 ⊢
      have hmod : nn % s < cl.length := by rw [hlen]; exact Nat.mod_lt _ (by omega)
      have hget : ((nI cl).map V.int)[nn % s]? = some (.int ((cl.getD (nn % s) 0 : Nat) : Int)) := by
        rw [nI_v, List.getElem?_map, List.getD_eq_getElem?_getD, List.getElem?_eq_getElem hmod]
        rfl
      refine g_name ?_
      k_clsL
      refine r_ixL (SqL.of hc2) (atI_mod hget) ?_
      k_clsL
      refine g_subL ?_
      k_clsL
      refine ⟨c, _, _, nn % s, rfl, rfl, hc2, ?_, ?_⟩
      · rw [List.length_map, nI_len, ← Int.natCast_emod]
        exact ixN_nat hmod
      · k_clsL
        refine ⟨_, ⟨e2.mutr (Ex.fresh (by k_offL) hc), some (.int (j : Nat)), ?_, ?_⟩, Ex.rf⟩
        · rw [hsn, Int.natCast_ediv]
          rfl
        · rw [upd_same, hsn]
          congr 2
          rw [nI_set]
          rfl
    · rintro σ H2 ⟨e2, z5, rfl, hc2⟩
      have hmx := maxd_le s m i
      have hf2 := e2 _ _ hf1
      have hml : maxd s m i < (htsI s m i).length := by simp [htsI]; omega
      have hget : ((nI (htsI s m i)).map V.int)[maxd s m i]? = some (.int ((cntR (fun number => maxd s m number == maxd s m i) i : Nat) : Int)) := by
        unfold htsI
        rw [nI_map, List.getElem?_map, List.getElem?_range (by omega)]
        rfl
      have h0 : 0 < (nI (digs s m (List.replicate s 0, i)).1).length := by rw [nI_len, digs_len]; simp; omega
      k_clsL
      refine c_maxL (SqL.of hc2) h0 fun mx h1 h3 => ?_
      obtain rfl := max_is h1 h3
      refine r_ixL (SqL.of hf2) (atI_nat hget) ?_
      k_clsL
      refine g_subL ?_
      k_clsL
      refine c_maxL (SqL.of hc2) h0 fun mx h4 h5 => ?_
      obtain rfl := max_is h4 h5
      refine ⟨f, _, _, maxd s m i, rfl, rfl, hf2, ?_, ?_⟩
      · rw [List.length_map, nI_len]
        exact ixN_nat hml
      · refine ⟨_, ⟨(e1.tr e2).mutr (Ex.fresh (by k_offL) hf), _, _, _, rfl, ?_⟩, Ex.rf⟩
        rw [upd_same, htsI_set, nI_set]
        rfl
  · rintro σ H1 ⟨e1, z3, z4, z5, rfl, hf1⟩
    k_clsL
    exact q H1 f e1 (Ex.fresh (by k_offL) hf) hf1
theorem ok__law_heights {P : Program} {w : World} {K : PySem.W.Frag} {mg : Str → Option Value} {base : Heap} {cs : Cs} (D__law_heights : Dn K mg "_law_heights" s__law_heights ["_law_size", "_law_many"]) (cal__law_power : Cal P w K mg base (L2N.CX P w) 1 "_law_power" ["_law_size", "_law_many"] (sp__law_power K cs)) (m_range : mg "range" = none) (m_max : mg "max" = none) :
    Cal P w K mg base (L2N.CX P w) 2 "_law_heights" ["_law_size", "_law_many"] (sp__law_heights K cs) := by
  refine cal_mk D__law_heights sc__law_heights (fun vs H Q E h => ?_) fun f cdv A outer s H vs Q E hr h => ⟨t__law_heights K cs E, ?_, pure__law_heights h⟩
  · unfold sp__law_heights at h
    first | (obtain ⟨rfl, _⟩ := h; rfl) | (obtain ⟨_, rfl, _⟩ := h; rfl) | (obtain ⟨_, _, rfl, _⟩ := h; rfl) | (obtain ⟨_, _, _, rfl, _⟩ := h; rfl) | (obtain ⟨_, _, _, _, rfl, _⟩ := h; rfl) | (obtain ⟨_, _, _, _, _, rfl, _⟩ := h; rfl) | (obtain ⟨_, _, _, _, _, _, rfl, _⟩ := h; rfl) | (obtain ⟨_, _, _, _, _, _, _, rfl, _⟩ := h; rfl) | (obtain ⟨_, _, _, _, _, _, _, _, rfl, _⟩ := h; rfl) | (obtain ⟨_, _, _, _, _, _, _, _, _, rfl, _⟩ := h; rfl) | (obtain ⟨_, _, _, _, _, _, _, _, _, _, rfl, _⟩ := h; rfl) | (obtain ⟨_, _, _, _, _, _, _, _, _, _, _, rfl, _⟩ := h; rfl) | (obtain ⟨_, _, _, _, _, _, _, _, _, _, _, _, rfl, _⟩ := h; rfl) | (obtain ⟨_, _, _, _, _, _, _, _, _, _, _, _, _, rfl, _⟩ := h; rfl) | (obtain ⟨_, _, _, _, _, _, _, _, _, _, _, _, _, _, rfl, _⟩ := h; rfl) | (obtain ⟨_, _, _, _, _, _, _, _, _, _, _, _, _, _, _, rfl, _⟩ := h; rfl)
  · exact (pss_cons (ps_set (i := 2) sc__law_heights.nd rfl (Or.inl sc__law_heights_v2) (pe_op op_rep (pe_lst (pa_cons pe_int pa_nil)) (pe_op op_add (pv 1) pe_int)))
      (pss_cons (ps_for (passes_of rfl) rfl (pi_range1 (by rfl) m_range (pa_cons (pe_cal cal__law_power hr (by decide) (by rfl) passN (pa_cons (pv 0) (pa_cons (pv 1) pa_nil))) pa_nil)) (pg_name (i := 3) sc__law_heights.nd rfl (Or.inl sc__law_heights_v3))
      (pss_cons (ps_set (i := 4) sc__law_heights.nd rfl (Or.inl sc__law_heights_v4) (pe_op op_rep (pe_lst (pa_cons pe_int pa_nil)) (pv 0)))
      (pss_cons (ps_for (passes_of rfl) rfl (pi_range1 (by rfl) m_range (pa_cons (pv 1) pa_nil)) (pg_name (i := 5) sc__law_heights.nd rfl (Or.inl sc__law_heights_v5))
      (pss_cons (ps_asg (pe_op op_add (pe_ix ix_list (pv 4) (pe_op op_mod (pv 3) (pv 0)) (fun _ _ => rfl)) pe_int) (pg_sub (pv 4) (pe_op op_mod (pv 3) (pv 0)) set_list))
      (pss_one (ps_set (i := 3) sc__law_heights.nd rfl (Or.inl sc__law_heights_v3) (pe_op op_fdivW (pv 3) (pv 0))))))
      (pss_one (ps_asg (pe_op op_add (pe_ix ix_list (pv 2) (pe_callB (cr_max rfl) (by rfl) m_max (by decide +kernel) (pa_cons (pv 4) pa_nil)) (fun _ _ => rfl)) pe_int) (pg_sub (pv 2) (pe_callB (cr_max rfl) (by rfl) m_max (by decide +kernel) (pa_cons (pv 4) pa_nil)) set_list))))))
      (pss_one (ps_ret (pv 2)))))
theorem sc__law_word : FnScope ["_law_e", "_law_flags", "_law_flag"] ["_law_e"] (defScope s__law_word) := ⟨rfl, rfl, rfl, by decide +kernel, rfl, by decide +kernel, by decide +kernel⟩
theorem sc__law_word_v0 : (defScope s__law_word).names.lookup ("_law_e" : Str) = some .local := by decide +kernel
theorem sc__law_word_v1 : (defScope s__law_word).names.lookup ("_law_flags" : Str) = some .local := by decide +kernel
def t__law_word (K : PySem.W.Frag) (cs : Cs) (D a : Addr) : TS :=
  (tSeq (tAsg (tLst (tCons (tCB (rIsE K D a) (tCons (tVar 0) (tCons (tC (.ref cs.BadRule)) tNil))) (tCons (tCB (rIsE K D a) (tCons (tVar 0) (tCons (tC (.ref cs.BadKey)) tNil))) (tCons (tCB (rIsE K D a) (tCons (tVar 0) (tCons (tC (.ref cs.BadSize)) tNil))) tNil)))) (gName 1))
  (tSeq (tAsg (tOp rCat (tVar 1) (tLst (tCons (tCB (rIsE K D a) (tCons (tVar 0) (tCons (tC (.ref cs.Full)) tNil))) tNil))) (gName 1))
  (tSeq (tDrop (tBM K "list" rAppend (tVar 1) (tCons (tCB (rIsE K D a) (tCons (tVar 0) (tCons (tC (.ref cs.TooMany)) tNil))) tNil)))
  (tSeq (tIfS (tOr (tTest (tOp rNe (tCB (rSum K) (tCons (tHotInts K (tVar 1)) tNil)) (tC (.int 1)))) (tNot (tB (tCB (rIsE K D a) (tCons (tVar 0) (tCons (tC (.ty "ValueError")) tNil))))))
  (tRet (tC (.str "other")))
  tNext)
  (tRet (tOp (rIxL K) (tLst (tCons (tC (.str "BadRule")) (tCons (tC (.str "BadKey")) (tCons (tC (.str "BadSize")) (tCons (tC (.str "Full")) (tCons (tC (.str "TooMany")) tNil)))))) (tBM K "list" (rIndex K) (tVar 1) (tCons (tC (.bl true)) tNil))))))))
local macro_rules | `(tactic| k_places) => `(tactic| first
  | ((with_reducible refine' c_isHr ?k1 ?_); (case k1 => assumption)) | ((with_reducible refine' c_isHt ?k1 ?_); (case k1 => assumption)) | (with_reducible refine' e_hot ?_))
theorem pure__law_word {K : PySem.W.Frag} {cs : Cs} {H : Hp} {c a : Addr} {nm : Str} {Q : VK} (kw : KitW K cs) (hw : wordOf cs c nm) (q : upR Q (.str nm) H) : t__law_word K cs c a { nx := fun _ H' => Q .non H', rt := Q } (start ["_law_e", "_law_flags", "_law_flag"] [.ref a]) H := by
  refine fin (σ := [some (.ref a), none, none]) ?_
  unfold t__law_word
  rcases hw with ⟨rfl, rfl⟩ | ⟨rfl, rfl⟩ | ⟨rfl, rfl⟩ | ⟨rfl, rfl⟩ | ⟨rfl, rfl⟩
  · obtain ⟨_, k1, k2, k3, k4, k5, kv⟩ := kw.r
    k_clsL
    refine ⟨_, [true, false, false, false, false], rfl, SqL.of upd_same, by decide, fun _ _ => ?_⟩
    k_clsL
    refine c_sum (ns := [1, 0, 0, 0, 0]) (SqL.of upd_same) ?_
    k_clsL
    refine m_index (j := 0) (z := .bl true) (by k_memK) rfl rfl rfl rfl (fun m z' hm hz => ?_) ?_
    · match m, hm with
      | m, hm => exact absurd hm (Nat.not_lt_zero m)
    k_clsL
    exact upX q (by k_offL)
  · obtain ⟨_, k1, k2, k3, k4, k5, kv⟩ := kw.k
    k_clsL
    refine ⟨_, [false, true, false, false, false], rfl, SqL.of upd_same, by decide, fun _ _ => ?_⟩
    k_clsL
    refine c_sum (ns := [0, 1, 0, 0, 0]) (SqL.of upd_same) ?_
    k_clsL
    refine m_index (j := 1) (z := .bl true) (by k_memK) rfl rfl rfl rfl (fun m z' hm hz => ?_) ?_
    · match m, hm with
      | 0, _ => cases hz; rfl
    k_clsL
    exact upX q (by k_offL)
  · obtain ⟨_, k1, k2, k3, k4, k5, kv⟩ := kw.s
    k_clsL
    refine ⟨_, [false, false, true, false, false], rfl, SqL.of upd_same, by decide, fun _ _ => ?_⟩
    k_clsL
    refine c_sum (ns := [0, 0, 1, 0, 0]) (SqL.of upd_same) ?_
    k_clsL
    refine m_index (j := 2) (z := .bl true) (by k_memK) rfl rfl rfl rfl (fun m z' hm hz => ?_) ?_
    · match m, hm with
      | 0, _ => cases hz; rfl
      | 1, _ => cases hz; rfl
    k_clsL
    exact upX q (by k_offL)
  · obtain ⟨_, k1, k2, k3, k4, k5, kv⟩ := kw.f
    k_clsL
    refine ⟨_, [false, false, false, true, false], rfl, SqL.of upd_same, by decide, fun _ _ => ?_⟩
    k_clsL
    refine c_sum (ns := [0, 0, 0, 1, 0]) (SqL.of upd_same) ?_
    k_clsL
    refine m_index (j := 3) (z := .bl true) (by k_memK) rfl rfl rfl rfl (fun m z' hm hz => ?_) ?_
    · match m, hm with
      | 0, _ => cases hz; rfl
      | 1, _ => cases hz; rfl
      | 2, _ => cases hz; rfl
    k_clsL
    exact upX q (by k_offL)
  · obtain ⟨_, k1, k2, k3, k4, k5, kv⟩ := kw.m
    k_clsL
    refine ⟨_, [false, false, false, false, true], rfl, SqL.of upd_same, by decide, fun _ _ => ?_⟩
    k_clsL
    refine c_sum (ns := [0, 0, 0, 0, 1]) (SqL.of upd_same) ?_
    k_clsL
    refine m_index (j := 4) (z := .bl true) (by k_memK) rfl rfl rfl rfl (fun m z' hm hz => ?_) ?_
    · match m, hm with
      | 0, _ => cases hz; rfl
      | 1, _ => cases hz; rfl
      | 2, _ => cases hz; rfl
      | 3, _ => cases hz; rfl
    k_clsL
    exact upX q (by k_offL)
theorem ok__law_word {P : Program} {w : World} {K : PySem.W.Frag} {mg : Str → Option Value} {base : Heap} {cs : Cs} (D__law_word : Dn K mg "_law_word" s__law_word ["_law_e"]) (kw : KitW K cs) (m_isinstance : mg "isinstance" = none) (m_int : mg "int" = none) (m_sum : mg "sum" = none) (m_ValueError : mg "ValueError" = none) (x_BadRule : ExcT K mg "BadRule" cs.BadRule) (x_BadKey : ExcT K mg "BadKey" cs.BadKey) (x_BadSize : ExcT K mg "BadSize" cs.BadSize) (x_Full : ExcT K mg "Full" cs.Full) (x_TooMany : ExcT K mg "TooMany" cs.TooMany) :
    CalX P w K mg base 1 "_law_word" ["_law_e"] (sp_word cs) := by
  refine calX_mk D__law_word sc__law_word fun f cdv A outer s H vs Q E p hot hr h => ?_
  obtain ⟨c, nm, rfl, h1, h2, hw, q⟩ := h
  have ex : ExcC K c := kw.exc hw
  obtain ⟨hh, vs, hd, hn⟩ := id hot
  have hfl : ∃ vs, p.2.data = .fields vs := ⟨vs, hd⟩
  have hc : HotC (cxH (L2N.CX P w) P w K mg base ["_law_e", "_law_flags", "_law_flag"] "_law_word" (defScope s__law_word) f cdv A outer s H E p) := ⟨p, hot, List.mem_cons_self⟩
  refine ⟨t__law_word K cs c p.1, ?_, pure__law_word kw hw q⟩
  exact (pss_cons (ps_set (i := 1) sc__law_word.nd rfl (Or.inl sc__law_word_v1) (pe_lst (pa_cons (pe_callB (call_isH ex h1 h2 hfl List.mem_cons_self) (by rfl) m_isinstance (by decide +kernel) (pa_cons (pv 0) (pa_cons (pe_glob (by rfl) x_BadRule.g rfl) pa_nil))) (pa_cons (pe_callB (call_isH ex h1 h2 hfl List.mem_cons_self) (by rfl) m_isinstance (by decide +kernel) (pa_cons (pv 0) (pa_cons (pe_glob (by rfl) x_BadKey.g rfl) pa_nil))) (pa_cons (pe_callB (call_isH ex h1 h2 hfl List.mem_cons_self) (by rfl) m_isinstance (by decide +kernel) (pa_cons (pv 0) (pa_cons (pe_glob (by rfl) x_BadSize.g rfl) pa_nil))) pa_nil)))))
      (pss_cons (ps_set (i := 1) sc__law_word.nd rfl (Or.inl sc__law_word_v1) (pe_op op_cat (pv 1) (pe_lst (pa_cons (pe_callB (call_isH ex h1 h2 hfl List.mem_cons_self) (by rfl) m_isinstance (by decide +kernel) (pa_cons (pv 0) (pa_cons (pe_glob (by rfl) x_Full.g rfl) pa_nil))) pa_nil))))
      (pss_cons (ps_expr (pe_bm PySem.F.plainAttrs_list PySem.F.slot_list_append PySem.F.type_list_append mt_append (pv 1) (pa_cons (pe_callB (call_isH ex h1 h2 hfl List.mem_cons_self) (by rfl) m_isinstance (by decide +kernel) (pa_cons (pv 0) (pa_cons (pe_glob (by rfl) x_TooMany.g rfl) pa_nil))) pa_nil)))
      (pss_cons (ps_if (PW.pt (pw_or (pt_cmpR op_ne (pe_callB (cr_sumH hc) (by rfl) m_sum (by decide +kernel) (pa_cons (pe_hotInts hc (pv 1) m_int (by decide +kernel) (by decide +kernel) rfl (by decide +kernel) (by decide +kernel) (by decide +kernel) (by decide) (fun _ => rfl)) pa_nil)) pe_int (nomark _)) (pw_or1 (pt_not (pt_val (pe_callB (call_isH ex h1 h2 hfl List.mem_cons_self) (by rfl) m_isinstance (by decide +kernel) (pa_cons (pv 0) (pa_cons (pe_bltn (v := .ty "ValueError") (by rfl) m_ValueError (by decide +kernel) rfl) pa_nil))))))))
      (pss_one (ps_ret pe_str))
      pss_nil)
      (pss_one (ps_ret (pe_ix ix_list (pe_lst (pa_cons pe_str (pa_cons pe_str (pa_cons pe_str (pa_cons pe_str (pa_cons pe_str pa_nil)))))) (pe_bm PySem.F.plainAttrs_list PySem.F.slot_list_index PySem.F.type_list_index mt_index (pv 1) (pa_cons pe_bl pa_nil)) (fun _ _ => rfl))))))))
theorem sc_is_count : FnScope ["thing", "least", "most"] ["thing", "least", "most"] (defScope s_is_count) := ⟨rfl, rfl, rfl, by decide +kernel, rfl, by decide +kernel, by decide +kernel⟩
theorem sc_is_count_v0 : (defScope s_is_count).names.lookup ("thing" : Str) = some .local := by decide +kernel
theorem sc_is_count_v1 : (defScope s_is_count).names.lookup ("least" : Str) = some .local := by decide +kernel
theorem sc_is_count_v2 : (defScope s_is_count).names.lookup ("most" : Str) = some .local := by decide +kernel
def t_is_count (K : PySem.W.Frag) (cs : Cs) (E : XK) : TS :=
  (tRet (tAndV (tCB (rIsi K) (tCons (tVar 0) (tCons (tC (.ty "int")) tNil))) (tAndV (tNotV (tCB (rIsi K) (tCons (tVar 0) (tCons (tC (.ty "bool")) tNil)))) (tChain (rI0 fun i j => .bl (decide (i ≤ j))) (rI0 fun i j => .bl (decide (i ≤ j))) (tVar 1) (tVar 0) (tVar 2)))))
def sp_is_count (K : PySem.W.Frag) (_ : Cs) : Sp := fun vs H Q _ => ∃ x T lo hi, vs = [x, .int lo, .int hi] ∧ Ty5 K H x T ∧ upR Q (.bl (cnt x lo hi)) H
theorem c_is_count {K : PySem.W.Frag} {cs : Cs} {H : Hp} {x : V} {T : String} {lo hi : Int} {Q : PV} {E : XK} (h : Ty5 K H x T) (k : Q (.bl (cnt x lo hi)) H) : kC (fun ws H Q => sp_is_count K cs ws H Q E) [x, .int lo, .int hi] H Q :=
  fun H1 e _ q => ⟨x, T, lo, hi, rfl, h.up e, fun H2 e2 => q _ _ _ k (e.tr e2)⟩
local macro_rules | `(tactic| k_places) => `(tactic| ((with_reducible refine' c_is_count ?k1 ?_); (case k1 => k_ownIn)))
theorem pure_is_count {K : PySem.W.Frag} {cs : Cs} {H : Hp} {vs : List V} {Q : VK} {E : XK} (h : sp_is_count K cs vs H Q E) : t_is_count K cs E { nx := fun _ H' => Q .non H', rt := Q } (start ["thing", "least", "most"] vs) H := by
  obtain ⟨x, T, lo, hi, rfl, h, q⟩ := h
  refine fin (σ := [some x, some (.int lo), some (.int hi)]) ?_
  unfold t_is_count
  cases h with
  | int i =>
    k_clsL
    refine ⟨fun h1 => ?_, fun h1 => ?_⟩
    · k_clsL
      exact upE q (by simp [cnt, h1])
    · k_clsL
      exact upE q (by simp [cnt, h1])
  | _ => k_clsL; exact q
theorem ok_is_count {P : Program} {w : World} {K : PySem.W.Frag} {mg : Str → Option Value} {base : Heap} {cs : Cs} (D_is_count : Dn K mg "is_count" s_is_count ["thing", "least", "most"]) (m_int : mg "int" = none) (m_isinstance : mg "isinstance" = none) (m_bool : mg "bool" = none) :
    Cal P w K mg base (L2N.CX P w) 1 "is_count" ["thing", "least", "most"] (sp_is_count K cs) := by
  refine cal_mk D_is_count sc_is_count (fun vs H Q E h => ?_) fun f cdv A outer s H vs Q E hr h => ⟨t_is_count K cs E, ?_, pure_is_count h⟩
  · unfold sp_is_count at h
    first | (obtain ⟨rfl, _⟩ := h; rfl) | (obtain ⟨_, rfl, _⟩ := h; rfl) | (obtain ⟨_, _, rfl, _⟩ := h; rfl) | (obtain ⟨_, _, _, rfl, _⟩ := h; rfl) | (obtain ⟨_, _, _, _, rfl, _⟩ := h; rfl) | (obtain ⟨_, _, _, _, _, rfl, _⟩ := h; rfl) | (obtain ⟨_, _, _, _, _, _, rfl, _⟩ := h; rfl) | (obtain ⟨_, _, _, _, _, _, _, rfl, _⟩ := h; rfl) | (obtain ⟨_, _, _, _, _, _, _, _, rfl, _⟩ := h; rfl) | (obtain ⟨_, _, _, _, _, _, _, _, _, rfl, _⟩ := h; rfl) | (obtain ⟨_, _, _, _, _, _, _, _, _, _, rfl, _⟩ := h; rfl) | (obtain ⟨_, _, _, _, _, _, _, _, _, _, _, rfl, _⟩ := h; rfl) | (obtain ⟨_, _, _, _, _, _, _, _, _, _, _, _, rfl, _⟩ := h; rfl) | (obtain ⟨_, _, _, _, _, _, _, _, _, _, _, _, _, rfl, _⟩ := h; rfl) | (obtain ⟨_, _, _, _, _, _, _, _, _, _, _, _, _, _, rfl, _⟩ := h; rfl) | (obtain ⟨_, _, _, _, _, _, _, _, _, _, _, _, _, _, _, rfl, _⟩ := h; rfl)
  · exact (pss_one (ps_ret (pe_and (pe_callB call_isi (by rfl) m_isinstance (by decide +kernel) (pa_cons (pv 0) (pa_cons (pe_bltn (v := .ty "int") (by rfl) m_int (by decide +kernel) rfl) pa_nil))) (pe_and (pe_not (pe_callB call_isi (by rfl) m_isinstance (by decide +kernel) (pa_cons (pv 0) (pa_cons (pe_bltn (v := .ty "bool") (by rfl) m_bool (by decide +kernel) rfl) pa_nil)))) (pe_one (pe_chain op_le op_le (pv 1) (pv 0) (pv 2)))))))
theorem sc_need_size : FnScope ["size"] ["size"] (defScope s_need_size) := ⟨rfl, rfl, rfl, by decide +kernel, rfl, by decide +kernel, by decide +kernel⟩
theorem sc_need_size_v0 : (defScope s_need_size).names.lookup ("size" : Str) = some .local := by decide +kernel
def t_need_size (K : PySem.W.Frag) (cs : Cs) (E : XK) : TS :=
  (tIfS (tNot (tB (tCall (sp_is_count K cs) [] E0 (tCons (tVar 0) (tCons (tC (.int 2)) (tCons (tC (.int 64)) tNil))))))
  (tRaise E cs.BadSize)
  tNext)
def sp_need_size (K : PySem.W.Frag) (cs : Cs) : Sp := fun vs H Q E => ∃ x T, vs = [x] ∧ Ty5 K H x T ∧ (cnt x 2 64 = true → upR Q .non H) ∧ (cnt x 2 64 = false → ∀ H2, Ex H H2 → E (.ref cs.BadSize) none H2)
theorem c_need_size {K : PySem.W.Frag} {cs : Cs} {H : Hp} {x : V} {T : String} {Q : PV} {E : XK} (h : Ty5 K H x T) (k : (cnt x 2 64 = true → Q .non H) ∧ (cnt x 2 64 = false → ∀ H2, Ex H H2 → E (.ref cs.BadSize) none H2)) : kC (fun ws H Q => sp_need_size K cs ws H Q E) [x] H Q :=
  fun H1 e _ q => ⟨x, T, rfl, h.up e, fun c H2 e2 => q _ _ _ (k.1 c) (e.tr e2), fun c H2 e2 => k.2 c H2 (e.tr e2)⟩
local macro_rules | `(tactic| k_places) => `(tactic| ((with_reducible refine' c_need_size ?k1 ?_); (case k1 => k_ownIn)))
theorem pure_need_size {K : PySem.W.Frag} {cs : Cs} {H : Hp} {vs : List V} {Q : VK} {E : XK} (h : sp_need_size K cs vs H Q E) : t_need_size K cs E { nx := fun _ H' => Q .non H', rt := Q } (start ["size"] vs) H := by
  obtain ⟨x, T, rfl, h, q, r⟩ := h
  refine fin (σ := [some x]) ?_
  unfold t_need_size
  k_clsL
  refine ⟨fun h1 => ?_, fun h1 => ?_⟩
  · exact s_raise (r (by simpa using h1))
  · k_clsL
    exact q (by simpa using h1)
theorem ok_need_size {P : Program} {w : World} {K : PySem.W.Frag} {mg : Str → Option Value} {base : Heap} {cs : Cs} (D_need_size : Dn K mg "need_size" s_need_size ["size"]) (cal_is_count : Cal P w K mg base (L2N.CX P w) 1 "is_count" ["thing", "least", "most"] (sp_is_count K cs)) (k_LEAST_SIZE : ∃ t, mg "LEAST_SIZE" = some (.int 2 t)) (k_MOST_SIZE : ∃ t, mg "MOST_SIZE" = some (.int 64 t)) (x_BadSize : ExcT K mg "BadSize" cs.BadSize) :
    Cal P w K mg base (L2N.CX P w) 2 "need_size" ["size"] (sp_need_size K cs) := by
  refine cal_mk D_need_size sc_need_size (fun vs H Q E h => ?_) fun f cdv A outer s H vs Q E hr h => ⟨t_need_size K cs E, ?_, pure_need_size h⟩
  · unfold sp_need_size at h
    first | (obtain ⟨rfl, _⟩ := h; rfl) | (obtain ⟨_, rfl, _⟩ := h; rfl) | (obtain ⟨_, _, rfl, _⟩ := h; rfl) | (obtain ⟨_, _, _, rfl, _⟩ := h; rfl) | (obtain ⟨_, _, _, _, rfl, _⟩ := h; rfl) | (obtain ⟨_, _, _, _, _, rfl, _⟩ := h; rfl) | (obtain ⟨_, _, _, _, _, _, rfl, _⟩ := h; rfl) | (obtain ⟨_, _, _, _, _, _, _, rfl, _⟩ := h; rfl) | (obtain ⟨_, _, _, _, _, _, _, _, rfl, _⟩ := h; rfl) | (obtain ⟨_, _, _, _, _, _, _, _, _, rfl, _⟩ := h; rfl) | (obtain ⟨_, _, _, _, _, _, _, _, _, _, rfl, _⟩ := h; rfl) | (obtain ⟨_, _, _, _, _, _, _, _, _, _, _, rfl, _⟩ := h; rfl) | (obtain ⟨_, _, _, _, _, _, _, _, _, _, _, _, rfl, _⟩ := h; rfl) | (obtain ⟨_, _, _, _, _, _, _, _, _, _, _, _, _, rfl, _⟩ := h; rfl) | (obtain ⟨_, _, _, _, _, _, _, _, _, _, _, _, _, _, rfl, _⟩ := h; rfl) | (obtain ⟨_, _, _, _, _, _, _, _, _, _, _, _, _, _, _, rfl, _⟩ := h; rfl)
  · exact (pss_one (ps_if (pt_not (pt_val (pe_cal cal_is_count hr (by decide) (by rfl) passN (pa_cons (pv 0) (pa_cons (pe_gI (n := 2) (by rfl) k_LEAST_SIZE) (pa_cons (pe_gI (n := 64) (by rfl) k_MOST_SIZE) pa_nil))))))
      (pss_one (ps_raiseT x_BadSize rfl (L2N.takes_of (E := E) rfl rfl rfl rfl) (by rfl)))
      pss_nil))
theorem sc_need_count : FnScope ["number", "least", "most"] ["number", "least", "most"] (defScope s_need_count) := ⟨rfl, rfl, rfl, by decide +kernel, rfl, by decide +kernel, by decide +kernel⟩
theorem sc_need_count_v0 : (defScope s_need_count).names.lookup ("number" : Str) = some .local := by decide +kernel
theorem sc_need_count_v1 : (defScope s_need_count).names.lookup ("least" : Str) = some .local := by decide +kernel
theorem sc_need_count_v2 : (defScope s_need_count).names.lookup ("most" : Str) = some .local := by decide +kernel
def t_need_count (K : PySem.W.Frag) (cs : Cs) (E : XK) : TS :=
  (tIfS (tNot (tB (tCall (sp_is_count K cs) [] E0 (tCons (tVar 0) (tCons (tVar 1) (tCons (tVar 2) tNil))))))
  (tRaise E cs.BadSize)
  tNext)
def sp_need_count (K : PySem.W.Frag) (cs : Cs) : Sp := fun vs H Q E => ∃ x T lo hi, vs = [x, .int lo, .int hi] ∧ Ty5 K H x T ∧ (cnt x lo hi = true → upR Q .non H) ∧ (cnt x lo hi = false → ∀ H2, Ex H H2 → E (.ref cs.BadSize) none H2)
theorem c_need_count {K : PySem.W.Frag} {cs : Cs} {H : Hp} {x : V} {T : String} {lo hi : Int} {Q : PV} {E : XK} (h : Ty5 K H x T) (k : (cnt x lo hi = true → Q .non H) ∧ (cnt x lo hi = false → ∀ H2, Ex H H2 → E (.ref cs.BadSize) none H2)) : kC (fun ws H Q => sp_need_count K cs ws H Q E) [x, .int lo, .int hi] H Q :=
  fun H1 e _ q => ⟨x, T, lo, hi, rfl, h.up e, fun c H2 e2 => q _ _ _ (k.1 c) (e.tr e2), fun c H2 e2 => k.2 c H2 (e.tr e2)⟩
local macro_rules | `(tactic| k_places) => `(tactic| ((with_reducible refine' c_need_count ?k1 ?_); (case k1 => k_ownIn)))
theorem pure_need_count {K : PySem.W.Frag} {cs : Cs} {H : Hp} {vs : List V} {Q : VK} {E : XK} (h : sp_need_count K cs vs H Q E) : t_need_count K cs E { nx := fun _ H' => Q .non H', rt := Q } (start ["number", "least", "most"] vs) H := by
  obtain ⟨x, T, lo, hi, rfl, h, q, r⟩ := h
  refine fin (σ := [some x, some (.int lo), some (.int hi)]) ?_
  unfold t_need_count
  k_clsL
  refine ⟨fun h1 => ?_, fun h1 => ?_⟩
  · exact s_raise (r (by simpa using h1))
  · k_clsL
    exact q (by simpa using h1)
theorem ok_need_count {P : Program} {w : World} {K : PySem.W.Frag} {mg : Str → Option Value} {base : Heap} {cs : Cs} (D_need_count : Dn K mg "need_count" s_need_count ["number", "least", "most"]) (cal_is_count : Cal P w K mg base (L2N.CX P w) 1 "is_count" ["thing", "least", "most"] (sp_is_count K cs)) (x_BadSize : ExcT K mg "BadSize" cs.BadSize) :
    Cal P w K mg base (L2N.CX P w) 2 "need_count" ["number", "least", "most"] (sp_need_count K cs) := by
  refine cal_mk D_need_count sc_need_count (fun vs H Q E h => ?_) fun f cdv A outer s H vs Q E hr h => ⟨t_need_count K cs E, ?_, pure_need_count h⟩
  · unfold sp_need_count at h
    first | (obtain ⟨rfl, _⟩ := h; rfl) | (obtain ⟨_, rfl, _⟩ := h; rfl) | (obtain ⟨_, _, rfl, _⟩ := h; rfl) | (obtain ⟨_, _, _, rfl, _⟩ := h; rfl) | (obtain ⟨_, _, _, _, rfl, _⟩ := h; rfl) | (obtain ⟨_, _, _, _, _, rfl, _⟩ := h; rfl) | (obtain ⟨_, _, _, _, _, _, rfl, _⟩ := h; rfl) | (obtain ⟨_, _, _, _, _, _, _, rfl, _⟩ := h; rfl) | (obtain ⟨_, _, _, _, _, _, _, _, rfl, _⟩ := h; rfl) | (obtain ⟨_, _, _, _, _, _, _, _, _, rfl, _⟩ := h; rfl) | (obtain ⟨_, _, _, _, _, _, _, _, _, _, rfl, _⟩ := h; rfl) | (obtain ⟨_, _, _, _, _, _, _, _, _, _, _, rfl, _⟩ := h; rfl) | (obtain ⟨_, _, _, _, _, _, _, _, _, _, _, _, rfl, _⟩ := h; rfl) | (obtain ⟨_, _, _, _, _, _, _, _, _, _, _, _, _, rfl, _⟩ := h; rfl) | (obtain ⟨_, _, _, _, _, _, _, _, _, _, _, _, _, _, rfl, _⟩ := h; rfl) | (obtain ⟨_, _, _, _, _, _, _, _, _, _, _, _, _, _, _, rfl, _⟩ := h; rfl)
  · exact (pss_one (ps_if (pt_not (pt_val (pe_cal cal_is_count hr (by decide) (by rfl) passN (pa_cons (pv 0) (pa_cons (pv 1) (pa_cons (pv 2) pa_nil))))))
      (pss_one (ps_raiseT x_BadSize rfl (L2N.takes_of (E := E) rfl rfl rfl rfl) (by rfl)))
      pss_nil))
theorem sc_choices : FnScope ["many", "rows", "turn", "row", "one", "other"] ["many"] (defScope s_choices) := ⟨rfl, rfl, rfl, by decide +kernel, rfl, by decide +kernel, by decide +kernel⟩
theorem sc_choices_v0 : (defScope s_choices).names.lookup ("many" : Str) = some .local := by decide +kernel
theorem sc_choices_v1 : (defScope s_choices).names.lookup ("rows" : Str) = some .local := by decide +kernel
theorem sc_choices_v2 : (defScope s_choices).names.lookup ("turn" : Str) = some .local := by decide +kernel
theorem sc_choices_v3 : (defScope s_choices).names.lookup ("row" : Str) = some .local := by decide +kernel
def t_choices (K : PySem.W.Frag) (cs : Cs) (E : XK) : TS :=
  (tSeq (tAsg (tLst (tCons (tLst (tCons (tC (.int 1)) tNil)) tNil)) (gName 1))
  (tSeq (tFor (iRng1 (tCons (tVar 0) tNil)) (gName 2)
  (tSeq (tAsg (tOp (rIxL K) (tVar 1) (tUn (rU fun i => .int (-i)) (tC (.int 1)))) (gName 3))
  (tDrop (tBM K "list" rAppend (tVar 1) (tCons (tOp rCat (tOp rCat (tLst (tCons (tC (.int 1)) tNil)) (tLc (iZip K (tCons (tVar 3) (tCons (tSl (rSlL K) (tVar 3) (tPart (tC (.int 1))) tNoPart) tNil))) (gTup K 2 (gCons (gName 4) (gCons (gName 5) gNil))) tYes (tOp (rI0 fun i j => .int (i + j)) (tVar 4) (tVar 5)) [4, 5])) (tLst (tCons (tC (.int 1)) tNil))) tNil)))))
  (tRet (tVar 1))))
def pascs (m : Nat) : List (List Int) := (List.range (m + 1)).map fun t => nI (pasc t)
def sp_choices (K : PySem.W.Frag) (_ : Cs) : Sp := fun vs H Q _ => ∃ m : Nat, vs = [.int (m : Int)] ∧ m ≤ 64 ∧ ∀ (H' : Hp) (p : Addr) (ps : List Addr), Ex H H' → H p = none → H' p = some (.lst (ps.map V.ref)) → LLs H' ps (pascs m) → upR Q (.ref p) H'
theorem c_choices {K : PySem.W.Frag} {cs : Cs} {H : Hp} {m : Nat} {i : Int} {Q : PV} {E : XK} (hi : i = m) (hm : m ≤ 64) (k : ∀ (H' : Hp) (p : Addr) (ps : List Addr), Ex H H' → H p = none → H' p = some (.lst (ps.map V.ref)) → LLs H' ps (pascs m) → Q (.ref p) H') : kC (fun ws H Q => sp_choices K cs ws H Q E) [.int i] H Q := by
  subst hi
  exact fun H1 e _ q => ⟨m, rfl, hm, fun H' p ps e1 hp h1 h2 H2 e2 => q _ _ _ (k H' p ps (e.tr e1) (e.fresh hp) h1 h2) e2⟩
theorem pure_choices {K : PySem.W.Frag} {cs : Cs} {H : Hp} {vs : List V} {Q : VK} {E : XK} (h : sp_choices K cs vs H Q E) : t_choices K cs E { nx := fun _ H' => Q .non H', rt := Q } (start ["many", "rows", "turn", "row", "one", "other"] vs) H := by
  obtain ⟨m, rfl, hm, q⟩ := h
  refine fin (σ := [some (.int (m : Int)), none, none, none, none, none]) ?_
  unfold t_choices
  k_clsL
  rename_i r0 hr0 p hp
  refine s_for ?_
  k_clsL
  refine ⟨by omega, fun i σ H1 => Ex H H1 ∧ ∃ ps z2 z3, σ = [some (.int (m : Int)), some (.ref p), z2, z3, none, none] ∧ H1 p = some (.lst (ps.map V.ref)) ∧ (∀ q ∈ ps, q ≠ p) ∧ LLs H1 ps (pascs i), ?_, fun _ _ _ _ _ => trivial, ?_, ?_⟩
  · refine ⟨by k_offL, [r0], none, none, rfl, upd_same, ?_, .cons (by show _ = some (HO.lst [V.int 1]); k_memK) .nil⟩
    intro q hq e
    rw [List.mem_singleton.mp hq] at e
    rw [e, upd_same] at hp
    cases hp
  · rintro i σ H1 hi ⟨e1, ps, z2, z3, rfl, hl, hne, hL⟩
    have hlen : ps.length = i + 1 := by rw [hL.len]; simp [pascs]
    have hi1 : i < ps.length := by omega
    have hrow := hL.at i hi1 (by simp [pascs])
    have hpi : (pascs i)[i]'(by simp [pascs]) = nI (pasc i) := by simp [pascs]
    rw [hpi] at hrow
    have hrl : ((nI (pasc i)).map V.int).length = i + 1 := by rw [List.length_map, nI_len, pasc_len]
    refine g_name ?_
    k_clsL
    refine r_ixL (v := .ref ps[i]) (SqL.of hl) (atI_lastN (n := i) (by rw [List.length_map, hlen]) (by rw [List.getElem?_map, List.getElem?_eq_getElem hi1]; rfl)) ?_
    k_clsL
    rename_i a1 ha1
    have e12 : Ex H1 (upd H1 a1 (.lst [.int 1])) := Ex.news ha1
    refine e_lcZ ?_
    k_clsL
    intro b hb
    rw [cut1 (by omega)]
    k_clsL
    refine ⟨_, _, _, _, rfl, SqL.of (by k_memK), SqL.of upd_same, ⟨SqL.of (by k_memK), SqL.of upd_same⟩, by rw [List.length_drop]; omega, (nI (List.zipWith (· + ·) (pasc i) ((pasc i).drop 1))).map V.int, ?_, ?_, fun D hD => ?_⟩
    · simp [nI, pasc_len]
    · intro D acc j hD hj T x z hT hx hz
      have hx : ((nI (pasc i)).map V.int)[j]? = some x := hx
      have hz : (((nI (pasc i)).map V.int).drop 1)[j]? = some z := hz
      have hj2 : j < i := by
        rw [List.length_drop, hrl] at hj
        omega
      have hx2 : (pasc i)[j]? = some ((pasc i)[j]'(by rw [pasc_len]; omega)) := List.getElem?_eq_getElem _
      have hz2 : (pasc i)[j + 1]? = some ((pasc i)[j + 1]'(by rw [pasc_len]; omega)) := List.getElem?_eq_getElem _
      generalize (pasc i)[j]'(by rw [pasc_len]; omega) = xa at *
      generalize (pasc i)[j + 1]'(by rw [pasc_len]; omega) = za at *
      rw [nI_v, List.getElem?_map, hx2] at hx
      rw [nI_v, List.getElem?_drop, Nat.add_comm 1 j, List.getElem?_map, hz2] at hz
      have ex : V.int (xa : Int) = x := Option.some.inj hx
      have ez : V.int (za : Int) = z := Option.some.inj hz
      subst ex ez
      k_clsL
      refine ⟨rfl, t_yes ⟨rfl, ?_⟩⟩
      k_clsL
      refine ⟨?_, by k_offL⟩
      rw [nI_v, List.getElem?_map, List.getElem?_zipWith, hx2, List.getElem?_drop, Nat.add_comm 1 j, hz2]
      rfl
    · k_clsL
      refine r_cat (by k_memK) (by k_memK) ?_ fun b2 hb2 => ?_
      · refine Nat.le_trans (m := 100) ?_ (by decide)
        simp [nI, pasc_len]
        omega
      k_clsL
      refine r_cat (by k_memK) (by k_memK) ?_ fun b3 hb3 => ?_
      · refine Nat.le_trans (m := 100) ?_ (by decide)
        simp [nI, pasc_len]
        omega
      k_clsL
      refine m_append (l := p) (xs := ps.map V.ref) (by k_memK) (by rw [List.length_map]; omega) ?_
      have hbp : b3 ≠ p := fun e => by
        have : upd H1 a1 (.lst [.int 1]) p = none := Ex.fresh (by k_offL) (e ▸ hb3)
        rw [e12 _ _ hl] at this
        cases this
      refine ⟨_, ⟨?_, ps ++ [b3], _, _, rfl, ?_, ?_, ?_⟩, Ex.rf⟩
      · exact Ex.mutr (by k_offL) (Ex.fresh (by k_offL) hp)
      · rw [List.map_append]
        exact upd_same
      · intro q hq
        rcases List.mem_append.mp hq with hq | hq
        · exact hne q hq
        · rw [List.mem_singleton.mp hq]
          exact hbp
      · have e5 : pascs (i + 1) = pascs i ++ [nI (pasc (i + 1))] := by
          unfold pascs
          rw [List.range_succ, List.map_append]
          rfl
        rw [e5]
        refine LLs.snoc ?_ ((hL.up (by k_offL)).upd_ne hne)
        rw [L2.upd_ne hbp, upd_same]
        simp [pasc, nI]
  · rintro σ H1 ⟨e1, ps, z2, z3, rfl, hl, hne, hL⟩
    k_clsL
    exact q H1 p ps e1 (Ex.fresh (by k_offL) hp) hl hL
theorem ok_choices {P : Program} {w : World} {K : PySem.W.Frag} {mg : Str → Option Value} {base : Heap} {cs : Cs} (D_choices : Dn K mg "choices" s_choices ["many"]) (m_range : mg "range" = none) (m_zip : mg "zip" = none) :
    Cal P w K mg base (L2N.CX P w) 1 "choices" ["many"] (sp_choices K cs) := by
  refine cal_mk D_choices sc_choices (fun vs H Q E h => ?_) fun f cdv A outer s H vs Q E hr h => ⟨t_choices K cs E, ?_, pure_choices h⟩
  · unfold sp_choices at h
    first | (obtain ⟨rfl, _⟩ := h; rfl) | (obtain ⟨_, rfl, _⟩ := h; rfl) | (obtain ⟨_, _, rfl, _⟩ := h; rfl) | (obtain ⟨_, _, _, rfl, _⟩ := h; rfl) | (obtain ⟨_, _, _, _, rfl, _⟩ := h; rfl) | (obtain ⟨_, _, _, _, _, rfl, _⟩ := h; rfl) | (obtain ⟨_, _, _, _, _, _, rfl, _⟩ := h; rfl) | (obtain ⟨_, _, _, _, _, _, _, rfl, _⟩ := h; rfl) | (obtain ⟨_, _, _, _, _, _, _, _, rfl, _⟩ := h; rfl) | (obtain ⟨_, _, _, _, _, _, _, _, _, rfl, _⟩ := h; rfl) | (obtain ⟨_, _, _, _, _, _, _, _, _, _, rfl, _⟩ := h; rfl) | (obtain ⟨_, _, _, _, _, _, _, _, _, _, _, rfl, _⟩ := h; rfl) | (obtain ⟨_, _, _, _, _, _, _, _, _, _, _, _, rfl, _⟩ := h; rfl) | (obtain ⟨_, _, _, _, _, _, _, _, _, _, _, _, _, rfl, _⟩ := h; rfl) | (obtain ⟨_, _, _, _, _, _, _, _, _, _, _, _, _, _, rfl, _⟩ := h; rfl) | (obtain ⟨_, _, _, _, _, _, _, _, _, _, _, _, _, _, _, rfl, _⟩ := h; rfl)
  · exact (pss_cons (ps_set (i := 1) sc_choices.nd rfl (Or.inl sc_choices_v1) (pe_lst (pa_cons (pe_lst (pa_cons pe_int pa_nil)) pa_nil)))
      (pss_cons (ps_for (passes_of rfl) rfl (pi_range1 (by rfl) m_range (pa_cons (pv 0) pa_nil)) (pg_name (i := 2) sc_choices.nd rfl (Or.inl sc_choices_v2))
      (pss_cons (ps_set (i := 3) sc_choices.nd rfl (Or.inl sc_choices_v3) (pe_ix ix_list (pv 1) (pe_un un_neg pe_int) (fun _ _ => rfl)))
      (pss_one (ps_expr (pe_bm PySem.F.plainAttrs_list PySem.F.slot_list_append PySem.F.type_list_append mt_append (pv 1) (pa_cons (pe_op op_cat (pe_op op_cat (pe_lst (pa_cons pe_int pa_nil)) (pe_lc (own := [("one", 4), ("other", 5)]) (g := (gTup K 2 (gCons (gName 4) (gCons (gName 5) gNil)))) (tt := tYes) (by rfl) sc_choices.nd (pi_zip (by rfl) m_zip (pa_cons (pv 3) (pa_cons (pe_slice sl_list (pv 3) (po_some pe_int) po_none) pa_nil))) (blkOk_by (own := [("one", 4), ("other", 5)]) (N := ["many", "rows", "turn", "row", "one", "other"]) (sc := defScope s_choices) (by decide +kernel)) (fun _ _ _ _ _ => (pg_tup rfl (pgs_cons (pg_name (i := 4) sc_choices.nd rfl (Or.inl rfl)) (pgs_cons (pg_name (i := 5) sc_choices.nd rfl (Or.inl rfl)) pgs_nil)))) (fun _ _ _ _ _ => pts_nil) (fun _ _ _ _ _ => (pe_op op_add (pv 4) (pv 5))))) (pe_lst (pa_cons pe_int pa_nil))) pa_nil))))))
      (pss_one (ps_ret (pv 1)))))
theorem sc_bounded : FnScope ["size", "many", "most", "rows", "counts", "place", "later", "left", "parts", "here"] ["size", "many", "most", "rows"] (defScope s_bounded) := ⟨rfl, rfl, rfl, by decide +kernel, rfl, by decide +kernel, by decide +kernel⟩
theorem sc_bounded_v0 : (defScope s_bounded).names.lookup ("size" : Str) = some .local := by decide +kernel
theorem sc_bounded_v1 : (defScope s_bounded).names.lookup ("many" : Str) = some .local := by decide +kernel
theorem sc_bounded_v2 : (defScope s_bounded).names.lookup ("most" : Str) = some .local := by decide +kernel
theorem sc_bounded_v3 : (defScope s_bounded).names.lookup ("rows" : Str) = some .cell := by decide +kernel
theorem sc_bounded_v4 : (defScope s_bounded).names.lookup ("counts" : Str) = some .cell := by decide +kernel
theorem sc_bounded_v5 : (defScope s_bounded).names.lookup ("place" : Str) = some .local := by decide +kernel
theorem sc_bounded_v6 : (defScope s_bounded).names.lookup ("later" : Str) = some .local := by decide +kernel
theorem sc_bounded_v7 : (defScope s_bounded).names.lookup ("left" : Str) = some .cell := by decide +kernel
theorem sc_bounded_v8 : (defScope s_bounded).names.lookup ("parts" : Str) = some .local := by decide +kernel
def t_bounded (K : PySem.W.Frag) (cs : Cs) (E : XK) : TS :=
  (tSeq (tAsg (tOp rCat (tLst (tCons (tC (.int 1)) tNil)) (tOp rRep (tLst (tCons (tC (.int 0)) tNil)) (tVar 1))) (gName 4))
  (tSeq (tFor (iRng1 (tCons (tVar 0) tNil)) (gName 5)
  (tSeq (tAsg (tLst tNil) (gName 6))
  (tSeq (tFor (iRng1 (tCons (tOp (rI0 fun i j => .int (i + j)) (tVar 1) (tC (.int 1))) tNil)) (gName 7)
  (tSeq (tAsg (tLc (iRng1 (tCons (tOp (rI0 fun i j => .int (i + j)) (tCB (fun xs H Q => ∃ i j, xs = [V.int i, .int j] ∧ Q (.int (if j < i then j else i)) H) (tCons (tVar 7) (tCons (tVar 2) tNil))) (tC (.int 1))) tNil)) (gName 9) tYes (tOp (rI IntMulOk fun i j => .int (i * j)) (tOp (rIxL K) (tOp (rIxL K) (tVar 3) (tVar 7)) (tVar 9)) (tOp (rIxL K) (tVar 4) (tOp (rI0 fun i j => .int (i - j)) (tVar 7) (tVar 9)))) [9]) (gName 8))
  (tDrop (tBM K "list" rAppend (tVar 6) (tCons (tCB (rSum K) (tCons (tVar 8) tNil)) tNil)))))
  (tAsg (tVar 6) (gName 4)))))
  (tRet (tOp (rIxL K) (tVar 4) (tVar 1)))))
def Bl (most s m : Nat) : List Int := nI ((List.range (m + 1)).map fun l => Bf most s l)
def sp_bounded (K : PySem.W.Frag) (_ : Cs) : Sp := fun vs H Q _ => ∃ (s m most : Nat) (rp : Addr) (ps : List Addr), vs = [.int (s : Int), .int (m : Int), .int (most : Int), .ref rp] ∧ s ≤ 22 ∧ m ≤ 24 ∧ most ≤ 24 ∧ H rp = some (.lst (ps.map V.ref)) ∧ LLs H ps (pascs m) ∧ upR Q (.int ((Bf most s m : Nat) : Int)) H
theorem c_bounded {K : PySem.W.Frag} {cs : Cs} {H : Hp} {s m most : Nat} {i j k : Int} {rp : Addr} {ps : List Addr} {Q : PV} {E : XK} (hi : i = s) (hj : j = m) (hk : k = most) (hs : s ≤ 22) (hm : m ≤ 24) (hmo : most ≤ 24) (hr : H rp = some (.lst (ps.map V.ref))) (hL : LLs H ps (pascs m)) (q : Q (.int ((Bf most s m : Nat) : Int)) H) :
    kC (fun ws H Q => sp_bounded K cs ws H Q E) [.int i, .int j, .int k, .ref rp] H Q := by
  subst hi hj hk
  exact fun H1 e _ qq => ⟨s, m, most, rp, ps, rfl, hs, hm, hmo, e _ _ hr, hL.up e, fun H2 e2 => qq _ _ _ q (e.tr e2)⟩
theorem Bl_len {most s m : Nat} : (Bl most s m).length = m + 1 := by simp [Bl, nI]
theorem Bl_at {most s m l : Nat} (h : l ≤ m) : ((Bl most s m).map V.int)[l]? = some (.int ((Bf most s l : Nat) : Int)) := by
  unfold Bl
  rw [nI_map, List.getElem?_map, List.getElem?_range (by omega)]
  rfl
theorem pc_at {l h : Nat} (hh : h ≤ l) : ((nI (pasc l)).map V.int)[h]? = some (.int ((pc l h : Nat) : Int)) := by
  have : h < (pasc l).length := by rw [pasc_len]; omega
  rw [nI_v, List.getElem?_map, List.getElem?_eq_getElem this]
  unfold pc
  rw [List.getD_eq_getElem?_getD, List.getElem?_eq_getElem this]
  rfl
theorem Bl_zero {most m : Nat} : (Bl most 0 m).map V.int = [.int 1] ++ List.replicate m (.int 0) := by
  unfold Bl
  rw [nI_map, List.range_succ_eq_map, List.map_cons, List.map_map]
  congr 1
  refine List.ext_getElem (by simp) fun i h1 h2 => ?_
  simp [Bf]
theorem min_nat {a b : Nat} : (if (b : Int) < (a : Int) then (b : Int) else (a : Int)) + 1 = ((min a b + 1 : Nat) : Int) := by
  split <;> omega
theorem pure_bounded {K : PySem.W.Frag} {cs : Cs} {H : Hp} {vs : List V} {Q : VK} {E : XK} (h : sp_bounded K cs vs H Q E) : t_bounded K cs E { nx := fun _ H' => Q .non H', rt := Q } (start ["size", "many", "most", "rows", "counts", "place", "later", "left", "parts", "here"] vs) H := by
  obtain ⟨s, m, most, rp, ps, rfl, hs, hm, hmo, hr, hL, q⟩ := h
  refine fin (σ := [some (.int (s : Int)), some (.int (m : Int)), some (.int (most : Int)), some (.ref rp), none, none, none, none, none, none]) ?_
  unfold t_bounded
  k_clsL
  rename_i a1 ha1 a2 ha2
  refine r_rep1 (x := .int 0) (n := m) (by k_memK) (by omega) fun a3 ha3 => ?_
  k_clsL
  refine r_cat (by k_memK) (by k_memK) ?_ fun c0 hc0 => ?_
  · exact Nat.le_trans (m := 100) (by simp; omega) (by decide)
  k_clsL
  refine s_for ?_
  k_clsL
  refine ⟨by omega, fun i σ H1 => Ex H H1 ∧ ∃ c z5 z6 z7 z8, σ = [some (.int (s : Int)), some (.int (m : Int)), some (.int (most : Int)), some (.ref rp), some (.ref c), z5, z6, z7, z8, none] ∧ H1 c = some (.lst ((Bl most i m).map V.int)), ⟨by k_offL, c0, none, none, none, none, rfl, by rw [Bl_zero]; exact upd_same⟩, fun _ _ _ _ _ => trivial, ?_, ?_⟩
  · rintro i σ H1 hi ⟨e1, c, z5, z6, z7, z8, rfl, hc⟩
    refine g_name ?_
    k_clsL
    rename_i l hl
    refine s_for ?_
    k_clsL
    refine ⟨(by show m + 1 < 2 ^ 61; omega), fun j σ H2 => Ex H1 H2 ∧ ∃ z7 z8, σ = [some (.int (s : Int)), some (.int (m : Int)), some (.int (most : Int)), some (.ref rp), some (.ref c), some (.int (i : Int)), some (.ref l), z7, z8, none] ∧ H2 l = some (.lst ((nI ((List.range j).map fun l => Bf most (i + 1) l)).map V.int)), ⟨by k_offL, z7, z8, rfl, upd_same⟩, fun _ _ _ _ _ => trivial, ?_, ?_⟩
    · rintro j σ H2 hj ⟨e2, z7, z8, rfl, hl2⟩
      have hj : j < m + 1 := hj
      refine g_name ?_
      k_clsL
      refine e_lcZ ?_
      k_clsL
      refine ⟨min j most + 1, by rw [min_nat], by omega, trivial, by omega, (nI ((List.range (min j most + 1)).map fun h => pc j h * Bf most i (j - h))).map V.int, by simp [nI], fun D acc h hD hh => ?_, fun D hD => ?_⟩
      · refine g_name ⟨rfl, t_yes ⟨rfl, ?_⟩⟩
        have hj1 : j < ps.length := by rw [hL.len]; simp [pascs]; omega
        have hrow := hL.at j hj1 (by simp [pascs]; omega)
        have hpi : (pascs m)[j]'(by simp [pascs]; omega) = nI (pasc j) := by simp [pascs]
        rw [hpi] at hrow
        have e12 := e1.tr e2
        k_clsL
        refine r_ixL (v := .ref ps[j]) (SqL.of (Ex.news hD _ _ (e12 _ _ hr))) (atI_nat (by rw [List.getElem?_map, List.getElem?_eq_getElem hj1]; rfl)) ?_
        k_clsL
        refine r_ixL (SqL.of (Ex.news hD _ _ (e12 _ _ hrow))) (atI_nat (pc_at (by omega))) ?_
        k_clsL
        have ejh : (j : Int) - (h : Int) = ((j - h : Nat) : Int) := by omega
        rw [ejh]
        refine r_ixL (SqL.of (Ex.news hD _ _ (e2 _ _ hc))) (atI_nat (Bl_at (by omega))) ?_
        have hp := pc_lt (l := j) (h := h) (by omega)
        k_clsL
        refine ⟨?_, by k_offL⟩
        rw [nI_map, List.getElem?_map, List.getElem?_range hh]
        simp
      · k_clsL
        refine c_sum (SqL.of upd_same) ?_
        k_clsL
        refine m_append (l := l) (by k_memK) (by simp [nI]; omega) ?_
        refine ⟨_, ⟨(Ex.newr e2 hD).mutr hl, _, _, rfl, ?_⟩, Ex.rf⟩
        rw [upd_same, nI_sum]
        have eb : Bf most (i + 1) j = ((List.range (min j most + 1)).map fun h => pc j h * Bf most i (j - h)).sum := by rw [Bf]
        rw [← eb, List.range_succ]
        simp [nI]
    · rintro σ H2 ⟨e2, z7, z8, rfl, hl2⟩
      k_clsL
      exact ⟨_, ⟨e1.tr e2, l, _, _, _, _, rfl, hl2⟩, Ex.rf⟩
  · rintro σ H1 ⟨e1, c, z5, z6, z7, z8, rfl, hc⟩
    k_clsL
    refine r_ixL (SqL.of hc) (atI_nat (Bl_at (Nat.le_refl m))) ?_
    exact upX q e1
theorem ok_bounded {P : Program} {w : World} {K : PySem.W.Frag} {mg : Str → Option Value} {base : Heap} {cs : Cs} (D_bounded : Dn K mg "bounded" s_bounded ["size", "many", "most", "rows"]) (m_range : mg "range" = none) (m_min : mg "min" = none) (m_sum : mg "sum" = none) :
    Cal P w K mg base (L2N.CX P w) 1 "bounded" ["size", "many", "most", "rows"] (sp_bounded K cs) := by
  refine cal_mk D_bounded sc_bounded (fun vs H Q E h => ?_) fun f cdv A outer s H vs Q E hr h => ⟨t_bounded K cs E, ?_, pure_bounded h⟩
  · unfold sp_bounded at h
    first | (obtain ⟨rfl, _⟩ := h; rfl) | (obtain ⟨_, rfl, _⟩ := h; rfl) | (obtain ⟨_, _, rfl, _⟩ := h; rfl) | (obtain ⟨_, _, _, rfl, _⟩ := h; rfl) | (obtain ⟨_, _, _, _, rfl, _⟩ := h; rfl) | (obtain ⟨_, _, _, _, _, rfl, _⟩ := h; rfl) | (obtain ⟨_, _, _, _, _, _, rfl, _⟩ := h; rfl) | (obtain ⟨_, _, _, _, _, _, _, rfl, _⟩ := h; rfl) | (obtain ⟨_, _, _, _, _, _, _, _, rfl, _⟩ := h; rfl) | (obtain ⟨_, _, _, _, _, _, _, _, _, rfl, _⟩ := h; rfl) | (obtain ⟨_, _, _, _, _, _, _, _, _, _, rfl, _⟩ := h; rfl) | (obtain ⟨_, _, _, _, _, _, _, _, _, _, _, rfl, _⟩ := h; rfl) | (obtain ⟨_, _, _, _, _, _, _, _, _, _, _, _, rfl, _⟩ := h; rfl) | (obtain ⟨_, _, _, _, _, _, _, _, _, _, _, _, _, rfl, _⟩ := h; rfl) | (obtain ⟨_, _, _, _, _, _, _, _, _, _, _, _, _, _, rfl, _⟩ := h; rfl) | (obtain ⟨_, _, _, _, _, _, _, _, _, _, _, _, _, _, _, rfl, _⟩ := h; rfl)
  · exact (pss_cons (ps_set (i := 4) sc_bounded.nd rfl (Or.inr sc_bounded_v4) (pe_op op_cat (pe_lst (pa_cons pe_int pa_nil)) (pe_op op_rep (pe_lst (pa_cons pe_int pa_nil)) (pv 1))))
      (pss_cons (ps_for (passes_of rfl) rfl (pi_range1 (by rfl) m_range (pa_cons (pv 0) pa_nil)) (pg_name (i := 5) sc_bounded.nd rfl (Or.inl sc_bounded_v5))
      (pss_cons (ps_set (i := 6) sc_bounded.nd rfl (Or.inl sc_bounded_v6) (pe_lst pa_nil))
      (pss_cons (ps_for (passes_of rfl) rfl (pi_range1 (by rfl) m_range (pa_cons (pe_op op_add (pv 1) pe_int) pa_nil)) (pg_name (i := 7) sc_bounded.nd rfl (Or.inr sc_bounded_v7))
      (pss_cons (ps_setLc (i := 8) (own := [("here", 9)]) (g := (gName 9)) (tt := tYes) (by rfl) sc_bounded.nd rfl rfl (sw_true rfl rfl rfl (by decide +kernel)) (pi_range1 (by rfl) m_range (pa_cons (pe_op op_add (pe_callB (call_min2 rfl) (by rfl) m_min (by decide +kernel) (pa_cons (pv 7) (pa_cons (pv 2) pa_nil))) pe_int) pa_nil)) (blkOk_by (own := [("here", 9)]) (N := ["size", "many", "most", "rows", "counts", "place", "later", "left", "parts", "here"]) (sc := defScope s_bounded) (by decide +kernel)) (fun _ _ _ _ _ => (pg_name (i := 9) sc_bounded.nd rfl (Or.inl rfl))) (fun _ _ _ _ _ => pts_nil) (fun _ _ _ _ _ => (pe_op op_mulX (pe_ix ix_list (pe_ix ix_list (pv 3) (pv 7) (fun _ _ => rfl)) (pv 9) (fun _ _ => rfl)) (pe_ix ix_list (pv 4) (pe_op op_sub (pv 7) (pv 9)) (fun _ _ => rfl)))))
      (pss_one (ps_expr (pe_bm PySem.F.plainAttrs_list PySem.F.slot_list_append PySem.F.type_list_append mt_append (pv 6) (pa_cons (pe_callB (cr_sum rfl) (by rfl) m_sum (by decide +kernel) (pa_cons (pv 8) pa_nil)) pa_nil))))))
      (pss_one (ps_set (i := 4) sc_bounded.nd rfl (Or.inr sc_bounded_v4) (pv 6))))))
      (pss_one (ps_ret (pe_ix ix_list (pv 4) (pv 1) (fun _ _ => rfl))))))
theorem sc_longest : FnScope ["size", "many", "rows", "most"] ["size", "many"] (defScope s_longest) := ⟨rfl, rfl, rfl, by decide +kernel, rfl, by decide +kernel, by decide +kernel⟩
theorem sc_longest_v0 : (defScope s_longest).names.lookup ("size" : Str) = some .cell := by decide +kernel
theorem sc_longest_v1 : (defScope s_longest).names.lookup ("many" : Str) = some .cell := by decide +kernel
theorem sc_longest_v2 : (defScope s_longest).names.lookup ("rows" : Str) = some .cell := by decide +kernel
def t_longest (K : PySem.W.Frag) (cs : Cs) (E : XK) : TS :=
  (tSeq (tDrop (tCall (sp_need_size K cs) [] E (tCons (tVar 0) tNil)))
  (tSeq (tDrop (tCall (sp_need_count K cs) [] E (tCons (tVar 1) (tCons (tC (.int 0)) (tCons (tC (.int 64)) tNil)))))
  (tSeq (tAsg (tCall (sp_choices K cs) [] E0 (tCons (tVar 1) tNil)) (gName 2))
  (tRet (tLc (iRng1 (tCons (tOp (rI0 fun i j => .int (i + j)) (tVar 1) (tC (.int 1))) tNil)) (gName 3) tYes (tCall (sp_bounded K cs) [] E0 (tCons (tVar 0) (tCons (tVar 1) (tCons (tVar 3) (tCons (tVar 2) tNil))))) [3])))))
def BadCase (x y : V) (lo : Int) : Prop := cnt x 2 64 = false ∨ (cnt x 2 64 = true ∧ cnt y lo 64 = false)
/-- what longest answers -/
def LongW (cs : Cs) (x y : V) (G : Nat → Nat → Prop) (B : Addr → Str → Prop) : Prop :=
  (BadCase x y 0 ∧ B cs.BadSize "BadSize") ∨ ∃ s m : Nat, x = .int (s : Int) ∧ y = .int (m : Int) ∧ 2 ≤ s ∧ s ≤ 22 ∧ m ≤ 24 ∧ G s m
theorem LongW.up {cs : Cs} {x y : V} {G G' : Nat → Nat → Prop} {B B' : Addr → Str → Prop} (g : ∀ s m, G s m → G' s m) (b : ∀ c nm, wordOf cs c nm → B c nm → B' c nm) (h : LongW cs x y G B) : LongW cs x y G' B' := by
  rcases h with ⟨h, k⟩ | ⟨s, m, h1, h2, h3, h4, h5, k⟩
  · exact .inl ⟨h, b _ _ w_size k⟩
  · exact .inr ⟨s, m, h1, h2, h3, h4, h5, g _ _ k⟩
def longN (s m : Nat) : List Nat := (List.range (m + 1)).map fun most => Bf most s m
def LongG (Q : PV) (H : Hp) (s m : Nat) : Prop := ∀ (H' : Hp) (p : Addr), Ex H H' → H p = none → H' p = some (.lst ((nI (longN s m)).map V.int)) → Q (.ref p) H'
theorem LongG.up {Q : PV} {Q1 : VK} {H H1 : Hp} {s m : Nat} (e : Ex H H1) (q : ∀ v H0 H2, Q v H0 → Ex H0 H2 → Q1 v H2) (h : LongG Q H s m) : LongG (upR Q1) H1 s m := fun H' p e1 hp hl H2 e2 => q _ _ _ (h H' p (e.tr e1) (e.fresh hp) hl) e2
def sp_longest (K : PySem.W.Frag) (cs : Cs) : Sp := fun vs H Q E => ∃ x y T T', vs = [x, y] ∧ Ty5 K H x T ∧ Ty5 K H y T' ∧ LongW cs x y (LongG (upR Q) H) (fun c _ => ∀ H2, Ex H H2 → E (.ref c) none H2)
theorem c_longest {K : PySem.W.Frag} {cs : Cs} {H : Hp} {x y : V} {T T' : String} {Q : PV} {E : XK} (hx : Ty5 K H x T) (hy : Ty5 K H y T') (h : LongW cs x y (LongG Q H) (fun c _ => ∀ H2, Ex H H2 → E (.ref c) none H2)) : kC (fun ws H Q => sp_longest K cs ws H Q E) [x, y] H Q :=
  fun H1 e _ q => ⟨x, y, T, T', rfl, hx.up e, hy.up e, h.up (fun s m g => g.up e q) fun c nm _ k H2 e2 => k H2 (e.tr e2)⟩
theorem pure_longest {K : PySem.W.Frag} {cs : Cs} {H : Hp} {vs : List V} {Q : VK} {E : XK} (h : sp_longest K cs vs H Q E) : t_longest K cs E { nx := fun _ H' => Q .non H', rt := Q } (start ["size", "many", "rows", "most"] vs) H := by
  obtain ⟨x, y, T, T', rfl, hx, hy, h⟩ := h
  refine fin (σ := [some x, some y, none, none]) ?_
  unfold t_longest
  rcases h with ⟨h | ⟨h1, h2⟩, k⟩ | ⟨s, m, rfl, rfl, h2, h22, hm, k⟩
  · k_clsL
    exact bF h k
  · k_clsL
    refine bT h1 ?_
    k_clsL
    exact bF h2 k
  · k_clsL
    refine bT (cnt_ok (by omega) (by omega)) ?_
    k_clsL
    refine bT (cnt_ok (by omega) (by omega)) ?_
    k_clsL
    refine c_choices rfl (by omega) fun H1 rp ps e1 hrp hr hL => ?_
    k_clsL
    refine e_lcZ ?_
    k_clsL
    refine ⟨(by show m + 1 < 2 ^ 61; omega), trivial, (by show m + 1 ≤ 100000; omega), (nI (longN s m)).map V.int, by simp [nI, longN], fun D acc i hD hi => ?_, fun D hD => ?_⟩
    · have hi : i < m + 1 := hi
      refine g_name ⟨rfl, t_yes ⟨rfl, ?_⟩⟩
      k_clsL
      refine c_bounded rfl rfl rfl h22 hm (by omega) (Ex.news hD _ _ hr) (hL.up (Ex.news hD)) ⟨?_, by k_offL⟩
      unfold longN
      rw [nI_map, List.getElem?_map, List.getElem?_range hi]
      rfl
    · exact k _ _ (by k_offL) (e1.fresh hD) upd_same
theorem ok_longest {P : Program} {w : World} {K : PySem.W.Frag} {mg : Str → Option Value} {base : Heap} {cs : Cs} (D_longest : Dn K mg "longest" s_longest ["size", "many"]) (cal_need_size : Cal P w K mg base (L2N.CX P w) 2 "need_size" ["size"] (sp_need_size K cs)) (cal_need_count : Cal P w K mg base (L2N.CX P w) 2 "need_count" ["number", "least", "most"] (sp_need_count K cs)) (cal_choices : Cal P w K mg base (L2N.CX P w) 1 "choices" ["many"] (sp_choices K cs)) (cal_bounded : Cal P w K mg base (L2N.CX P w) 1 "bounded" ["size", "many", "most", "rows"] (sp_bounded K cs)) (m_range : mg "range" = none) (k_MOST_KEYS : ∃ t, mg "MOST_KEYS" = some (.int 64 t)) :
    Cal P w K mg base (L2N.CX P w) 3 "longest" ["size", "many"] (sp_longest K cs) := by
  refine cal_mk D_longest sc_longest (fun vs H Q E h => ?_) fun f cdv A outer s H vs Q E hr h => ⟨t_longest K cs E, ?_, pure_longest h⟩
  · unfold sp_longest at h
    first | (obtain ⟨rfl, _⟩ := h; rfl) | (obtain ⟨_, rfl, _⟩ := h; rfl) | (obtain ⟨_, _, rfl, _⟩ := h; rfl) | (obtain ⟨_, _, _, rfl, _⟩ := h; rfl) | (obtain ⟨_, _, _, _, rfl, _⟩ := h; rfl) | (obtain ⟨_, _, _, _, _, rfl, _⟩ := h; rfl) | (obtain ⟨_, _, _, _, _, _, rfl, _⟩ := h; rfl) | (obtain ⟨_, _, _, _, _, _, _, rfl, _⟩ := h; rfl) | (obtain ⟨_, _, _, _, _, _, _, _, rfl, _⟩ := h; rfl) | (obtain ⟨_, _, _, _, _, _, _, _, _, rfl, _⟩ := h; rfl) | (obtain ⟨_, _, _, _, _, _, _, _, _, _, rfl, _⟩ := h; rfl) | (obtain ⟨_, _, _, _, _, _, _, _, _, _, _, rfl, _⟩ := h; rfl) | (obtain ⟨_, _, _, _, _, _, _, _, _, _, _, _, rfl, _⟩ := h; rfl) | (obtain ⟨_, _, _, _, _, _, _, _, _, _, _, _, _, rfl, _⟩ := h; rfl) | (obtain ⟨_, _, _, _, _, _, _, _, _, _, _, _, _, _, rfl, _⟩ := h; rfl) | (obtain ⟨_, _, _, _, _, _, _, _, _, _, _, _, _, _, _, rfl, _⟩ := h; rfl)
  · exact (pss_cons (ps_expr (pe_cal cal_need_size hr (by decide) (by rfl) (L2N.passes_call (L2N.takes_of (E := E) rfl rfl rfl rfl) fun _ _ _ _ h => h) (pa_cons (pv 0) pa_nil)))
      (pss_cons (ps_expr (pe_cal cal_need_count hr (by decide) (by rfl) (L2N.passes_call (L2N.takes_of (E := E) rfl rfl rfl rfl) fun _ _ _ _ h => h) (pa_cons (pv 1) (pa_cons pe_int (pa_cons (pe_gI (n := 64) (by rfl) k_MOST_KEYS) pa_nil)))))
      (pss_cons (ps_set (i := 2) sc_longest.nd rfl (Or.inr sc_longest_v2) (pe_cal cal_choices hr (by decide) (by rfl) passN (pa_cons (pv 1) pa_nil)))
      (pss_one (ps_ret (pe_lc (own := [("most", 3)]) (g := (gName 3)) (tt := tYes) (by rfl) sc_longest.nd (pi_range1 (by rfl) m_range (pa_cons (pe_op op_add (pv 1) pe_int) pa_nil)) (blkOk_by (own := [("most", 3)]) (N := ["size", "many", "rows", "most"]) (sc := defScope s_longest) (by decide +kernel)) (fun _ _ _ _ _ => (pg_name (i := 3) sc_longest.nd rfl (Or.inl rfl))) (fun _ _ _ _ _ => pts_nil) (fun _ _ _ _ _ => (pe_cal cal_bounded hr (by decide) (by rfl) passN (pa_cons (pv 0) (pa_cons (pv 1) (pa_cons (pv 3) (pa_cons (pv 2) pa_nil))))))))))))
theorem sc_power : FnScope ["size", "many", "found", "turn"] ["size", "many"] (defScope s_power) := ⟨rfl, rfl, rfl, by decide +kernel, rfl, by decide +kernel, by decide +kernel⟩
theorem sc_power_v0 : (defScope s_power).names.lookup ("size" : Str) = some .local := by decide +kernel
theorem sc_power_v1 : (defScope s_power).names.lookup ("many" : Str) = some .local := by decide +kernel
theorem sc_power_v2 : (defScope s_power).names.lookup ("found" : Str) = some .local := by decide +kernel
theorem sc_power_v3 : (defScope s_power).names.lookup ("turn" : Str) = some .local := by decide +kernel
def t_power (K : PySem.W.Frag) (cs : Cs) (E : XK) : TS :=
  (tSeq (tAsg (tC (.int 1)) (gName 2))
  (tSeq (tFor (iRng1 (tCons (tVar 1) tNil)) (gName 3)
  (tAsg (tOp (rI IntMulOk fun i j => .int (i * j)) (tVar 2) (tVar 0)) (gName 2)))
  (tRet (tVar 2))))
def sp_power (K : PySem.W.Frag) (_ : Cs) : Sp := fun vs H Q _ => ∃ s m : Nat, vs = [.int (s : Int), .int (m : Int)] ∧ s ≤ 1000 ∧ m ≤ 1000 ∧ upR Q (.int ((s ^ m : Nat) : Int)) H
theorem c_power {K : PySem.W.Frag} {cs : Cs} {H : Hp} {s m : Nat} {i j : Int} {Q : PV} {E : XK} (hi : i = s) (hj : j = m) (hs : s ≤ 1000) (hm : m ≤ 1000) (k : Q (.int ((s ^ m : Nat) : Int)) H) : kC (fun ws H Q => sp_power K cs ws H Q E) [.int i, .int j] H Q := by
  subst hi hj
  exact fun H1 e _ q => ⟨s, m, rfl, hs, hm, fun H2 e2 => q _ _ _ k (e.tr e2)⟩
theorem pure_power {K : PySem.W.Frag} {cs : Cs} {H : Hp} {vs : List V} {Q : VK} {E : XK} (h : sp_power K cs vs H Q E) : t_power K cs E { nx := fun _ H' => Q .non H', rt := Q } (start ["size", "many", "found", "turn"] vs) H := by
  obtain ⟨s, m, rfl, hs, hm, q⟩ := h
  refine fin (σ := [some (.int (s : Int)), some (.int (m : Int)), none, none]) ?_
  unfold t_power
  k_clsL
  refine s_for ?_
  k_clsL
  refine ⟨by omega, fun i σ H1 => H1 = H ∧ ∃ z, σ = [some (.int (s : Int)), some (.int (m : Int)), some (.int ((s ^ i : Nat) : Int)), z], ⟨rfl, none, rfl⟩, fun _ _ _ _ _ => trivial, ?_, ?_⟩
  · rintro i σ H1 hi ⟨rfl, z, rfl⟩
    refine g_name ?_
    k_clsL
    refine ⟨_, ⟨rfl, some (.int (i : Nat)), ?_⟩, Ex.rf⟩
    have e3 : ((s ^ i : Nat) : Int) * (s : Int) = ((s ^ (i + 1) : Nat) : Int) := by
      rw [Nat.pow_succ]
      push_cast
      rfl
    rw [e3]
    rfl
  · rintro σ H1 ⟨rfl, z, rfl⟩
    k_clsL
    exact q
theorem ok_power {P : Program} {w : World} {K : PySem.W.Frag} {mg : Str → Option Value} {base : Heap} {cs : Cs} (D_power : Dn K mg "power" s_power ["size", "many"]) (m_range : mg "range" = none) :
    Cal P w K mg base (L2N.CX P w) 1 "power" ["size", "many"] (sp_power K cs) := by
  refine cal_mk D_power sc_power (fun vs H Q E h => ?_) fun f cdv A outer s H vs Q E hr h => ⟨t_power K cs E, ?_, pure_power h⟩
  · unfold sp_power at h
    first | (obtain ⟨rfl, _⟩ := h; rfl) | (obtain ⟨_, rfl, _⟩ := h; rfl) | (obtain ⟨_, _, rfl, _⟩ := h; rfl) | (obtain ⟨_, _, _, rfl, _⟩ := h; rfl) | (obtain ⟨_, _, _, _, rfl, _⟩ := h; rfl) | (obtain ⟨_, _, _, _, _, rfl, _⟩ := h; rfl) | (obtain ⟨_, _, _, _, _, _, rfl, _⟩ := h; rfl) | (obtain ⟨_, _, _, _, _, _, _, rfl, _⟩ := h; rfl) | (obtain ⟨_, _, _, _, _, _, _, _, rfl, _⟩ := h; rfl) | (obtain ⟨_, _, _, _, _, _, _, _, _, rfl, _⟩ := h; rfl) | (obtain ⟨_, _, _, _, _, _, _, _, _, _, rfl, _⟩ := h; rfl) | (obtain ⟨_, _, _, _, _, _, _, _, _, _, _, rfl, _⟩ := h; rfl) | (obtain ⟨_, _, _, _, _, _, _, _, _, _, _, _, rfl, _⟩ := h; rfl) | (obtain ⟨_, _, _, _, _, _, _, _, _, _, _, _, _, rfl, _⟩ := h; rfl) | (obtain ⟨_, _, _, _, _, _, _, _, _, _, _, _, _, _, rfl, _⟩ := h; rfl) | (obtain ⟨_, _, _, _, _, _, _, _, _, _, _, _, _, _, _, rfl, _⟩ := h; rfl)
  · exact (pss_cons (ps_set (i := 2) sc_power.nd rfl (Or.inl sc_power_v2) pe_int)
      (pss_cons (ps_for (passes_of rfl) rfl (pi_range1 (by rfl) m_range (pa_cons (pv 1) pa_nil)) (pg_name (i := 3) sc_power.nd rfl (Or.inl sc_power_v3))
      (pss_one (ps_set (i := 2) sc_power.nd rfl (Or.inl sc_power_v2) (pe_op op_mulX (pv 2) (pv 0)))))
      (pss_one (ps_ret (pv 2)))))
theorem sc_fraction : FnScope ["top", "under", "one", "other"] ["top", "under"] (defScope s_fraction) := ⟨rfl, rfl, rfl, by decide +kernel, rfl, by decide +kernel, by decide +kernel⟩
theorem sc_fraction_v0 : (defScope s_fraction).names.lookup ("top" : Str) = some .local := by decide +kernel
theorem sc_fraction_v1 : (defScope s_fraction).names.lookup ("under" : Str) = some .local := by decide +kernel
theorem sc_fraction_v2 : (defScope s_fraction).names.lookup ("one" : Str) = some .local := by decide +kernel
theorem sc_fraction_v3 : (defScope s_fraction).names.lookup ("other" : Str) = some .local := by decide +kernel
def t_fraction (K : PySem.W.Frag) (cs : Cs) (E : XK) : TS :=
  (tSeq (tPar 2 3 (tCons (tCB (fun xs H Q => ∃ i, xs = [V.int i] ∧ Q (.int (if i < 0 then -i else i)) H) (tCons (tVar 0) tNil)) (tCons (tVar 1) tNil)))
  (tSeq (tWhile (tTest (tOp (rI0 fun i j => .bl (decide (j < i))) (tVar 3) (tC (.int 0))))
  (tPar 2 3 (tCons (tVar 3) (tCons (tOp (rI (fun _ j => 0 < j) fun i j => .int (i % j)) (tVar 2) (tVar 3)) tNil))))
  (tRet (tTup (tCons (tOp (rI CDivW fun i j => .int (i / j)) (tVar 0) (tVar 2)) (tCons (tOp (rI CDivW fun i j => .int (i / j)) (tVar 1) (tVar 2)) tNil))))))
def sp_fraction (K : PySem.W.Frag) (_ : Cs) : Sp := fun vs H Q _ => ∃ m n : Nat, vs = [.int (m : Int), .int (n : Int)] ∧ 0 < n ∧ n < 2 ^ 4000 ∧ ∀ p, H p = none → upR Q (.ref p) (upd H p (.tup [.int ((fr m n).1 : Nat), .int ((fr m n).2 : Nat)]))
theorem c_fraction {K : PySem.W.Frag} {cs : Cs} {H : Hp} {i j : Int} {m n : Nat} {Q : PV} {E : XK} (hi : i = (m : Int)) (hj : j = (n : Int)) (h0 : 0 < n) (hb : n < 2 ^ 4000) (k : ∀ p, H p = none → Q (.ref p) (upd H p (.tup [.int ((fr m n).1 : Nat), .int ((fr m n).2 : Nat)]))) :
    kC (fun ws H Q => sp_fraction K cs ws H Q E) [.int i, .int j] H Q := by
  subst hi hj
  exact fun H1 e _ q => ⟨m, n, rfl, h0, hb, fun p hp H2 e2 => q _ _ _ (k p (e.fresh hp)) ((e.ups _ _).tr e2)⟩
theorem pure_fraction {K : PySem.W.Frag} {cs : Cs} {H : Hp} {vs : List V} {Q : VK} {E : XK} (h : sp_fraction K cs vs H Q E) : t_fraction K cs E { nx := fun _ H' => Q .non H', rt := Q } (start ["top", "under", "one", "other"] vs) H := by
  obtain ⟨m, n, rfl, h0, hb, q⟩ := h
  refine fin (σ := [some (.int m), some (.int n), none, none]) ?_
  unfold t_fraction
  k_clsL
  refine s_while (fun z s H1 => ∃ a b : Nat, z = b ∧ s = [some (.int m), some (.int n), some (.int a), some (.int b)] ∧ Nat.gcd a b = Nat.gcd m n ∧ H1 = H) n ⟨m, n, rfl, by rw [abs_nat]; rfl, rfl, rfl⟩ ?_
  rintro z s H1 ⟨a, b, rfl, rfl, hg, rfl⟩
  k_clsL
  refine ⟨fun h1 => ?_, fun h1 => ?_⟩
  · have hb0 : 0 < z := by simpa using h1
    k_clsL
    refine ⟨a % z, _, Nat.mod_lt _ hb0, ⟨z, a % z, rfl, ?_, ?_, rfl⟩, Ex.rf⟩
    · rw [Int.natCast_emod]; rfl
    · rw [gcd_turn]; exact hg
  · have hb0 : z = 0 := by simpa using h1
    subst hb0
    rw [Nat.gcd_zero_right] at hg
    subst hg
    have hp : 0 < Nat.gcd m n := Nat.gcd_pos_of_pos_right m h0
    have hl : Nat.gcd m n ≤ n := Nat.le_of_dvd h0 (Nat.gcd_dvd_right m n)
    have hd : ∀ i : Int, CDivW i ((Nat.gcd m n : Nat) : Int) := fun i => divw hp (Nat.lt_of_le_of_lt hl hb) (by decide) (by decide)
    have hd1 := hd m
    have hd2 := hd n
    k_clsL
    exact q _ (by assumption)
theorem ok_fraction {P : Program} {w : World} {K : PySem.W.Frag} {mg : Str → Option Value} {base : Heap} {cs : Cs} (D_fraction : Dn K mg "fraction" s_fraction ["top", "under"]) (m_abs : mg "abs" = none) :
    Cal P w K mg base (L2N.CX P w) 1 "fraction" ["top", "under"] (sp_fraction K cs) := by
  refine cal_mk D_fraction sc_fraction (fun vs H Q E h => ?_) fun f cdv A outer s H vs Q E hr h => ⟨t_fraction K cs E, ?_, pure_fraction h⟩
  · unfold sp_fraction at h
    first | (obtain ⟨rfl, _⟩ := h; rfl) | (obtain ⟨_, rfl, _⟩ := h; rfl) | (obtain ⟨_, _, rfl, _⟩ := h; rfl) | (obtain ⟨_, _, _, rfl, _⟩ := h; rfl) | (obtain ⟨_, _, _, _, rfl, _⟩ := h; rfl) | (obtain ⟨_, _, _, _, _, rfl, _⟩ := h; rfl) | (obtain ⟨_, _, _, _, _, _, rfl, _⟩ := h; rfl) | (obtain ⟨_, _, _, _, _, _, _, rfl, _⟩ := h; rfl) | (obtain ⟨_, _, _, _, _, _, _, _, rfl, _⟩ := h; rfl) | (obtain ⟨_, _, _, _, _, _, _, _, _, rfl, _⟩ := h; rfl) | (obtain ⟨_, _, _, _, _, _, _, _, _, _, rfl, _⟩ := h; rfl) | (obtain ⟨_, _, _, _, _, _, _, _, _, _, _, rfl, _⟩ := h; rfl) | (obtain ⟨_, _, _, _, _, _, _, _, _, _, _, _, rfl, _⟩ := h; rfl) | (obtain ⟨_, _, _, _, _, _, _, _, _, _, _, _, _, rfl, _⟩ := h; rfl) | (obtain ⟨_, _, _, _, _, _, _, _, _, _, _, _, _, _, rfl, _⟩ := h; rfl) | (obtain ⟨_, _, _, _, _, _, _, _, _, _, _, _, _, _, _, rfl, _⟩ := h; rfl)
  · exact (pss_cons (ps_par (i := 2) (j := 3) rfl sc_fraction.nd rfl rfl (by decide) sc_fraction_v2 sc_fraction_v3 (pa_cons (pe_callB call_abs (by rfl) m_abs (by decide +kernel) (pa_cons (pv 0) pa_nil)) (pa_cons (pv 1) pa_nil)) (by rfl))
      (pss_cons (ps_while (passes_of rfl) (pt_cmpR op_gt (pv 3) pe_int (nomark _))
      (pss_one (ps_par (i := 2) (j := 3) rfl sc_fraction.nd rfl rfl (by decide) sc_fraction_v2 sc_fraction_v3 (pa_cons (pv 3) (pa_cons (pe_op op_mod (pv 2) (pv 3)) pa_nil)) (by rfl))))
      (pss_one (ps_ret (pe_tup (pa_cons (pe_op op_fdivW (pv 0) (pv 2)) (pa_cons (pe_op op_fdivW (pv 1) (pv 2)) pa_nil)))))))
theorem sc_mean_longest : FnScope ["size", "many", "counts", "whole", "one"] ["size", "many"] (defScope s_mean_longest) := ⟨rfl, rfl, rfl, by decide +kernel, rfl, by decide +kernel, by decide +kernel⟩
theorem sc_mean_longest_v0 : (defScope s_mean_longest).names.lookup ("size" : Str) = some .local := by decide +kernel
theorem sc_mean_longest_v1 : (defScope s_mean_longest).names.lookup ("many" : Str) = some .local := by decide +kernel
theorem sc_mean_longest_v2 : (defScope s_mean_longest).names.lookup ("counts" : Str) = some .local := by decide +kernel
theorem sc_mean_longest_v3 : (defScope s_mean_longest).names.lookup ("whole" : Str) = some .cell := by decide +kernel
def t_mean_longest (K : PySem.W.Frag) (cs : Cs) (E : XK) : TS :=
  (tSeq (tAsg (tCall (sp_longest K cs) [] E (tCons (tVar 0) (tCons (tVar 1) tNil))) (gName 2))
  (tSeq (tAsg (tCall (sp_power K cs) [] E0 (tCons (tVar 0) (tCons (tVar 1) tNil))) (gName 3))
  (tRet (tCall (sp_fraction K cs) [] E0 (tCons (tCB (rSum K) (tCons (tLc (iList K (tVar 2)) (gName 4) tYes (tOp (rI0 fun i j => .int (i - j)) (tVar 3) (tVar 4)) [4]) tNil)) (tCons (tVar 3) tNil))))))
def meanN (s m : Nat) : Nat := ((List.range (m + 1)).map fun n => s ^ m - Bf n s m).sum
def MeanG (Q : PV) (H : Hp) (s m : Nat) : Prop := ∀ (H' : Hp) (p : Addr), Ex H H' → H p = none → H' p = some (.tup [.int ((fr (meanN s m) (s ^ m)).1 : Nat), .int ((fr (meanN s m) (s ^ m)).2 : Nat)]) → Q (.ref p) H'
theorem MeanG.up {Q : PV} {Q1 : VK} {H H1 : Hp} {s m : Nat} (e : Ex H H1) (q : ∀ v H0 H2, Q v H0 → Ex H0 H2 → Q1 v H2) (h : MeanG Q H s m) : MeanG (upR Q1) H1 s m := fun H' p e1 hp hl H2 e2 => q _ _ _ (h H' p (e.tr e1) (e.fresh hp) hl) e2
def sp_mean_longest (K : PySem.W.Frag) (cs : Cs) : Sp := fun vs H Q E => ∃ x y T T', vs = [x, y] ∧ Ty5 K H x T ∧ Ty5 K H y T' ∧ LongW cs x y (MeanG (upR Q) H) (fun c _ => ∀ H2, Ex H H2 → E (.ref c) none H2)
theorem c_mean_longest {K : PySem.W.Frag} {cs : Cs} {H : Hp} {x y : V} {T T' : String} {Q : PV} {E : XK} (hx : Ty5 K H x T) (hy : Ty5 K H y T') (h : LongW cs x y (MeanG Q H) (fun c _ => ∀ H2, Ex H H2 → E (.ref c) none H2)) : kC (fun ws H Q => sp_mean_longest K cs ws H Q E) [x, y] H Q :=
  fun H1 e _ q => ⟨x, y, T, T', rfl, hx.up e, hy.up e, h.up (fun s m g => g.up e q) fun c nm _ k H2 e2 => k H2 (e.tr e2)⟩
theorem pow_small {s m : Nat} (hs : s ≤ 22) (hm : m ≤ 24) : s ^ m < 2 ^ 4000 := by
  refine Nat.lt_of_le_of_lt (Nat.pow_le_pow_left (show s ≤ 2 ^ 5 by omega) m) ?_
  rw [← Nat.pow_mul]
  exact Nat.pow_lt_pow_right (by decide) (by omega)
theorem pure_mean_longest {K : PySem.W.Frag} {cs : Cs} {H : Hp} {vs : List V} {Q : VK} {E : XK} (h : sp_mean_longest K cs vs H Q E) : t_mean_longest K cs E { nx := fun _ H' => Q .non H', rt := Q } (start ["size", "many", "counts", "whole", "one"] vs) H := by
  obtain ⟨x, y, T, T', rfl, hx, hy, h⟩ := h
  refine fin (σ := [some x, some y, none, none, none]) ?_
  unfold t_mean_longest
  k_clsL
  rcases h with ⟨h, k⟩ | ⟨s, m, rfl, rfl, h2, h22, hm, k⟩
  · exact c_longest hx hy (.inl ⟨h, k⟩)
  · refine c_longest hx hy (.inr ⟨s, m, rfl, rfl, h2, h22, hm, fun H1 p e1 hp hl => ?_⟩)
    k_clsL
    refine c_power rfl rfl (by omega) (by omega) ?_
    k_clsL
    refine e_lcZ ?_
    k_clsL
    refine ⟨SqL.of hl, by simp [nI, longN]; omega, (nI ((List.range (m + 1)).map fun n => s ^ m - Bf n s m)).map V.int, by simp [nI, longN], fun D acc i hD hi x hx => ?_, fun D hD => ?_⟩
    · have hi2 : i < m + 1 := by simpa [nI, longN] using hi
      have hx : ((nI (longN s m)).map V.int)[i]? = some x := hx
      unfold longN at hx
      rw [nI_map, List.getElem?_map, List.getElem?_range hi2] at hx
      have hx := Option.some.inj hx
      subst hx
      refine g_name ⟨rfl, t_yes ⟨rfl, ?_⟩⟩
      k_clsL
      refine ⟨?_, by k_offL⟩
      rw [nI_map, List.getElem?_map, List.getElem?_range hi2]
      have := Bf_le (most := i) h22 hm
      show some (V.int ((s ^ m - Bf i s m : Nat) : Int)) = some (V.int (((s ^ m : Nat) : Int) - ((Bf i s m : Nat) : Int)))
      generalize s ^ m = w at *
      congr 2
      omega
    · k_clsL
      refine c_sum (SqL.of upd_same) ?_
      k_clsL
      refine c_fraction (m := meanN s m) (n := s ^ m) (by rw [nI_sum]; rfl) rfl (Nat.pow_pos (by omega)) (pow_small h22 hm) fun p2 hp2 => ?_
      exact k _ _ (by k_offL) (e1.fresh (by k_offL)) upd_same
theorem ok_mean_longest {P : Program} {w : World} {K : PySem.W.Frag} {mg : Str → Option Value} {base : Heap} {cs : Cs} (D_mean_longest : Dn K mg "mean_longest" s_mean_longest ["size", "many"]) (cal_longest : Cal P w K mg base (L2N.CX P w) 3 "longest" ["size", "many"] (sp_longest K cs)) (cal_power : Cal P w K mg base (L2N.CX P w) 1 "power" ["size", "many"] (sp_power K cs)) (cal_fraction : Cal P w K mg base (L2N.CX P w) 1 "fraction" ["top", "under"] (sp_fraction K cs)) (m_sum : mg "sum" = none) :
    Cal P w K mg base (L2N.CX P w) 4 "mean_longest" ["size", "many"] (sp_mean_longest K cs) := by
  refine cal_mk D_mean_longest sc_mean_longest (fun vs H Q E h => ?_) fun f cdv A outer s H vs Q E hr h => ⟨t_mean_longest K cs E, ?_, pure_mean_longest h⟩
  · unfold sp_mean_longest at h
    first | (obtain ⟨rfl, _⟩ := h; rfl) | (obtain ⟨_, rfl, _⟩ := h; rfl) | (obtain ⟨_, _, rfl, _⟩ := h; rfl) | (obtain ⟨_, _, _, rfl, _⟩ := h; rfl) | (obtain ⟨_, _, _, _, rfl, _⟩ := h; rfl) | (obtain ⟨_, _, _, _, _, rfl, _⟩ := h; rfl) | (obtain ⟨_, _, _, _, _, _, rfl, _⟩ := h; rfl) | (obtain ⟨_, _, _, _, _, _, _, rfl, _⟩ := h; rfl) | (obtain ⟨_, _, _, _, _, _, _, _, rfl, _⟩ := h; rfl) | (obtain ⟨_, _, _, _, _, _, _, _, _, rfl, _⟩ := h; rfl) | (obtain ⟨_, _, _, _, _, _, _, _, _, _, rfl, _⟩ := h; rfl) | (obtain ⟨_, _, _, _, _, _, _, _, _, _, _, rfl, _⟩ := h; rfl) | (obtain ⟨_, _, _, _, _, _, _, _, _, _, _, _, rfl, _⟩ := h; rfl) | (obtain ⟨_, _, _, _, _, _, _, _, _, _, _, _, _, rfl, _⟩ := h; rfl) | (obtain ⟨_, _, _, _, _, _, _, _, _, _, _, _, _, _, rfl, _⟩ := h; rfl) | (obtain ⟨_, _, _, _, _, _, _, _, _, _, _, _, _, _, _, rfl, _⟩ := h; rfl)
  · exact (pss_cons (ps_set (i := 2) sc_mean_longest.nd rfl (Or.inl sc_mean_longest_v2) (pe_cal cal_longest hr (by decide) (by rfl) (L2N.passes_call (L2N.takes_of (E := E) rfl rfl rfl rfl) fun _ _ _ _ h => h) (pa_cons (pv 0) (pa_cons (pv 1) pa_nil))))
      (pss_cons (ps_set (i := 3) sc_mean_longest.nd rfl (Or.inr sc_mean_longest_v3) (pe_cal cal_power hr (by decide) (by rfl) passN (pa_cons (pv 0) (pa_cons (pv 1) pa_nil))))
      (pss_one (ps_ret (pe_cal cal_fraction hr (by decide) (by rfl) passN (pa_cons (pe_callB (cr_sum rfl) (by rfl) m_sum (by decide +kernel) (pa_cons (pe_lc (own := [("one", 4)]) (g := (gName 4)) (tt := tYes) (by rfl) sc_mean_longest.nd (pi_list (pv 2)) (blkOk_by (own := [("one", 4)]) (N := ["size", "many", "counts", "whole", "one"]) (sc := defScope s_mean_longest) (by decide +kernel)) (fun _ _ _ _ _ => (pg_name (i := 4) sc_mean_longest.nd rfl (Or.inl rfl))) (fun _ _ _ _ _ => pts_nil) (fun _ _ _ _ _ => (pe_op op_sub (pv 3) (pv 4)))) pa_nil)) (pa_cons (pv 3) pa_nil)))))))
theorem sc__law_told : FnScope ["_law_way", "_law_size", "_law_many", "_law_e"] ["_law_way", "_law_size", "_law_many"] (defScope s__law_told) := ⟨rfl, rfl, rfl, by decide +kernel, rfl, by decide +kernel, by decide +kernel⟩
theorem sc__law_told_v0 : (defScope s__law_told).names.lookup ("_law_way" : Str) = some .local := by decide +kernel
theorem sc__law_told_v1 : (defScope s__law_told).names.lookup ("_law_size" : Str) = some .local := by decide +kernel
theorem sc__law_told_v2 : (defScope s__law_told).names.lookup ("_law_many" : Str) = some .local := by decide +kernel
theorem sc__law_told_v3 : (defScope s__law_told).names.lookup ("_law_e" : Str) = some .local := by decide +kernel
def t__law_told (K : PySem.W.Frag) (cs : Cs) (E : XK) : TS :=
  (tTry K cs (.ref cs.StrewError) 3 fun W => (tSeq (tIfS (tTest (tOp rEq (tVar 0) (tC (.int 0))))
  (tRet (tCallS (sp_longest K cs) (WE W) (tCons (tVar 1) (tCons (tVar 2) tNil))))
  tNext)
  (tRet (tCallS (sp_mean_longest K cs) (WE W) (tCons (tVar 1) (tCons (tVar 2) tNil))))))
def sp__law_told (K : PySem.W.Frag) (cs : Cs) : Sp := fun vs H Q E => ∃ w x y T T', vs = [.int w, x, y] ∧ Ty5 K H x T ∧ Ty5 K H y T' ∧ ((w = 0 ∧ LongW cs x y (LongG (upR Q) H) (fun _ nm => upR Q (.str nm) H)) ∨ (w = 1 ∧ LongW cs x y (MeanG (upR Q) H) (fun _ nm => upR Q (.str nm) H)))
theorem c_told0 {K : PySem.W.Frag} {cs : Cs} {H : Hp} {x y : V} {T T' : String} {Q : PV} {E : XK} (hx : Ty5 K H x T) (hy : Ty5 K H y T') (h : LongW cs x y (LongG Q H) (fun _ nm => Q (.str nm) H)) : kC (fun ws H Q => sp__law_told K cs ws H Q E) [.int 0, x, y] H Q :=
  fun H1 e _ q => ⟨0, x, y, T, T', rfl, hx.up e, hy.up e, .inl ⟨rfl, h.up (fun s m g => g.up e q) fun c nm _ k H2 e2 => q _ _ _ k (e.tr e2)⟩⟩
theorem c_told1 {K : PySem.W.Frag} {cs : Cs} {H : Hp} {x y : V} {T T' : String} {Q : PV} {E : XK} (hx : Ty5 K H x T) (hy : Ty5 K H y T') (h : LongW cs x y (MeanG Q H) (fun _ nm => Q (.str nm) H)) : kC (fun ws H Q => sp__law_told K cs ws H Q E) [.int 1, x, y] H Q :=
  fun H1 e _ q => ⟨1, x, y, T, T', rfl, hx.up e, hy.up e, .inr ⟨rfl, h.up (fun s m g => g.up e q) fun c nm _ k H2 e2 => q _ _ _ k (e.tr e2)⟩⟩
theorem pure__law_told {K : PySem.W.Frag} {cs : Cs} {H : Hp} {vs : List V} {Q : VK} {E : XK} (kx : ExmW K cs) (h : sp__law_told K cs vs H Q E) : t__law_told K cs E { nx := fun _ H' => Q .non H', rt := Q } (start ["_law_way", "_law_size", "_law_many", "_law_e"] vs) H := by
  obtain ⟨w, x, y, T, T', rfl, hx, hy, h⟩ := h
  refine fin (σ := [some (.int w), some x, some y, none]) ?_
  unfold t__law_told
  refine s_try kx fun W hW => ?_
  rcases h with ⟨rfl, h⟩ | ⟨rfl, h⟩
  · k_clsL
    refine e_callS ?_
    k_clsL
    exact c_longest hx hy (h.up (fun _ _ k => k) fun c nm hw k H2 e2 => by
      show W (.ref c) none [some (.int 0), some x, some y, none] H2
      exact hW c nm _ H hw (Nat.lt_succ_self _) k H2 e2)
  · k_clsL
    refine e_callS ?_
    k_clsL
    exact c_mean_longest hx hy (h.up (fun _ _ k => k) fun c nm hw k H2 e2 => by
      show W (.ref c) none [some (.int 1), some x, some y, none] H2
      exact hW c nm _ H hw (Nat.lt_succ_self _) k H2 e2)
theorem ok__law_told {P : Program} {w : World} {K : PySem.W.Frag} {mg : Str → Option Value} {base : Heap} {cs : Cs} (D__law_told : Dn K mg "_law_told" s__law_told ["_law_way", "_law_size", "_law_many"]) (cal__law_word : CalX P w K mg base 1 "_law_word" ["_law_e"] (sp_word cs)) (cal_longest : Cal P w K mg base (L2N.CX P w) 3 "longest" ["size", "many"] (sp_longest K cs)) (cal_mean_longest : Cal P w K mg base (L2N.CX P w) 4 "mean_longest" ["size", "many"] (sp_mean_longest K cs)) (kx : ExmW K cs) (x_StrewError : ExcT K mg "StrewError" cs.StrewError) :
    Cal P w K mg base (L2N.CX P w) 5 "_law_told" ["_law_way", "_law_size", "_law_many"] (sp__law_told K cs) := by
  refine cal_mk D__law_told sc__law_told (fun vs H Q E h => ?_) fun f cdv A outer s H vs Q E hr h => ⟨t__law_told K cs E, ?_, pure__law_told kx h⟩
  · unfold sp__law_told at h
    first | (obtain ⟨rfl, _⟩ := h; rfl) | (obtain ⟨_, rfl, _⟩ := h; rfl) | (obtain ⟨_, _, rfl, _⟩ := h; rfl) | (obtain ⟨_, _, _, rfl, _⟩ := h; rfl) | (obtain ⟨_, _, _, _, rfl, _⟩ := h; rfl) | (obtain ⟨_, _, _, _, _, rfl, _⟩ := h; rfl) | (obtain ⟨_, _, _, _, _, _, rfl, _⟩ := h; rfl) | (obtain ⟨_, _, _, _, _, _, _, rfl, _⟩ := h; rfl) | (obtain ⟨_, _, _, _, _, _, _, _, rfl, _⟩ := h; rfl) | (obtain ⟨_, _, _, _, _, _, _, _, _, rfl, _⟩ := h; rfl) | (obtain ⟨_, _, _, _, _, _, _, _, _, _, rfl, _⟩ := h; rfl) | (obtain ⟨_, _, _, _, _, _, _, _, _, _, _, rfl, _⟩ := h; rfl) | (obtain ⟨_, _, _, _, _, _, _, _, _, _, _, _, rfl, _⟩ := h; rfl) | (obtain ⟨_, _, _, _, _, _, _, _, _, _, _, _, _, rfl, _⟩ := h; rfl) | (obtain ⟨_, _, _, _, _, _, _, _, _, _, _, _, _, _, rfl, _⟩ := h; rfl) | (obtain ⟨_, _, _, _, _, _, _, _, _, _, _, _, _, _, _, rfl, _⟩ := h; rfl)
  · exact (pss_one (ps_tryT (i := 3) rfl rfl sc__law_told.nd rfl sc__law_told_v3 (by rfl) x_StrewError.g cal__law_word hr (by decide) (by rfl) (fun W pn xe tk => (pss_cons (ps_if (pt_cmpR op_eq (pv 0) pe_int (nomark _))
      (pss_one (ps_ret (pe_calS cal_longest hr (by decide) (by rfl) (fun σ => L2N.passAt tk σ) (pa_cons (pv 1) (pa_cons (pv 2) pa_nil)))))
      pss_nil)
      (pss_one (ps_ret (pe_calS cal_mean_longest hr (by decide) (by rfl) (fun σ => L2N.passAt tk σ) (pa_cons (pv 1) (pa_cons (pv 2) pa_nil))))))) (fun _ _ => pv 3)))
theorem sc__law_fraction : FnScope ["_law_top", "_law_under", "_law_one", "_law_other"] ["_law_top", "_law_under"] (defScope s__law_fraction) := ⟨rfl, rfl, rfl, by decide +kernel, rfl, by decide +kernel, by decide +kernel⟩
theorem sc__law_fraction_v0 : (defScope s__law_fraction).names.lookup ("_law_top" : Str) = some .local := by decide +kernel
theorem sc__law_fraction_v1 : (defScope s__law_fraction).names.lookup ("_law_under" : Str) = some .local := by decide +kernel
theorem sc__law_fraction_v2 : (defScope s__law_fraction).names.lookup ("_law_one" : Str) = some .local := by decide +kernel
theorem sc__law_fraction_v3 : (defScope s__law_fraction).names.lookup ("_law_other" : Str) = some .local := by decide +kernel
def t__law_fraction (K : PySem.W.Frag) (cs : Cs) (E : XK) : TS :=
  (tSeq (tPar 2 3 (tCons (tVar 0) (tCons (tVar 1) tNil)))
  (tSeq (tWhile (tTest (tOp (rI0 fun i j => .bl (decide (j < i))) (tVar 3) (tC (.int 0))))
  (tPar 2 3 (tCons (tVar 3) (tCons (tOp (rI (fun _ j => 0 < j) fun i j => .int (i % j)) (tVar 2) (tVar 3)) tNil))))
  (tRet (tTup (tCons (tOp (rI CDivW fun i j => .int (i / j)) (tVar 0) (tVar 2)) (tCons (tOp (rI CDivW fun i j => .int (i / j)) (tVar 1) (tVar 2)) tNil))))))
def sp__law_fraction (K : PySem.W.Frag) (_ : Cs) : Sp := fun vs H Q _ => ∃ m n : Nat, vs = [.int (m : Int), .int (n : Int)] ∧ 0 < n ∧ n < 2 ^ 4000 ∧ ∀ p, H p = none → upR Q (.ref p) (upd H p (.tup [.int ((fr m n).1 : Nat), .int ((fr m n).2 : Nat)]))
theorem c__law_fraction {K : PySem.W.Frag} {cs : Cs} {H : Hp} {i j : Int} {m n : Nat} {Q : PV} {E : XK} (hi : i = (m : Int)) (hj : j = (n : Int)) (h0 : 0 < n) (hb : n < 2 ^ 4000) (k : ∀ p, H p = none → Q (.ref p) (upd H p (.tup [.int ((fr m n).1 : Nat), .int ((fr m n).2 : Nat)]))) :
    kC (fun ws H Q => sp__law_fraction K cs ws H Q E) [.int i, .int j] H Q := by
  subst hi hj
  exact fun H1 e _ q => ⟨m, n, rfl, h0, hb, fun p hp H2 e2 => q _ _ _ (k p (e.fresh hp)) ((e.ups _ _).tr e2)⟩
theorem pure__law_fraction {K : PySem.W.Frag} {cs : Cs} {H : Hp} {vs : List V} {Q : VK} {E : XK} (h : sp__law_fraction K cs vs H Q E) : t__law_fraction K cs E { nx := fun _ H' => Q .non H', rt := Q } (start ["_law_top", "_law_under", "_law_one", "_law_other"] vs) H := by
  obtain ⟨m, n, rfl, h0, hb, q⟩ := h
  refine fin (σ := [some (.int m), some (.int n), none, none]) ?_
  unfold t__law_fraction
  k_clsL
  refine s_while (fun z s H1 => ∃ a b : Nat, z = b ∧ s = [some (.int m), some (.int n), some (.int a), some (.int b)] ∧ Nat.gcd a b = Nat.gcd m n ∧ H1 = H) n ⟨m, n, rfl, rfl, rfl, rfl⟩ ?_
  rintro z s H1 ⟨a, b, rfl, rfl, hg, rfl⟩
  k_clsL
  refine ⟨fun h1 => ?_, fun h1 => ?_⟩
  · have hb0 : 0 < z := by simpa using h1
    k_clsL
    refine ⟨a % z, _, Nat.mod_lt _ hb0, ⟨z, a % z, rfl, ?_, ?_, rfl⟩, Ex.rf⟩
    · rw [Int.natCast_emod]; rfl
    · rw [gcd_turn]; exact hg
  · have hb0 : z = 0 := by simpa using h1
    subst hb0
    rw [Nat.gcd_zero_right] at hg
    subst hg
    have hp : 0 < Nat.gcd m n := Nat.gcd_pos_of_pos_right m h0
    have hl : Nat.gcd m n ≤ n := Nat.le_of_dvd h0 (Nat.gcd_dvd_right m n)
    have hd : ∀ i : Int, CDivW i ((Nat.gcd m n : Nat) : Int) := fun i => divw hp (Nat.lt_of_le_of_lt hl hb) (by decide) (by decide)
    have hd1 := hd m
    have hd2 := hd n
    k_clsL
    exact q _ (by assumption)
theorem ok__law_fraction {P : Program} {w : World} {K : PySem.W.Frag} {mg : Str → Option Value} {base : Heap} {cs : Cs} (D__law_fraction : Dn K mg "_law_fraction" s__law_fraction ["_law_top", "_law_under"]) :
    Cal P w K mg base (L2N.CX P w) 1 "_law_fraction" ["_law_top", "_law_under"] (sp__law_fraction K cs) := by
  refine cal_mk D__law_fraction sc__law_fraction (fun vs H Q E h => ?_) fun f cdv A outer s H vs Q E hr h => ⟨t__law_fraction K cs E, ?_, pure__law_fraction h⟩
  · unfold sp__law_fraction at h
    first | (obtain ⟨rfl, _⟩ := h; rfl) | (obtain ⟨_, rfl, _⟩ := h; rfl) | (obtain ⟨_, _, rfl, _⟩ := h; rfl) | (obtain ⟨_, _, _, rfl, _⟩ := h; rfl) | (obtain ⟨_, _, _, _, rfl, _⟩ := h; rfl) | (obtain ⟨_, _, _, _, _, rfl, _⟩ := h; rfl) | (obtain ⟨_, _, _, _, _, _, rfl, _⟩ := h; rfl) | (obtain ⟨_, _, _, _, _, _, _, rfl, _⟩ := h; rfl) | (obtain ⟨_, _, _, _, _, _, _, _, rfl, _⟩ := h; rfl) | (obtain ⟨_, _, _, _, _, _, _, _, _, rfl, _⟩ := h; rfl) | (obtain ⟨_, _, _, _, _, _, _, _, _, _, rfl, _⟩ := h; rfl) | (obtain ⟨_, _, _, _, _, _, _, _, _, _, _, rfl, _⟩ := h; rfl) | (obtain ⟨_, _, _, _, _, _, _, _, _, _, _, _, rfl, _⟩ := h; rfl) | (obtain ⟨_, _, _, _, _, _, _, _, _, _, _, _, _, rfl, _⟩ := h; rfl) | (obtain ⟨_, _, _, _, _, _, _, _, _, _, _, _, _, _, rfl, _⟩ := h; rfl) | (obtain ⟨_, _, _, _, _, _, _, _, _, _, _, _, _, _, _, rfl, _⟩ := h; rfl)
  · exact (pss_cons (ps_par (i := 2) (j := 3) rfl sc__law_fraction.nd rfl rfl (by decide) sc__law_fraction_v2 sc__law_fraction_v3 (pa_cons (pv 0) (pa_cons (pv 1) pa_nil)) (by rfl))
      (pss_cons (ps_while (passes_of rfl) (pt_cmpR op_gt (pv 3) pe_int (nomark _))
      (pss_one (ps_par (i := 2) (j := 3) rfl sc__law_fraction.nd rfl rfl (by decide) sc__law_fraction_v2 sc__law_fraction_v3 (pa_cons (pv 3) (pa_cons (pe_op op_mod (pv 2) (pv 3)) pa_nil)) (by rfl))))
      (pss_one (ps_ret (pe_tup (pa_cons (pe_op op_fdivW (pv 0) (pv 2)) (pa_cons (pe_op op_fdivW (pv 1) (pv 2)) pa_nil)))))))
theorem sc__law_chosen : FnScope ["_law_many", "_law_here", "_law_found", "_law_j"] ["_law_many", "_law_here"] (defScope s__law_chosen) := ⟨rfl, rfl, rfl, by decide +kernel, rfl, by decide +kernel, by decide +kernel⟩
theorem sc__law_chosen_v0 : (defScope s__law_chosen).names.lookup ("_law_many" : Str) = some .local := by decide +kernel
theorem sc__law_chosen_v1 : (defScope s__law_chosen).names.lookup ("_law_here" : Str) = some .local := by decide +kernel
theorem sc__law_chosen_v2 : (defScope s__law_chosen).names.lookup ("_law_found" : Str) = some .local := by decide +kernel
theorem sc__law_chosen_v3 : (defScope s__law_chosen).names.lookup ("_law_j" : Str) = some .local := by decide +kernel
def t__law_chosen (K : PySem.W.Frag) (cs : Cs) (E : XK) : TS :=
  (tSeq (tAsg (tC (.int 1)) (gName 2))
  (tSeq (tFor (iRng1 (tCons (tVar 1) tNil)) (gName 3)
  (tAsg (tOp (rI CDivW fun i j => .int (i / j)) (tOp (rI IntMulOk fun i j => .int (i * j)) (tVar 2) (tOp (rI0 fun i j => .int (i - j)) (tVar 0) (tVar 3))) (tOp (rI0 fun i j => .int (i + j)) (tVar 3) (tC (.int 1)))) (gName 2)))
  (tRet (tVar 2))))
def sp__law_chosen (K : PySem.W.Frag) (_ : Cs) : Sp := fun vs H Q _ => ∃ l h : Nat, vs = [.int (l : Int), .int (h : Int)] ∧ l ≤ 24 ∧ h ≤ l ∧ upR Q (.int ((pc l h : Nat) : Int)) H
theorem c__law_chosen {K : PySem.W.Frag} {cs : Cs} {H : Hp} {l h : Nat} {i j : Int} {Q : PV} {E : XK} (hi : i = l) (hj : j = h) (hl : l ≤ 24) (hh : h ≤ l) (k : Q (.int ((pc l h : Nat) : Int)) H) : kC (fun ws H Q => sp__law_chosen K cs ws H Q E) [.int i, .int j] H Q := by
  subst hi hj
  exact fun H1 e _ q => ⟨l, h, rfl, hl, hh, fun H2 e2 => q _ _ _ k (e.tr e2)⟩
theorem pure__law_chosen {K : PySem.W.Frag} {cs : Cs} {H : Hp} {vs : List V} {Q : VK} {E : XK} (h : sp__law_chosen K cs vs H Q E) : t__law_chosen K cs E { nx := fun _ H' => Q .non H', rt := Q } (start ["_law_many", "_law_here", "_law_found", "_law_j"] vs) H := by
  obtain ⟨l, h, rfl, hl, hh, q⟩ := h
  refine fin (σ := [some (.int (l : Int)), some (.int (h : Int)), none, none]) ?_
  unfold t__law_chosen
  k_clsL
  refine s_for ?_
  k_clsL
  refine ⟨by omega, fun i σ H1 => H1 = H ∧ ∃ z, σ = [some (.int (l : Int)), some (.int (h : Int)), some (.int ((chN l i : Nat) : Int)), z], ⟨rfl, none, rfl⟩, fun _ _ _ _ _ => trivial, ?_, ?_⟩
  · rintro i σ H1 hi ⟨rfl, z, rfl⟩
    refine g_name ?_
    have hm : IntMulOk ((chN l i : Nat) : Int) ((l : Int) - (i : Int)) := mulxR (by omega) (by omega)
    k_clsL
    refine ⟨_, ⟨rfl, some (.int (i : Nat)), ?_⟩, Ex.rf⟩
    have e1 : (l : Int) - (i : Int) = ((l - i : Nat) : Int) := by omega
    have e3 : ((chN l i : Nat) : Int) * ((l : Int) - (i : Int)) / ((i : Int) + 1) = ((chN l (i + 1) : Nat) : Int) := by
      rw [e1]
      show _ = ((chN l i * (l - i) / (i + 1) : Nat) : Int)
      push_cast
      rfl
    rw [e3]
    rfl
  · rintro σ H1 ⟨rfl, z, rfl⟩
    k_clsL
    rw [pc_ch l hl h hh]
    exact q
theorem ok__law_chosen {P : Program} {w : World} {K : PySem.W.Frag} {mg : Str → Option Value} {base : Heap} {cs : Cs} (D__law_chosen : Dn K mg "_law_chosen" s__law_chosen ["_law_many", "_law_here"]) (m_range : mg "range" = none) :
    Cal P w K mg base (L2N.CX P w) 1 "_law_chosen" ["_law_many", "_law_here"] (sp__law_chosen K cs) := by
  refine cal_mk D__law_chosen sc__law_chosen (fun vs H Q E h => ?_) fun f cdv A outer s H vs Q E hr h => ⟨t__law_chosen K cs E, ?_, pure__law_chosen h⟩
  · unfold sp__law_chosen at h
    first | (obtain ⟨rfl, _⟩ := h; rfl) | (obtain ⟨_, rfl, _⟩ := h; rfl) | (obtain ⟨_, _, rfl, _⟩ := h; rfl) | (obtain ⟨_, _, _, rfl, _⟩ := h; rfl) | (obtain ⟨_, _, _, _, rfl, _⟩ := h; rfl) | (obtain ⟨_, _, _, _, _, rfl, _⟩ := h; rfl) | (obtain ⟨_, _, _, _, _, _, rfl, _⟩ := h; rfl) | (obtain ⟨_, _, _, _, _, _, _, rfl, _⟩ := h; rfl) | (obtain ⟨_, _, _, _, _, _, _, _, rfl, _⟩ := h; rfl) | (obtain ⟨_, _, _, _, _, _, _, _, _, rfl, _⟩ := h; rfl) | (obtain ⟨_, _, _, _, _, _, _, _, _, _, rfl, _⟩ := h; rfl) | (obtain ⟨_, _, _, _, _, _, _, _, _, _, _, rfl, _⟩ := h; rfl) | (obtain ⟨_, _, _, _, _, _, _, _, _, _, _, _, rfl, _⟩ := h; rfl) | (obtain ⟨_, _, _, _, _, _, _, _, _, _, _, _, _, rfl, _⟩ := h; rfl) | (obtain ⟨_, _, _, _, _, _, _, _, _, _, _, _, _, _, rfl, _⟩ := h; rfl) | (obtain ⟨_, _, _, _, _, _, _, _, _, _, _, _, _, _, _, rfl, _⟩ := h; rfl)
  · exact (pss_cons (ps_set (i := 2) sc__law_chosen.nd rfl (Or.inl sc__law_chosen_v2) pe_int)
      (pss_cons (ps_for (passes_of rfl) rfl (pi_range1 (by rfl) m_range (pa_cons (pv 1) pa_nil)) (pg_name (i := 3) sc__law_chosen.nd rfl (Or.inl sc__law_chosen_v3))
      (pss_one (ps_set (i := 2) sc__law_chosen.nd rfl (Or.inl sc__law_chosen_v2) (pe_op op_fdivW (pe_op op_mulX (pv 2) (pe_op op_sub (pv 0) (pv 3))) (pe_op op_add (pv 3) pe_int)))))
      (pss_one (ps_ret (pv 2)))))
theorem sc__law_bounded : FnScope ["_law_size", "_law_many", "_law_most", "_law_rows", "_law_place", "_law_row", "_law_left", "_law_fit", "_law_here"] ["_law_size", "_law_many", "_law_most"] (defScope s__law_bounded) := ⟨rfl, rfl, rfl, by decide +kernel, rfl, by decide +kernel, by decide +kernel⟩
theorem sc__law_bounded_v0 : (defScope s__law_bounded).names.lookup ("_law_size" : Str) = some .local := by decide +kernel
theorem sc__law_bounded_v1 : (defScope s__law_bounded).names.lookup ("_law_many" : Str) = some .local := by decide +kernel
theorem sc__law_bounded_v2 : (defScope s__law_bounded).names.lookup ("_law_most" : Str) = some .local := by decide +kernel
theorem sc__law_bounded_v3 : (defScope s__law_bounded).names.lookup ("_law_rows" : Str) = some .cell := by decide +kernel
theorem sc__law_bounded_v4 : (defScope s__law_bounded).names.lookup ("_law_place" : Str) = some .local := by decide +kernel
theorem sc__law_bounded_v5 : (defScope s__law_bounded).names.lookup ("_law_row" : Str) = some .local := by decide +kernel
theorem sc__law_bounded_v6 : (defScope s__law_bounded).names.lookup ("_law_left" : Str) = some .cell := by decide +kernel
theorem sc__law_bounded_v7 : (defScope s__law_bounded).names.lookup ("_law_fit" : Str) = some .local := by decide +kernel
def t__law_bounded (K : PySem.W.Frag) (cs : Cs) (E : XK) : TS :=
  (tSeq (tAsg (tLst (tCons (tOp rCat (tLst (tCons (tC (.int 1)) tNil)) (tOp rRep (tLst (tCons (tC (.int 0)) tNil)) (tVar 1))) tNil)) (gName 3))
  (tSeq (tFor (iRng1 (tCons (tVar 0) tNil)) (gName 4)
  (tSeq (tAsg (tLst tNil) (gName 5))
  (tSeq (tFor (iRng1 (tCons (tOp (rI0 fun i j => .int (i + j)) (tVar 1) (tC (.int 1))) tNil)) (gName 6)
  (tSeq (tAsg (tLc (iRng1 (tCons (tOp (rI0 fun i j => .int (i + j)) (tCB (fun xs H Q => ∃ i j, xs = [V.int i, .int j] ∧ Q (.int (if j < i then j else i)) H) (tCons (tVar 2) (tCons (tVar 6) tNil))) (tC (.int 1))) tNil)) (gName 8) (tTest (tOp (rI0 fun i j => .bl (decide (j < i))) (tOp (rIxL K) (tOp (rIxL K) (tVar 3) (tUn (rU fun i => .int (-i)) (tC (.int 1)))) (tOp (rI0 fun i j => .int (i - j)) (tVar 6) (tVar 8))) (tC (.int 0)))) (tVar 8) [8]) (gName 7))
  (tDrop (tBM K "list" rAppend (tVar 5) (tCons (tCB (rSum K) (tCons (tLc (iList K (tVar 7)) (gName 8) tYes (tOp (rI IntMulOk fun i j => .int (i * j)) (tCall (sp__law_chosen K cs) [] E0 (tCons (tVar 6) (tCons (tVar 8) tNil))) (tOp (rIxL K) (tOp (rIxL K) (tVar 3) (tUn (rU fun i => .int (-i)) (tC (.int 1)))) (tOp (rI0 fun i j => .int (i - j)) (tVar 6) (tVar 8)))) [8]) tNil)) tNil)))))
  (tDrop (tBM K "list" rAppend (tVar 3) (tCons (tVar 5) tNil))))))
  (tRet (tOp (rIxL K) (tOp (rIxL K) (tVar 3) (tUn (rU fun i => .int (-i)) (tC (.int 1)))) (tVar 1)))))
theorem sum_filter0 {f : Nat → Nat} {g : Nat → Nat} : ∀ {l : List Nat}, (((l.filter fun h => decide (0 < g h)).map fun h => f h * g h)).sum = (l.map fun h => f h * g h).sum
  | [] => rfl
  | a :: l => by
    rw [List.filter_cons]
    by_cases h : 0 < g a
    · simp [h, sum_filter0 (l := l)]
    · have : g a = 0 := by omega
      simp [this, sum_filter0 (l := l)]
def sp__law_bounded (K : PySem.W.Frag) (_ : Cs) : Sp := fun vs H Q _ => ∃ s m most : Nat, vs = [.int (s : Int), .int (m : Int), .int (most : Int)] ∧ s ≤ 22 ∧ m ≤ 24 ∧ most ≤ 24 ∧ upR Q (.int ((Bf most s m : Nat) : Int)) H
theorem c__law_bounded {K : PySem.W.Frag} {cs : Cs} {H : Hp} {s m most : Nat} {i j k : Int} {Q : PV} {E : XK} (hi : i = s) (hj : j = m) (hk : k = most) (hs : s ≤ 22) (hm : m ≤ 24) (hmo : most ≤ 24) (q : Q (.int ((Bf most s m : Nat) : Int)) H) :
    kC (fun ws H Q => sp__law_bounded K cs ws H Q E) [.int i, .int j, .int k] H Q := by
  subst hi hj hk
  exact fun H1 e _ qq => ⟨s, m, most, rfl, hs, hm, hmo, fun H2 e2 => qq _ _ _ q (e.tr e2)⟩
theorem fm_filter {g : Nat → Nat} : ∀ {l : List Nat}, (l.filterMap fun h => if 0 < g h then some (V.int ((h : Nat) : Int)) else none) = (nI (l.filter fun h => decide (0 < g h))).map V.int
  | [] => rfl
  | a :: l => by
    rw [List.filterMap_cons, List.filter_cons]
    by_cases h : 0 < g a
    · simp only [h, if_true, decide_true]
      rw [fm_filter (l := l)]
      rfl
    · simp only [h, if_false, decide_false, Bool.false_eq_true]
      exact fm_filter (l := l)
theorem pure__law_bounded {K : PySem.W.Frag} {cs : Cs} {H : Hp} {vs : List V} {Q : VK} {E : XK} (h : sp__law_bounded K cs vs H Q E) : t__law_bounded K cs E { nx := fun _ H' => Q .non H', rt := Q } (start ["_law_size", "_law_many", "_law_most", "_law_rows", "_law_place", "_law_row", "_law_left", "_law_fit", "_law_here"] vs) H := by
  obtain ⟨s, m, most, rfl, hs, hm, hmo, q⟩ := h
  refine fin (σ := [some (.int (s : Int)), some (.int (m : Int)), some (.int (most : Int)), none, none, none, none, none, none]) ?_
  unfold t__law_bounded
  k_clsL
  rename_i a1 ha1 a2 ha2
  refine r_rep1 (x := .int 0) (n := m) (by k_memK) (by omega) fun a3 ha3 => ?_
  k_clsL
  refine r_cat (by k_memK) (by k_memK) ?_ fun c0 hc0 => ?_
  · exact Nat.le_trans (m := 100) (by simp; omega) (by decide)
  k_clsL
  rename_i rl hrl
  refine s_for ?_
  k_clsL
  refine ⟨by omega, fun i σ H1 => Ex H H1 ∧ ∃ (ps : List Addr) (c : Addr) (z4 z5 z6 z7 : Option V), σ = [some (.int (s : Int)), some (.int (m : Int)), some (.int (most : Int)), some (.ref rl), z4, z5, z6, z7, none] ∧ H1 rl = some (.lst (ps.map V.ref)) ∧ ps.length = i + 1 ∧ ps[i]? = some c ∧ c ≠ rl ∧ H1 c = some (.lst ((Bl most i m).map V.int)),
    ⟨by k_offL, [c0], c0, none, none, none, none, rfl, upd_same, rfl, rfl, ?_, ?_⟩, fun _ _ _ _ _ => trivial, ?_, ?_⟩
  · exact fun e => by rw [e, upd_same] at hrl; cases hrl
  · rw [Bl_zero]
    k_memK
  · rintro i σ H1 hi ⟨e1, ps, c, z4, z5, z6, z7, rfl, hrl1, hlen, hpc, hne, hc⟩
    have hrow : ∀ {H2 : Hp}, Ex H1 H2 → atI (ps.map V.ref) (-1) = some (V.ref c) := fun _ => atI_lastN (n := i) (by rw [List.length_map, hlen]) (by rw [List.getElem?_map, hpc]; rfl)
    refine g_name ?_
    k_clsL
    rename_i l hl
    refine s_for ?_
    k_clsL
    refine ⟨(by show m + 1 < 2 ^ 61; omega), fun j σ H2 => Ex H1 H2 ∧ ∃ z6 z7, σ = [some (.int (s : Int)), some (.int (m : Int)), some (.int (most : Int)), some (.ref rl), some (.int (i : Int)), some (.ref l), z6, z7, none] ∧ H2 l = some (.lst ((nI ((List.range j).map fun l => Bf most (i + 1) l)).map V.int)), ⟨by k_offL, z6, z7, rfl, upd_same⟩, fun _ _ _ _ _ => trivial, ?_, ?_⟩
    · rintro j σ H2 hj ⟨e2, z6, z7, rfl, hl2⟩
      have hj : j < m + 1 := hj
      refine g_name ?_
      k_clsL
      refine e_lcF ?_
      k_clsL
      refine ⟨min j most + 1, by rw [min_nat, Nat.min_comm], by omega, trivial, by omega, fun h => if 0 < Bf most i (j - h) then some (.int ((h : Nat) : Int)) else none, fun D acc h hD hh => ?_, fun D hD => ?_⟩
      · refine g_name ⟨rfl, ?_⟩
        k_clsL
        refine r_ixL (SqL.of (Ex.news hD _ _ (e2 _ _ hrl1))) (hrow e2) ?_
        k_clsL
        have ejh : (j : Int) - (h : Int) = ((j - h : Nat) : Int) := by omega
        rw [ejh]
        refine r_ixL (SqL.of (Ex.news hD _ _ (e2 _ _ hc))) (atI_nat (Bl_at (by omega))) ?_
        k_clsL
        refine ⟨fun hb => ?_, fun hb => ?_⟩
        · have := of_decide_eq_true hb
          k_clsL
          exact ⟨if_pos (by omega), by k_offL⟩
        · have := of_decide_eq_false hb
          exact ⟨if_neg (by omega), by k_offL⟩
      · rw [fm_filter (g := fun h => Bf most i (j - h))]
        k_clsL
        refine e_lcZ ?_
        k_clsL
        refine ⟨SqL.of upd_same, ?_, (nI (((List.range (min j most + 1)).filter fun h => decide (0 < Bf most i (j - h))).map fun h => pc j h * Bf most i (j - h))).map V.int, by simp [nI], fun D2 acc h hD2 hh x hx => ?_, fun D2 hD2 => ?_⟩
        · rw [List.length_map, nI_len]
          refine Nat.le_trans (List.length_filter_le _ _) ?_
          rw [List.length_range]
          omega
        · have hx : ((nI ((List.range (min j most + 1)).filter fun h => decide (0 < Bf most i (j - h)))).map V.int)[h]? = some x := hx
          rw [nI_v, List.getElem?_map] at hx
          cases hf : ((List.range (min j most + 1)).filter fun h => decide (0 < Bf most i (j - h)))[h]? with
          | none => rw [hf] at hx; cases hx
          | some w =>
            rw [hf] at hx
            have hx : V.int (w : Int) = x := Option.some.inj hx
            subst hx
            have hw := List.mem_range.mp (List.mem_filter.mp (List.mem_of_getElem? hf)).1
            have e22 : Ex H2 (upd (upd H2 D (.lst ((nI ((List.range (min j most + 1)).filter fun h => decide (0 < Bf most i (j - h)))).map V.int))) D2 (.lst acc)) := Ex.newr (Ex.newr Ex.rf hD) hD2
            refine g_name ⟨rfl, t_yes ⟨rfl, ?_⟩⟩
            k_clsL
            refine c__law_chosen rfl rfl (by omega) (by omega) ?_
            k_clsL
            refine r_ixL (SqL.of (e22 _ _ (e2 _ _ hrl1))) (hrow e2) ?_
            k_clsL
            have ejh : (j : Int) - (w : Int) = ((j - w : Nat) : Int) := by omega
            rw [ejh]
            refine r_ixL (SqL.of (e22 _ _ (e2 _ _ hc))) (atI_nat (Bl_at (by omega))) ?_
            have hp := pc_lt (l := j) (h := w) (by omega)
            k_clsL
            refine ⟨?_, by k_offL⟩
            rw [nI_map, List.getElem?_map, hf]
            simp
        · k_clsL
          refine c_sum (SqL.of upd_same) ?_
          k_clsL
          refine m_append (l := l) (by k_memK) (by simp [nI]; omega) ?_
          refine ⟨_, ⟨(Ex.newr (Ex.newr e2 hD) hD2).mutr hl, _, _, rfl, ?_⟩, Ex.rf⟩
          rw [upd_same, nI_sum, sum_filter0 (f := fun h => pc j h) (g := fun h => Bf most i (j - h))]
          have eb : Bf most (i + 1) j = ((List.range (min j most + 1)).map fun h => pc j h * Bf most i (j - h)).sum := by rw [Bf]
          rw [← eb, List.range_succ]
          simp [nI]
    · rintro σ H2 ⟨e2, z6, z7, rfl, hl2⟩
      have hrl2 := e2 _ _ hrl1
      k_clsL
      refine m_append hrl2 (by rw [List.length_map]; omega) ?_
      have hlr : l ≠ rl := fun e => by rw [e, hrl1] at hl; cases hl
      refine ⟨_, ⟨(e1.tr e2).mutr (Ex.fresh (by k_offL) hrl), ps ++ [l], l, _, _, _, _, rfl, by rw [List.map_append]; exact upd_same, by rw [List.length_append, hlen]; rfl, ?_, hlr, ?_⟩, Ex.rf⟩
      · rw [List.getElem?_append_right (by omega), hlen]
        simp
      · rw [L2.upd_ne hlr]
        exact hl2
  · rintro σ H1 ⟨e1, ps, c, z4, z5, z6, z7, rfl, hrl1, hlen, hpc, hne, hc⟩
    k_clsL
    refine r_ixL (SqL.of hrl1) (atI_lastN (n := s) (by rw [List.length_map, hlen]) (by rw [List.getElem?_map, hpc]; rfl)) ?_
    k_clsL
    refine r_ixL (SqL.of hc) (atI_nat (Bl_at (Nat.le_refl m))) ?_
    exact upX q e1
theorem ok__law_bounded {P : Program} {w : World} {K : PySem.W.Frag} {mg : Str → Option Value} {base : Heap} {cs : Cs} (D__law_bounded : Dn K mg "_law_bounded" s__law_bounded ["_law_size", "_law_many", "_law_most"]) (cal__law_chosen : Cal P w K mg base (L2N.CX P w) 1 "_law_chosen" ["_law_many", "_law_here"] (sp__law_chosen K cs)) (m_range : mg "range" = none) (m_min : mg "min" = none) (m_sum : mg "sum" = none) :
    Cal P w K mg base (L2N.CX P w) 2 "_law_bounded" ["_law_size", "_law_many", "_law_most"] (sp__law_bounded K cs) := by
  refine cal_mk D__law_bounded sc__law_bounded (fun vs H Q E h => ?_) fun f cdv A outer s H vs Q E hr h => ⟨t__law_bounded K cs E, ?_, pure__law_bounded h⟩
  · unfold sp__law_bounded at h
    first | (obtain ⟨rfl, _⟩ := h; rfl) | (obtain ⟨_, rfl, _⟩ := h; rfl) | (obtain ⟨_, _, rfl, _⟩ := h; rfl) | (obtain ⟨_, _, _, rfl, _⟩ := h; rfl) | (obtain ⟨_, _, _, _, rfl, _⟩ := h; rfl) | (obtain ⟨_, _, _, _, _, rfl, _⟩ := h; rfl) | (obtain ⟨_, _, _, _, _, _, rfl, _⟩ := h; rfl) | (obtain ⟨_, _, _, _, _, _, _, rfl, _⟩ := h; rfl) | (obtain ⟨_, _, _, _, _, _, _, _, rfl, _⟩ := h; rfl) | (obtain ⟨_, _, _, _, _, _, _, _, _, rfl, _⟩ := h; rfl) | (obtain ⟨_, _, _, _, _, _, _, _, _, _, rfl, _⟩ := h; rfl) | (obtain ⟨_, _, _, _, _, _, _, _, _, _, _, rfl, _⟩ := h; rfl) | (obtain ⟨_, _, _, _, _, _, _, _, _, _, _, _, rfl, _⟩ := h; rfl) | (obtain ⟨_, _, _, _, _, _, _, _, _, _, _, _, _, rfl, _⟩ := h; rfl) | (obtain ⟨_, _, _, _, _, _, _, _, _, _, _, _, _, _, rfl, _⟩ := h; rfl) | (obtain ⟨_, _, _, _, _, _, _, _, _, _, _, _, _, _, _, rfl, _⟩ := h; rfl)
  · exact (pss_cons (ps_set (i := 3) sc__law_bounded.nd rfl (Or.inr sc__law_bounded_v3) (pe_lst (pa_cons (pe_op op_cat (pe_lst (pa_cons pe_int pa_nil)) (pe_op op_rep (pe_lst (pa_cons pe_int pa_nil)) (pv 1))) pa_nil)))
      (pss_cons (ps_for (passes_of rfl) rfl (pi_range1 (by rfl) m_range (pa_cons (pv 0) pa_nil)) (pg_name (i := 4) sc__law_bounded.nd rfl (Or.inl sc__law_bounded_v4))
      (pss_cons (ps_set (i := 5) sc__law_bounded.nd rfl (Or.inl sc__law_bounded_v5) (pe_lst pa_nil))
      (pss_cons (ps_for (passes_of rfl) rfl (pi_range1 (by rfl) m_range (pa_cons (pe_op op_add (pv 1) pe_int) pa_nil)) (pg_name (i := 6) sc__law_bounded.nd rfl (Or.inr sc__law_bounded_v6))
      (pss_cons (ps_setLc (i := 7) (own := [("_law_here", 8)]) (g := (gName 8)) (tt := (tTest (tOp (rI0 fun i j => .bl (decide (j < i))) (tOp (rIxL K) (tOp (rIxL K) (tVar 3) (tUn (rU fun i => .int (-i)) (tC (.int 1)))) (tOp (rI0 fun i j => .int (i - j)) (tVar 6) (tVar 8))) (tC (.int 0))))) (by rfl) sc__law_bounded.nd rfl rfl (sw_true rfl rfl rfl (by decide +kernel)) (pi_range1 (by rfl) m_range (pa_cons (pe_op op_add (pe_callB (call_min2 rfl) (by rfl) m_min (by decide +kernel) (pa_cons (pv 2) (pa_cons (pv 6) pa_nil))) pe_int) pa_nil)) (blkOk_by (own := [("_law_here", 8)]) (N := ["_law_size", "_law_many", "_law_most", "_law_rows", "_law_place", "_law_row", "_law_left", "_law_fit", "_law_here"]) (sc := defScope s__law_bounded) (by decide +kernel)) (fun _ _ _ _ _ => (pg_name (i := 8) sc__law_bounded.nd rfl (Or.inl rfl))) (fun _ _ _ _ _ => (pts_one (pt_cmpR op_gt (pe_ix ix_list (pe_ix ix_list (pv 3) (pe_un un_neg pe_int) (fun _ _ => rfl)) (pe_op op_sub (pv 6) (pv 8)) (fun _ _ => rfl)) pe_int (nomark _)))) (fun _ _ _ _ _ => (pv 8)))
      (pss_one (ps_expr (pe_bm PySem.F.plainAttrs_list PySem.F.slot_list_append PySem.F.type_list_append mt_append (pv 5) (pa_cons (pe_callB (cr_sum rfl) (by rfl) m_sum (by decide +kernel) (pa_cons (pe_lc (own := [("_law_here", 8)]) (g := (gName 8)) (tt := tYes) (by rfl) sc__law_bounded.nd (pi_list (pv 7)) (blkOk_by (own := [("_law_here", 8)]) (N := ["_law_size", "_law_many", "_law_most", "_law_rows", "_law_place", "_law_row", "_law_left", "_law_fit", "_law_here"]) (sc := defScope s__law_bounded) (by decide +kernel)) (fun _ _ _ _ _ => (pg_name (i := 8) sc__law_bounded.nd rfl (Or.inl rfl))) (fun _ _ _ _ _ => pts_nil) (fun _ _ _ _ _ => (pe_op op_mulX (pe_cal cal__law_chosen hr (by decide) (by rfl) passN (pa_cons (pv 6) (pa_cons (pv 8) pa_nil))) (pe_ix ix_list (pe_ix ix_list (pv 3) (pe_un un_neg pe_int) (fun _ _ => rfl)) (pe_op op_sub (pv 6) (pv 8)) (fun _ _ => rfl))))) pa_nil)) pa_nil))))))
      (pss_one (ps_expr (pe_bm PySem.F.plainAttrs_list PySem.F.slot_list_append PySem.F.type_list_append mt_append (pv 3) (pa_cons (pv 5) pa_nil)))))))
      (pss_one (ps_ret (pe_ix ix_list (pe_ix ix_list (pv 3) (pe_un un_neg pe_int) (fun _ _ => rfl)) (pv 1) (fun _ _ => rfl))))))
theorem sc_law : FnScope ["_law_script", "_law_k", "_law_more", "_law_size", "_law_most", "_law_many", "_law_heights_here", "_law_whole", "_law_great", "_law_keys", "_law_found", "_law_at", "_law_one", "_law_other", "_law_n", "_law_way", "_law_count"] ["_law_script"] (defScope s_law) := ⟨rfl, rfl, rfl, by decide +kernel, rfl, by decide +kernel, by decide +kernel⟩
theorem sc_law_v0 : (defScope s_law).names.lookup ("_law_script" : Str) = some .local := by decide +kernel
theorem sc_law_v1 : (defScope s_law).names.lookup ("_law_k" : Str) = some .local := by decide +kernel
theorem sc_law_v2 : (defScope s_law).names.lookup ("_law_more" : Str) = some .local := by decide +kernel
theorem sc_law_v3 : (defScope s_law).names.lookup ("_law_size" : Str) = some .local := by decide +kernel
theorem sc_law_v4 : (defScope s_law).names.lookup ("_law_most" : Str) = some .local := by decide +kernel
theorem sc_law_v5 : (defScope s_law).names.lookup ("_law_many" : Str) = some .local := by decide +kernel
theorem sc_law_v6 : (defScope s_law).names.lookup ("_law_heights_here" : Str) = some .cell := by decide +kernel
theorem sc_law_v7 : (defScope s_law).names.lookup ("_law_whole" : Str) = some .cell := by decide +kernel
theorem sc_law_v8 : (defScope s_law).names.lookup ("_law_great" : Str) = some .local := by decide +kernel
theorem sc_law_v9 : (defScope s_law).names.lookup ("_law_keys" : Str) = some .local := by decide +kernel
theorem sc_law_v10 : (defScope s_law).names.lookup ("_law_found" : Str) = some .local := by decide +kernel
theorem sc_law_v11 : (defScope s_law).names.lookup ("_law_at" : Str) = some .local := by decide +kernel
theorem sc_law_v12 : (defScope s_law).names.lookup ("_law_one" : Str) = some .cell := by decide +kernel
theorem sc_law_v13 : (defScope s_law).names.lookup ("_law_other" : Str) = some .cell := by decide +kernel
def t_law_c6 (K : PySem.W.Frag) (cs : Cs) (E : XK) : TS :=
  (tSeq (tAsg (tOp (rIxL K) (tLst (tCons (tTup (tCons (tC (.int 1)) (tCons (tC (.int 2)) tNil))) (tCons (tTup (tCons (tC (.int 65)) (tCons (tC (.int 2)) tNil))) (tCons (tTup (tCons (tC (.int 4)) (tCons (tC (.int 65)) tNil))) (tCons (tTup (tCons (tC (.int 4)) (tCons (tUn (rU fun i => .int (-i)) (tC (.int 1))) tNil))) (tCons (tTup (tCons (tC (.bl true)) (tCons (tC (.int 2)) tNil))) (tCons (tTup (tCons (tC (.int 4)) (tCons (tC .non) tNil))) tNil))))))) (tOp (rI (fun _ j => 0 < j) fun i j => .int (i % j)) (tOp (rI CDivW fun i j => .int (i / j)) (tVar 2) (tOp (rI CPow fun i j => .int (i ^ j.toNat)) (tC (.int 2)) (tC (.int 24)))) (tC (.int 6)))) (gTup K 2 (gCons (gName 12) (gCons (gName 13) gNil))))
  (tIfS (tTest (tOp (rNeD K) (tLc (iRng1 (tCons (tC (.int 2)) tNil)) (gName 15) tYes (tCall (sp__law_told K cs) [] E0 (tCons (tVar 15) (tCons (tVar 12) (tCons (tVar 13) tNil)))) [15]) (tLst (tCons (tC (.str "BadSize")) (tCons (tC (.str "BadSize")) tNil)))))
  (tRet (tC (.bl false)))
  tNext))
def t_law_c5 (K : PySem.W.Frag) (cs : Cs) (E : XK) : TS :=
  (tSeq (tIfS (tTest (tOp (rNeD K) (tCall (sp__law_told K cs) [] E0 (tCons (tC (.int 1)) (tCons (tVar 8) (tCons (tVar 9) tNil)))) (tCall (sp__law_fraction K cs) [] E0 (tCons (tCB (rSum K) (tCons (tLc (iList K (tVar 10)) (gName 12) tYes (tOp (rI0 fun i j => .int (i - j)) (tVar 7) (tVar 12)) [12]) tNil)) (tCons (tVar 7) tNil)))))
  (tRet (tC (.bl false)))
  tNext)
  (t_law_c6 K cs E))
def t_law_c4 (K : PySem.W.Frag) (cs : Cs) (E : XK) : TS :=
  (tSeq (tAsg (tOp (rI (fun _ j => 0 < j) fun i j => .int (i % j)) (tOp (rI CDivW fun i j => .int (i / j)) (tVar 2) (tOp (rI CPow fun i j => .int (i ^ j.toNat)) (tC (.int 2)) (tC (.int 20)))) (tOp (rI0 fun i j => .int (i + j)) (tCB (fun xs H Q => ∃ i j, xs = [V.int i, .int j] ∧ Q (.int (if j < i then j else i)) H) (tCons (tVar 9) (tCons (tC (.int 9)) tNil))) (tC (.int 1)))) (gName 11))
  (tSeq (tIfS (tTest (tOp rNe (tOp (rIxL K) (tVar 10) (tVar 11)) (tCall (sp__law_bounded K cs) [] E0 (tCons (tVar 8) (tCons (tVar 9) (tCons (tVar 11) tNil))))))
  (tRet (tC (.bl false)))
  tNext)
  (t_law_c5 K cs E)))
def t_law_c3 (K : PySem.W.Frag) (cs : Cs) (E : XK) : TS :=
  (tSeq (tIfS (tOr (tTest (tOp rNe (tCB (fun xs H Q => ∃ p ys, xs = [V.ref p] ∧ (SqL K H p ys ∨ SqT K H p ys) ∧ Q (.int ys.length) H) (tCons (tVar 10) tNil)) (tOp (rI0 fun i j => .int (i + j)) (tVar 9) (tC (.int 1))))) (tOr (tTest (tOp (rNeD K) (tVar 10) (tCB (rSortedI K) (tCons (tVar 10) tNil)))) (tOr (tTest (tOp rNe (tOp (rIxL K) (tVar 10) (tUn (rU fun i => .int (-i)) (tC (.int 1)))) (tVar 7))) (tTest (tOp rNe (tOp (rI0 fun i j => .bl (decide (j < i))) (tOp (rIxL K) (tVar 10) (tC (.int 0))) (tC (.int 0))) (tOp rEq (tVar 9) (tC (.int 0))))))))
  (tRet (tC (.bl false)))
  tNext)
  (t_law_c4 K cs E))
def t_law_c2 (K : PySem.W.Frag) (cs : Cs) (E : XK) : TS :=
  (tSeq (tAsg (tOp (rI0 fun i j => .int (i + j)) (tC (.int 2)) (tOp (rI (fun _ j => 0 < j) fun i j => .int (i % j)) (tOp (rI CDivW fun i j => .int (i / j)) (tVar 2) (tC (.int 64))) (tC (.int 20)))) (gName 8))
  (tSeq (tAsg (tOp (rI (fun _ j => 0 < j) fun i j => .int (i % j)) (tOp (rI CDivW fun i j => .int (i / j)) (tVar 2) (tC (.int 4096))) (tC (.int 25))) (gName 9))
  (tSeq (tAsg (tCall (sp__law_told K cs) [] E0 (tCons (tC (.int 0)) (tCons (tVar 8) (tCons (tVar 9) tNil)))) (gName 10))
  (tSeq (tAsg (tCall (sp__law_power K cs) [] E0 (tCons (tVar 8) (tCons (tVar 9) tNil))) (gName 7))
  (t_law_c3 K cs E)))))
def t_law_c1 (K : PySem.W.Frag) (cs : Cs) (E : XK) : TS :=
  (tSeq (tIfS (tTest (tOp (rNeD K) (tCall (sp__law_told K cs) [] E0 (tCons (tC (.int 0)) (tCons (tVar 3) (tCons (tVar 5) tNil)))) (tLc (iRng1 (tCons (tOp (rI0 fun i j => .int (i + j)) (tVar 5) (tC (.int 1))) tNil)) (gName 14) tYes (tCB (rSum K) (tCons (tSl (rSlL K) (tVar 6) tNoPart (tPart (tOp (rI0 fun i j => .int (i + j)) (tVar 14) (tC (.int 1))))) tNil)) [14])))
  (tRet (tC (.bl false)))
  tNext)
  (tSeq (tIfS (tTest (tOp (rNeD K) (tCall (sp__law_told K cs) [] E0 (tCons (tC (.int 1)) (tCons (tVar 3) (tCons (tVar 5) tNil)))) (tCall (sp__law_fraction K cs) [] E0 (tCons (tCB (rSum K) (tCons (tLc (iEnum K (tCons (tVar 6) tNil)) (gTup K 2 (gCons (gName 14) (gCons (gName 16) gNil))) tYes (tOp (rI IntMulOk fun i j => .int (i * j)) (tVar 14) (tVar 16)) [14, 16]) tNil)) (tCons (tVar 7) tNil)))))
  (tRet (tC (.bl false)))
  tNext)
  (t_law_c2 K cs E)))
def t_law (K : PySem.W.Frag) (cs : Cs) (E : XK) : TS :=
  (tSeq (tFor (iRng1 (tCons (tCB (fun xs H Q => ∃ i j, xs = [V.int i, .int j] ∧ Q (.int (if j > i then j else i)) H) (tCons (tC (.int 1)) (tCons (tCB (fun xs H Q => ∃ i j, xs = [V.int i, .int j] ∧ Q (.int (if j < i then j else i)) H) (tCons (tC (.int 2)) (tCons (tCB (fun xs H Q => ∃ p ys, xs = [V.ref p] ∧ (SqL K H p ys ∨ SqT K H p ys) ∧ Q (.int ys.length) H) (tCons (tVar 0) tNil)) tNil))) tNil))) tNil)) (gName 1)
  (tSeq (tAsg (tCall (sp__law_drawn K cs) [] E0 (tCons (tCall (sp__law_cell K cs) [] E0 (tCons (tVar 0) (tCons (tVar 1) tNil))) (tCons (tVar 1) tNil))) (gName 2))
  (tSeq (tAsg (tOp (rIxL K) (tLst (tCons (tTup (tCons (tC (.int 2)) (tCons (tC (.int 8)) tNil))) (tCons (tTup (tCons (tC (.int 3)) (tCons (tC (.int 6)) tNil))) (tCons (tTup (tCons (tC (.int 4)) (tCons (tC (.int 5)) tNil))) (tCons (tTup (tCons (tC (.int 5)) (tCons (tC (.int 4)) tNil))) (tCons (tTup (tCons (tC (.int 6)) (tCons (tC (.int 4)) tNil))) (tCons (tTup (tCons (tC (.int 2)) (tCons (tC (.int 3)) tNil))) (tCons (tTup (tCons (tC (.int 9)) (tCons (tC (.int 3)) tNil))) tNil)))))))) (tOp (rI (fun _ j => 0 < j) fun i j => .int (i % j)) (tVar 2) (tC (.int 7)))) (gTup K 2 (gCons (gName 3) (gCons (gName 4) gNil))))
  (tSeq (tAsg (tOp (rI (fun _ j => 0 < j) fun i j => .int (i % j)) (tOp (rI CDivW fun i j => .int (i / j)) (tVar 2) (tC (.int 8))) (tOp (rI0 fun i j => .int (i + j)) (tVar 4) (tC (.int 1)))) (gName 5))
  (tSeq (tAsg (tCall (sp__law_heights K cs) [] E0 (tCons (tVar 3) (tCons (tVar 5) tNil))) (gName 6))
  (tSeq (tAsg (tCall (sp__law_power K cs) [] E0 (tCons (tVar 3) (tCons (tVar 5) tNil))) (gName 7))
  (t_law_c1 K cs E)))))))
  (tRet (tC (.bl true))))
def sp_law (K : PySem.W.Frag) (_ : Cs) : Sp := spLaw K
theorem law_c6 {K : PySem.W.Frag} {cs : Cs} {E : XK} {N B C : PS'} {R : PV} {H0 H : Hp} {y0 y1 y3 y4 y5 y6 y7 y8 y9 y10 y11 y12 y13 y14 y15 y16 : Option V} {m : Nat} (e0 : Ex H0 H)
    (hN : ∀ H' (z1 z3 z4 z5 z6 z7 z8 z9 z10 z11 z12 z13 z14 z15 z16 : Option V), Ex H0 H' → N [y0, z1, some (.int (m : Int)), z3, z4, z5, z6, z7, z8, z9, z10, z11, z12, z13, z14, z15, z16] H') : kS (t_law_c6 K cs E) N R B C [y0, y1, some (.int (m : Int)), y3, y4, y5, y6, y7, y8, y9, y10, y11, y12, y13, y14, y15, y16] H := by
  unfold t_law_c6
  k_clsL
  rename_i p1 hp1 p2 hp2 p3 hp3 p4 hp4 p5 hp5 p6 hp6 p7 hp7
  obtain ⟨v, hv, a, x, y, T, T', rfl, ha, hx, hy, hbad⟩ := pick (z := (m : Int) / 16777216) (m := 6) (xs := [.ref p1, .ref p2, .ref p3, .ref p4, .ref p5, .ref p6])
    (P := fun v => ∃ (a : Addr) (x y : V) (T T' : String), v = .ref a ∧ (upd (upd (upd (upd (upd (upd (upd H p1 (.tup [.int 1, .int 2])) p2 (.tup [.int 65, .int 2])) p3 (.tup [.int 4, .int 65])) p4 (.tup [.int 4, .int (-1)])) p5 (.tup [.bl true, .int 2])) p6 (.tup [.int 4, .non])) p7 (.lst [.ref p1, .ref p2, .ref p3, .ref p4, .ref p5, .ref p6])) a = some (.tup [x, y]) ∧ Ty5 K H x T ∧ Ty5 K H y T' ∧ BadCase x y 0) rfl (by decide)
    (List.forall_mem_cons.mpr ⟨⟨p1, _, _, _, _, rfl, by k_memK, .int _, .int _, .inl rfl⟩, List.forall_mem_cons.mpr ⟨⟨p2, _, _, _, _, rfl, by k_memK, .int _, .int _, .inl rfl⟩, List.forall_mem_cons.mpr ⟨⟨p3, _, _, _, _, rfl, by k_memK, .int _, .int _, .inr ⟨rfl, rfl⟩⟩, List.forall_mem_cons.mpr ⟨⟨p4, _, _, _, _, rfl, by k_memK, .int _, .int _, .inr ⟨rfl, rfl⟩⟩, List.forall_mem_cons.mpr ⟨⟨p5, _, _, _, _, rfl, by k_memK, .bl _, .int _, .inl rfl⟩, List.forall_mem_cons.mpr ⟨⟨p6, _, _, _, _, rfl, by k_memK, .int _, .non, .inr ⟨rfl, rfl⟩⟩, fun _ h => absurd h List.not_mem_nil⟩⟩⟩⟩⟩⟩)
  refine r_ixL (by k_memK) hv ?_
  refine g_tup (SqT.of ha) rfl ?_
  k_clsL
  refine e_lcZ ?_
  k_clsL
  refine ⟨by decide, trivial, by decide, [.str "BadSize", .str "BadSize"], rfl, fun D acc i hD hi => ?_, fun D hD => ?_⟩
  · match i, hi with
    | 0, _ =>
      refine g_name ⟨rfl, t_yes ⟨rfl, ?_⟩⟩
      k_clsL
      exact c_told0 (hx.up (by k_offL)) (hy.up (by k_offL)) (.inl ⟨hbad, rfl, by k_offL⟩)
    | 1, _ =>
      refine g_name ⟨rfl, t_yes ⟨rfl, ?_⟩⟩
      k_clsL
      exact c_told1 (hx.up (by k_offL)) (hy.up (by k_offL)) (.inl ⟨hbad, rfl, by k_offL⟩)
  · k_clsL
    refine r_neSs (zs := ["BadSize", "BadSize"]) (ws := ["BadSize", "BadSize"]) (by k_memK) (by k_memK) (by decide +kernel) (by decide +kernel) ?_
    k_clsL
    exact hN _ _ _ _ _ _ _ _ _ _ _ _ _ _ _ _ (by k_offL)
theorem law_c5 {K : PySem.W.Frag} {cs : Cs} {E : XK} {N B C : PS'} {R : PV} {H0 H : Hp} {y0 y1 y3 y4 y5 y6 y11 y12 y13 y14 y15 y16 : Option V} {m : Nat} (e0 : Ex H0 H)
    (hN : ∀ H' (z1 z3 z4 z5 z6 z7 z8 z9 z10 z11 z12 z13 z14 z15 z16 : Option V), Ex H0 H' → N [y0, z1, some (.int (m : Int)), z3, z4, z5, z6, z7, z8, z9, z10, z11, z12, z13, z14, z15, z16] H') {s n : Nat} {p : Addr} (h2 : 2 ≤ s) (h22 : s ≤ 22) (hn : n ≤ 24) (hp : H p = some (.lst ((nI (longN s n)).map V.int))) : kS (t_law_c5 K cs E) N R B C [y0, y1, some (.int (m : Int)), y3, y4, y5, y6, some (.int ((s ^ n : Nat) : Int)), some (.int (s : Int)), some (.int (n : Int)), some (.ref p), y11, y12, y13, y14, y15, y16] H := by
  unfold t_law_c5
  k_clsL
  refine c_told1 (.int _) (.int _) (.inr ⟨s, n, rfl, rfl, h2, h22, hn, fun H1 p1 e1 hp1 hl1 => ?_⟩)
  k_clsL
  refine e_lcZ ?_
  k_clsL
  refine ⟨SqL.of (e1 _ _ hp), by simp [nI, longN]; omega, (nI ((List.range (n + 1)).map fun i => s ^ n - Bf i s n)).map V.int, by simp [nI, longN], fun D acc i hD hi x hx => ?_, fun D hD => ?_⟩
  · have hi2 : i < n + 1 := by simpa [nI, longN] using hi
    have hx : ((nI (longN s n)).map V.int)[i]? = some x := hx
    unfold longN at hx
    rw [nI_map, List.getElem?_map, List.getElem?_range hi2] at hx
    have hx := Option.some.inj hx
    subst hx
    refine g_name ⟨rfl, t_yes ⟨rfl, ?_⟩⟩
    k_clsL
    refine ⟨?_, by k_offL⟩
    rw [nI_map, List.getElem?_map, List.getElem?_range hi2]
    have := Bf_le (most := i) h22 hn
    show some (V.int ((s ^ n - Bf i s n : Nat) : Int)) = some (V.int (((s ^ n : Nat) : Int) - ((Bf i s n : Nat) : Int)))
    generalize s ^ n = w at *
    congr 2
    omega
  · k_clsL
    refine c_sum (SqL.of upd_same) ?_
    k_clsL
    refine c__law_fraction (m := meanN s n) (n := s ^ n) (by rw [nI_sum]; rfl) rfl (Nat.pow_pos (by omega)) (pow_small h22 hn) fun p2 hp2 => ?_
    k_clsL
    refine r_neP (SqT.of (Ex.newr (Ex.news hD) hp2 _ _ hl1)) (SqT.of upd_same) ?_
    refine ⟨_, rfl, bF (by simp) ?_⟩
    k_clsL
    exact law_c6 (H0 := H0) ((e0.tr e1).tr (by k_offL)) hN
theorem law_c4 {K : PySem.W.Frag} {cs : Cs} {E : XK} {N B C : PS'} {R : PV} {H0 H : Hp} {y0 y1 y3 y4 y5 y6 y11 y12 y13 y14 y15 y16 : Option V} {m : Nat} (e0 : Ex H0 H)
    (hN : ∀ H' (z1 z3 z4 z5 z6 z7 z8 z9 z10 z11 z12 z13 z14 z15 z16 : Option V), Ex H0 H' → N [y0, z1, some (.int (m : Int)), z3, z4, z5, z6, z7, z8, z9, z10, z11, z12, z13, z14, z15, z16] H') {s n : Nat} {p : Addr} (h2 : 2 ≤ s) (h22 : s ≤ 22) (hn : n ≤ 24) (hp : H p = some (.lst ((nI (longN s n)).map V.int))) : kS (t_law_c4 K cs E) N R B C [y0, y1, some (.int (m : Int)), y3, y4, y5, y6, some (.int ((s ^ n : Nat) : Int)), some (.int (s : Int)), some (.int (n : Int)), some (.ref p), y11, y12, y13, y14, y15, y16] H := by
  unfold t_law_c4
  have hmin : (if (9 : Int) < (n : Int) then (9 : Int) else (n : Int)) + 1 = ((min n 9 + 1 : Nat) : Int) := by split <;> omega
  k_clsL
  rw [hmin]
  k_clsL
  have hat : (m : Int) / 1048576 % ((min n 9 + 1 : Nat) : Int) = ((m / 1048576 % (min n 9 + 1) : Nat) : Int) := by
    rw [Int.natCast_emod]
    rfl
  rw [hat]
  have hlt : m / 1048576 % (min n 9 + 1) < min n 9 + 1 := Nat.mod_lt _ (by omega)
  generalize m / 1048576 % (min n 9 + 1) = at' at *
  k_clsL
  refine r_ixL (v := .int ((Bf at' s n : Nat) : Int)) (SqL.of hp) (atI_nat (by
    unfold longN
    rw [nI_map, List.getElem?_map, List.getElem?_range (by omega)]
    rfl)) ?_
  k_clsL
  refine c__law_bounded rfl rfl rfl h22 hn (by omega) ?_
  k_clsL
  refine bF (by simp) ?_
  k_clsL
  exact law_c5 (H0 := H0) e0 hN h2 h22 hn hp
theorem longN_sorted {s n : Nat} : (nI (longN s n)).Pairwise (· ≤ ·) := by
  unfold nI longN
  rw [List.pairwise_map, List.pairwise_map]
  refine List.Pairwise.imp ?_ (List.pairwise_lt_range (n := n + 1))
  intro a b hab
  have := Bf_mono2 (Nat.le_of_lt hab) s n
  omega
theorem law_c3 {K : PySem.W.Frag} {cs : Cs} {E : XK} {N B C : PS'} {R : PV} {H0 H : Hp} {y0 y1 y3 y4 y5 y6 y11 y12 y13 y14 y15 y16 : Option V} {m : Nat} (e0 : Ex H0 H)
    (hN : ∀ H' (z1 z3 z4 z5 z6 z7 z8 z9 z10 z11 z12 z13 z14 z15 z16 : Option V), Ex H0 H' → N [y0, z1, some (.int (m : Int)), z3, z4, z5, z6, z7, z8, z9, z10, z11, z12, z13, z14, z15, z16] H') {s n : Nat} {p : Addr} (h2 : 2 ≤ s) (h22 : s ≤ 22) (hn : n ≤ 24) (hp : H p = some (.lst ((nI (longN s n)).map V.int))) : kS (t_law_c3 K cs E) N R B C [y0, y1, some (.int (m : Int)), y3, y4, y5, y6, some (.int ((s ^ n : Nat) : Int)), some (.int (s : Int)), some (.int (n : Int)), some (.ref p), y11, y12, y13, y14, y15, y16] H := by
  unfold t_law_c3
  k_clsL
  refine bF (by simp [nI, longN]) ?_
  k_clsL
  refine c_sorted (ns := nI (longN s n)) (by k_memK) fun ns' l hperm hsort hl => ?_
  have en : ns' = nI (longN s n) := sorted_one hperm hsort longN_sorted
  subst en
  k_clsL
  refine r_neIs (ns := nI (longN s n)) (ms := nI (longN s n)) (by k_memK) (by k_memK) ?_
  refine ⟨_, rfl, bF (by simp) ?_⟩
  k_clsL
  have hlast : ((nI (longN s n)).map V.int)[n]? = some (.int ((s ^ n : Nat) : Int)) := by
    unfold longN
    rw [nI_map, List.getElem?_map, List.getElem?_range (by omega), ← Bf_all (most := n) s n h22 hn (Nat.le_refl _)]
    rfl
  have hfirst : ((nI (longN s n)).map V.int)[0]? = some (.int ((if n = 0 then 1 else 0 : Nat) : Int)) := by
    unfold longN
    rw [nI_map, List.getElem?_map, List.getElem?_range (by omega), ← Bf_zero s n]
    rfl
  refine r_ixL (SqL.of (Ex.news hl _ _ hp)) (atI_lastN (n := n) (by simp [nI, longN]) hlast) ?_
  k_clsL
  refine bF (by simp) ?_
  k_clsL
  refine r_ixL (SqL.of (Ex.news hl _ _ hp)) (by
    show atI _ ((0 : Nat) : Int) = _
    exact atI_nat hfirst) ?_
  k_clsL
  refine bF ?_ ?_
  · by_cases hz : n = 0
    · subst hz
      rfl
    · simp [hz]
  · k_clsL
    exact law_c4 (H0 := H0) (Ex.newr e0 hl) hN h2 h22 hn (Ex.news hl _ _ hp)
theorem law_c2 {K : PySem.W.Frag} {cs : Cs} {E : XK} {N B C : PS'} {R : PV} {H0 H : Hp} {y0 y1 y3 y4 y5 y6 y7 y8 y9 y10 y11 y12 y13 y14 y15 y16 : Option V} {m : Nat} (e0 : Ex H0 H)
    (hN : ∀ H' (z1 z3 z4 z5 z6 z7 z8 z9 z10 z11 z12 z13 z14 z15 z16 : Option V), Ex H0 H' → N [y0, z1, some (.int (m : Int)), z3, z4, z5, z6, z7, z8, z9, z10, z11, z12, z13, z14, z15, z16] H') : kS (t_law_c2 K cs E) N R B C [y0, y1, some (.int (m : Int)), y3, y4, y5, y6, y7, y8, y9, y10, y11, y12, y13, y14, y15, y16] H := by
  unfold t_law_c2
  k_clsL
  have eg : (2 + (m : Int) / 64 % 20) = ((2 + m / 64 % 20 : Nat) : Int) := rfl
  have ek : (m : Int) / 4096 % 25 = ((m / 4096 % 25 : Nat) : Int) := rfl
  rw [eg, ek]
  have h2 : 2 ≤ 2 + m / 64 % 20 := by omega
  have h22 : 2 + m / 64 % 20 ≤ 22 := by omega
  have hn : m / 4096 % 25 ≤ 24 := by omega
  generalize 2 + m / 64 % 20 = s at *
  generalize m / 4096 % 25 = n at *
  refine c_told0 (.int _) (.int _) (.inr ⟨s, n, rfl, rfl, h2, h22, hn, fun H1 p e1 hp hl => ?_⟩)
  k_clsL
  refine c__law_power rfl rfl (by omega) (by omega) ?_
  k_clsL
  exact law_c3 (H0 := H0) (e0.tr e1) hN h2 h22 hn hl
theorem sum_pair (f : Nat → Nat) : ∀ k, (List.range k).map (fun n => n * f n) = (List.range k).map (fun n => n * f n) := fun _ => rfl
theorem law_c1 {K : PySem.W.Frag} {cs : Cs} {E : XK} {N B C : PS'} {R : PV} {H0 H : Hp} {y0 y1 y4 y8 y9 y10 y11 y12 y13 y14 y15 y16 : Option V} {m : Nat} (e0 : Ex H0 H)
    (hN : ∀ H' (z1 z3 z4 z5 z6 z7 z8 z9 z10 z11 z12 z13 z14 z15 z16 : Option V), Ex H0 H' → N [y0, z1, some (.int (m : Int)), z3, z4, z5, z6, z7, z8, z9, z10, z11, z12, z13, z14, z15, z16] H') {q : Nat × Nat} {n : Nat} {p : Addr} (hq : q ∈ pairs51) (hn : n ≤ q.2) (h2 : 2 ≤ q.1) (h22 : q.1 ≤ 22) (hn24 : n ≤ 24) (hp : H p = some (.lst ((nI (hts q.1 n)).map V.int))) : kS (t_law_c1 K cs E) N R B C [y0, y1, some (.int (m : Int)), some (.int ((q.1 : Nat) : Int)), y4, some (.int (n : Int)), some (.ref p), some (.int ((q.1 ^ n : Nat) : Int)), y8, y9, y10, y11, y12, y13, y14, y15, y16] H := by
  unfold t_law_c1
  rw [hts_ok q hq n hn] at hp
  have hdl : (difs q.1 n).length = n + 1 := by simp [difs]
  k_clsL
  refine c_told0 (.int _) (.int _) (.inr ⟨q.1, n, rfl, rfl, h2, h22, hn24, fun H1 p1 e1 hp1 hl1 => ?_⟩)
  k_clsL
  have hpH1 := e1 _ _ hp
  refine e_lcZ ?_
  k_clsL
  refine ⟨(by show n + 1 < 2 ^ 61; omega), trivial, (by show n + 1 ≤ 100000; omega), (nI (longN q.1 n)).map V.int, by simp [nI, longN], fun D acc i hD hi => ?_, fun D hD => ?_⟩
  · have hi : i < n + 1 := hi
    refine g_name ⟨rfl, t_yes ⟨rfl, ?_⟩⟩
    k_clsL
    intro b hb
    have ec : cutV ((nI (difs q.1 n)).map V.int) none (some ((i : Int) + 1)) = (nI ((difs q.1 n).take (i + 1))).map V.int := by
      rw [show ((i : Int) + 1) = ((i + 1 : Nat) : Int) from rfl, cut0 (by rw [List.length_map, nI_len]; omega)]
      simp [nI, List.map_take]
    rw [ec]
    k_clsL
    refine c_sum (SqL.of upd_same) ⟨?_, by k_offL⟩
    rw [nI_sum]
    have := pre_ok q hq n hn
    have h9 := congrArg (fun l => l[i]?) this
    simp only [List.getElem?_map, List.getElem?_range hi, Option.map_some] at h9
    unfold longN
    rw [nI_map, List.getElem?_map, List.getElem?_range hi, Option.map_some, Option.some.inj h9]
  · k_clsL
    refine r_neIs (ns := nI (longN q.1 n)) (ms := nI (longN q.1 n)) (SqL.of (Ex.news hD _ _ hl1)) (by k_memK) ?_
    refine ⟨_, rfl, bF (by simp) ?_⟩
    k_clsL
    refine c_told1 (.int _) (.int _) (.inr ⟨q.1, n, rfl, rfl, h2, h22, hn24, fun H2 p2 e2 hp2 hl2 => ?_⟩)
    have hpH2 := e2 _ _ (Ex.news hD _ _ hpH1)
    k_clsL
    refine e_lcZ ?_
    k_clsL
    refine ⟨SqL.of hpH2, by simp [nI]; omega, (nI ((List.range (n + 1)).map fun j => j * (difs q.1 n).getD j 0)).map V.int, by simp [nI, hdl], fun D2 acc i hD2 hi T x z hT hx hz => ?_, fun D2 hD2 => ?_⟩
    · have hi : i < n + 1 := by simpa [nI, hdl] using hi
      have hz : ((nI (difs q.1 n)).map V.int)[i]? = some z := hz
      have hx : V.int (i : Nat) = x := Option.some.inj hx
      have hiv : (difs q.1 n)[i]? = some ((difs q.1 n).getD i 0) := by
        rw [List.getD_eq_getElem?_getD, List.getElem?_eq_getElem (by omega)]
        rfl
      rw [nI_v, List.getElem?_map, hiv] at hz
      have hz : V.int (((difs q.1 n).getD i 0 : Nat) : Int) = z := Option.some.inj hz
      subst hx hz
      k_clsL
      refine ⟨rfl, t_yes ⟨rfl, ?_⟩⟩
      k_clsL
      have hm : IntMulOk ((i : Nat) : Int) (((difs q.1 n).getD i 0 : Nat) : Int) := mulxL (by omega) (by omega)
      k_clsL
      refine ⟨?_, by k_offL⟩
      rw [nI_map, List.getElem?_map, List.getElem?_range hi]
      show some (V.int ((i * (difs q.1 n).getD i 0 : Nat) : Int)) = _
      congr 2
    · k_clsL
      refine c_sum (SqL.of upd_same) ?_
      k_clsL
      refine c__law_fraction (m := meanN q.1 n) (n := q.1 ^ n) (by rw [nI_sum, mean_ok q hq n hn]; rfl) rfl (Nat.pow_pos (by omega)) (pow_small h22 hn24) fun p3 hp3 => ?_
      k_clsL
      refine r_neP (SqT.of (Ex.newr (Ex.news hD2) hp3 _ _ hl2)) (SqT.of upd_same) ?_
      refine ⟨_, rfl, bF (by simp) ?_⟩
      k_clsL
      exact law_c2 (H0 := H0) ((e0.tr e1).tr ((Ex.news hD).tr (e2.tr (by k_offL)))) hN
theorem pure_law {K : PySem.W.Frag} {cs : Cs} {H : Hp} {vs : List V} {Q : VK} {E : XK} (h : sp_law K cs vs H Q E) : t_law K cs E { nx := fun _ H' => Q .non H', rt := Q } (start ["_law_script", "_law_k", "_law_more", "_law_size", "_law_most", "_law_many", "_law_heights_here", "_law_whole", "_law_great", "_law_keys", "_law_found", "_law_at", "_law_one", "_law_other", "_law_n", "_law_way", "_law_count"] vs) H := by
  obtain ⟨a, ns, rfl, hS, hl, q⟩ := h
  refine fin (σ := [some (.ref a), none, none, none, none, none, none, none, none, none, none, none, none, none, none, none, none]) ?_
  unfold t_law
  obtain ⟨n, hn, hn63⟩ : ∃ n : Nat, (if (if (((ns.map V.int).length : Nat) : Int) < 2 then (((ns.map V.int).length : Nat) : Int) else 2) > 1 then (if (((ns.map V.int).length : Nat) : Int) < 2 then (((ns.map V.int).length : Nat) : Int) else 2) else 1) = (n : Int) ∧ n ≤ 63 :=
    nat_of (by split <;> split <;> omega) (by split <;> split <;> omega)
  k_clsL
  refine s_for1 n (fun i σ H1 => H1 = H ∧ ∃ y1 y2 y3 y4 y5 y6 y7 y8 y9 y10 y11 y12 y13 y14 y15 y16, σ = [some (.ref a), y1, y2, y3, y4, y5, y6, y7, y8, y9, y10, y11, y12, y13, y14, y15, y16]) ?_
  k_clsL
  refine ⟨by rw [hn], by omega, ⟨rfl, none, none, none, none, none, none, none, none, none, none, none, none, none, none, none, none, rfl⟩, ?_, ?_⟩
  · rintro i σ H1 hi ⟨rfl, y1, y2, y3, y4, y5, y6, y7, y8, y9, y10, y11, y12, y13, y14, y15, y16, rfl⟩
    k_clsL
    rename_i m hm p1 hp1 p2 hp2 p3 hp3 p4 hp4 p5 hp5 p6 hp6 p7 hp7 p8 hp8
    obtain ⟨v, hv, b, pr, rfl, hpr, hb⟩ := pick (z := (m : Int)) (m := 7) (xs := [.ref p1, .ref p2, .ref p3, .ref p4, .ref p5, .ref p6, .ref p7])
      (P := fun v => ∃ (b : Addr) (pr : Nat × Nat), v = .ref b ∧ pr ∈ pairs51 ∧ (upd (upd (upd (upd (upd (upd (upd (upd H1 p1 (.tup [.int 2, .int 8])) p2 (.tup [.int 3, .int 6])) p3 (.tup [.int 4, .int 5])) p4 (.tup [.int 5, .int 4])) p5 (.tup [.int 6, .int 4])) p6 (.tup [.int 2, .int 3])) p7 (.tup [.int 9, .int 3])) p8 (.lst [.ref p1, .ref p2, .ref p3, .ref p4, .ref p5, .ref p6, .ref p7])) b = some (.tup [.int ((pr.1 : Nat) : Int), .int ((pr.2 : Nat) : Int)])) rfl (by decide)
      (List.forall_mem_cons.mpr ⟨⟨p1, (2, 8), rfl, by decide, by show _ = some (HO.tup [.int 2, .int 8]); k_memK⟩, List.forall_mem_cons.mpr ⟨⟨p2, (3, 6), rfl, by decide, by show _ = some (HO.tup [.int 3, .int 6]); k_memK⟩, List.forall_mem_cons.mpr ⟨⟨p3, (4, 5), rfl, by decide, by show _ = some (HO.tup [.int 4, .int 5]); k_memK⟩, List.forall_mem_cons.mpr ⟨⟨p4, (5, 4), rfl, by decide, by show _ = some (HO.tup [.int 5, .int 4]); k_memK⟩, List.forall_mem_cons.mpr ⟨⟨p5, (6, 4), rfl, by decide, by show _ = some (HO.tup [.int 6, .int 4]); k_memK⟩, List.forall_mem_cons.mpr ⟨⟨p6, (2, 3), rfl, by decide, by show _ = some (HO.tup [.int 2, .int 3]); k_memK⟩, List.forall_mem_cons.mpr ⟨⟨p7, (9, 3), rfl, by decide, by show _ = some (HO.tup [.int 9, .int 3]); k_memK⟩, fun _ h => absurd h List.not_mem_nil⟩⟩⟩⟩⟩⟩⟩)
    refine r_ixL (by k_memK) hv ?_
    refine g_tup (SqT.of hb) rfl ?_
    k_clsL
    have hsmall : ∀ p ∈ pairs51, 2 ≤ p.1 ∧ p.1 ≤ 22 ∧ p.2 ≤ 24 ∧ ∀ k ∈ List.range (p.2 + 1), p.1 ^ k < 2 ^ 20 := by decide
    obtain ⟨b1, b2, b3, b4⟩ := hsmall pr hpr
    have em : (m : Int) / 8 % (((pr.2 : Nat) : Int) + 1) = ((m / 8 % (pr.2 + 1) : Nat) : Int) := rfl
    rw [em]
    have hlt : m / 8 % (pr.2 + 1) < pr.2 + 1 := Nat.mod_lt _ (by omega)
    generalize m / 8 % (pr.2 + 1) = k at *
    refine c__law_heights rfl rfl b1 (by omega) (by omega) (b4 k (List.mem_range.mpr hlt)) fun H2 p e2 hp hl2 => ?_
    k_clsL
    refine c__law_power rfl rfl (by omega) (by omega) ?_
    k_clsL
    refine law_c1 (H0 := H1) (Ex.tr (by k_offL) e2) (fun H' z1 z3 z4 z5 z6 z7 z8 z9 z10 z11 z12 z13 z14 z15 z16 e => ⟨H1, ⟨rfl, _, _, _, _, _, _, _, _, _, _, _, _, _, _, _, _, rfl⟩, e⟩) hpr (by omega) b1 b2 (by omega) hl2
  · rintro σ H1 ⟨rfl, _⟩
    k_clsL
    exact fun H2 _ => q H2
theorem ok_law {P : Program} {w : World} {K : PySem.W.Frag} {mg : Str → Option Value} {base : Heap} {cs : Cs} {f : Addr} {fd : FuncData} (F : Fun K "law" "law" s_law f fd) (cal__law_cell : Cal P w K mg base (L2N.CX P w) 1 "_law_cell" ["_law_script", "_law_k"] (sp__law_cell K cs)) (cal__law_drawn : Cal P w K mg base (L2N.CX P w) 1 "_law_drawn" ["_law_cell_here", "_law_k"] (sp__law_drawn K cs)) (cal__law_heights : Cal P w K mg base (L2N.CX P w) 2 "_law_heights" ["_law_size", "_law_many"] (sp__law_heights K cs)) (cal__law_power : Cal P w K mg base (L2N.CX P w) 1 "_law_power" ["_law_size", "_law_many"] (sp__law_power K cs)) (cal__law_told : Cal P w K mg base (L2N.CX P w) 5 "_law_told" ["_law_way", "_law_size", "_law_many"] (sp__law_told K cs)) (cal__law_fraction : Cal P w K mg base (L2N.CX P w) 1 "_law_fraction" ["_law_top", "_law_under"] (sp__law_fraction K cs)) (cal__law_bounded : Cal P w K mg base (L2N.CX P w) 2 "_law_bounded" ["_law_size", "_law_many", "_law_most"] (sp__law_bounded K cs)) (m_range : mg "range" = none) (m_len : mg "len" = none) (m_min : mg "min" = none) (m_max : mg "max" = none) (m_sum : mg "sum" = none) (m_enumerate : mg "enumerate" = none) (m_sorted : mg "sorted" = none) :
    FnOk P w K mg base (L2N.CX P w) 6 f fd ["_law_script"] (spLaw K) := by
  refine fn_mk F sc_law (fun vs H Q E h => ?_) fun cdv A outer s H vs Q E hr h => ⟨t_law K cs E, ?_, pure_law (cs := cs) h⟩
  · unfold spLaw at h
    first | (obtain ⟨rfl, _⟩ := h; rfl) | (obtain ⟨_, rfl, _⟩ := h; rfl) | (obtain ⟨_, _, rfl, _⟩ := h; rfl) | (obtain ⟨_, _, _, rfl, _⟩ := h; rfl) | (obtain ⟨_, _, _, _, rfl, _⟩ := h; rfl) | (obtain ⟨_, _, _, _, _, rfl, _⟩ := h; rfl) | (obtain ⟨_, _, _, _, _, _, rfl, _⟩ := h; rfl) | (obtain ⟨_, _, _, _, _, _, _, rfl, _⟩ := h; rfl) | (obtain ⟨_, _, _, _, _, _, _, _, rfl, _⟩ := h; rfl) | (obtain ⟨_, _, _, _, _, _, _, _, _, rfl, _⟩ := h; rfl) | (obtain ⟨_, _, _, _, _, _, _, _, _, _, rfl, _⟩ := h; rfl) | (obtain ⟨_, _, _, _, _, _, _, _, _, _, _, rfl, _⟩ := h; rfl) | (obtain ⟨_, _, _, _, _, _, _, _, _, _, _, _, rfl, _⟩ := h; rfl) | (obtain ⟨_, _, _, _, _, _, _, _, _, _, _, _, _, rfl, _⟩ := h; rfl) | (obtain ⟨_, _, _, _, _, _, _, _, _, _, _, _, _, _, rfl, _⟩ := h; rfl) | (obtain ⟨_, _, _, _, _, _, _, _, _, _, _, _, _, _, _, rfl, _⟩ := h; rfl)
  · exact (pss_cons (ps_for (passes_of rfl) rfl (pi_range1 (by rfl) m_range (pa_cons (pe_callB (call_max2 rfl) (by rfl) m_max (by decide +kernel) (pa_cons pe_int (pa_cons (pe_callB (call_min2 rfl) (by rfl) m_min (by decide +kernel) (pa_cons pe_int (pa_cons (pe_callB call_len_seq (by rfl) m_len (by decide +kernel) (pa_cons (pv 0) pa_nil)) pa_nil))) pa_nil))) pa_nil)) (pg_name (i := 1) sc_law.nd rfl (Or.inl sc_law_v1))
      (pss_cons (ps_set (i := 2) sc_law.nd rfl (Or.inl sc_law_v2) (pe_cal cal__law_drawn hr (by decide) (by rfl) passN (pa_cons (pe_cal cal__law_cell hr (by decide) (by rfl) passN (pa_cons (pv 0) (pa_cons (pv 1) pa_nil))) (pa_cons (pv 1) pa_nil))))
      (pss_cons (ps_asg (pe_ix ix_list (pe_lst (pa_cons (pe_tup (pa_cons pe_int (pa_cons pe_int pa_nil))) (pa_cons (pe_tup (pa_cons pe_int (pa_cons pe_int pa_nil))) (pa_cons (pe_tup (pa_cons pe_int (pa_cons pe_int pa_nil))) (pa_cons (pe_tup (pa_cons pe_int (pa_cons pe_int pa_nil))) (pa_cons (pe_tup (pa_cons pe_int (pa_cons pe_int pa_nil))) (pa_cons (pe_tup (pa_cons pe_int (pa_cons pe_int pa_nil))) (pa_cons (pe_tup (pa_cons pe_int (pa_cons pe_int pa_nil))) pa_nil)))))))) (pe_op op_mod (pv 2) pe_int) (fun _ _ => rfl)) (pg_tup rfl (pgs_cons (pg_name (i := 3) sc_law.nd rfl (Or.inl sc_law_v3)) (pgs_cons (pg_name (i := 4) sc_law.nd rfl (Or.inl sc_law_v4)) pgs_nil))))
      (pss_cons (ps_set (i := 5) sc_law.nd rfl (Or.inl sc_law_v5) (pe_op op_mod (pe_op op_fdivW (pv 2) pe_int) (pe_op op_add (pv 4) pe_int)))
      (pss_cons (ps_set (i := 6) sc_law.nd rfl (Or.inr sc_law_v6) (pe_cal cal__law_heights hr (by decide) (by rfl) passN (pa_cons (pv 3) (pa_cons (pv 5) pa_nil))))
      (pss_cons (ps_set (i := 7) sc_law.nd rfl (Or.inr sc_law_v7) (pe_cal cal__law_power hr (by decide) (by rfl) passN (pa_cons (pv 3) (pa_cons (pv 5) pa_nil))))
      (pss_cons (ps_if (pt_cmpR (op_neD hr.units) (pe_cal cal__law_told hr (by decide) (by rfl) passN (pa_cons pe_int (pa_cons (pv 3) (pa_cons (pv 5) pa_nil)))) (pe_lc (own := [("_law_n", 14)]) (g := (gName 14)) (tt := tYes) (by rfl) sc_law.nd (pi_range1 (by rfl) m_range (pa_cons (pe_op op_add (pv 5) pe_int) pa_nil)) (blkOk_by (own := [("_law_n", 14)]) (N := ["_law_script", "_law_k", "_law_more", "_law_size", "_law_most", "_law_many", "_law_heights_here", "_law_whole", "_law_great", "_law_keys", "_law_found", "_law_at", "_law_one", "_law_other", "_law_n", "_law_way", "_law_count"]) (sc := defScope s_law) (by decide +kernel)) (fun _ _ _ _ _ => (pg_name (i := 14) sc_law.nd rfl (Or.inl rfl))) (fun _ _ _ _ _ => pts_nil) (fun _ _ _ _ _ => (pe_callB (cr_sum rfl) (by rfl) m_sum (by decide +kernel) (pa_cons (pe_slice sl_list (pv 6) po_none (po_some (pe_op op_add (pv 14) pe_int))) pa_nil)))) (nomark _))
      (pss_one (ps_ret pe_bl))
      pss_nil)
      (pss_cons (ps_if (pt_cmpR (op_neD hr.units) (pe_cal cal__law_told hr (by decide) (by rfl) passN (pa_cons pe_int (pa_cons (pv 3) (pa_cons (pv 5) pa_nil)))) (pe_cal cal__law_fraction hr (by decide) (by rfl) passN (pa_cons (pe_callB (cr_sum rfl) (by rfl) m_sum (by decide +kernel) (pa_cons (pe_lc (own := [("_law_n", 14), ("_law_count", 16)]) (g := (gTup K 2 (gCons (gName 14) (gCons (gName 16) gNil)))) (tt := tYes) (by rfl) sc_law.nd (pi_enum (by rfl) m_enumerate (pa_cons (pv 6) pa_nil)) (blkOk_by (own := [("_law_n", 14), ("_law_count", 16)]) (N := ["_law_script", "_law_k", "_law_more", "_law_size", "_law_most", "_law_many", "_law_heights_here", "_law_whole", "_law_great", "_law_keys", "_law_found", "_law_at", "_law_one", "_law_other", "_law_n", "_law_way", "_law_count"]) (sc := defScope s_law) (by decide +kernel)) (fun _ _ _ _ _ => (pg_tup rfl (pgs_cons (pg_name (i := 14) sc_law.nd rfl (Or.inl rfl)) (pgs_cons (pg_name (i := 16) sc_law.nd rfl (Or.inl rfl)) pgs_nil)))) (fun _ _ _ _ _ => pts_nil) (fun _ _ _ _ _ => (pe_op op_mulX (pv 14) (pv 16)))) pa_nil)) (pa_cons (pv 7) pa_nil))) (nomark _))
      (pss_one (ps_ret pe_bl))
      pss_nil)
      (pss_cons (ps_set (i := 8) sc_law.nd rfl (Or.inl sc_law_v8) (pe_op op_add pe_int (pe_op op_mod (pe_op op_fdivW (pv 2) pe_int) pe_int)))
      (pss_cons (ps_set (i := 9) sc_law.nd rfl (Or.inl sc_law_v9) (pe_op op_mod (pe_op op_fdivW (pv 2) pe_int) pe_int))
      (pss_cons (ps_set (i := 10) sc_law.nd rfl (Or.inl sc_law_v10) (pe_cal cal__law_told hr (by decide) (by rfl) passN (pa_cons pe_int (pa_cons (pv 8) (pa_cons (pv 9) pa_nil)))))
      (pss_cons (ps_set (i := 7) sc_law.nd rfl (Or.inr sc_law_v7) (pe_cal cal__law_power hr (by decide) (by rfl) passN (pa_cons (pv 8) (pa_cons (pv 9) pa_nil))))
      (pss_cons (ps_if (PW.pt (pw_or (pt_cmpR op_ne (pe_callB call_len_seq (by rfl) m_len (by decide +kernel) (pa_cons (pv 10) pa_nil)) (pe_op op_add (pv 9) pe_int) (nomark _)) (pw_or (pt_cmpR (op_neD hr.units) (pv 10) (pe_callB cr_sortedI (by rfl) m_sorted (by decide +kernel) (pa_cons (pv 10) pa_nil)) (nomark _)) (pw_or (pt_cmpR op_ne (pe_ix ix_list (pv 10) (pe_un un_neg pe_int) (fun _ _ => rfl)) (pv 7) (nomark _)) (pw_or1 (pt_cmpR op_ne (pe_cmpR op_gt (pe_ix ix_list (pv 10) pe_int (fun _ _ => rfl)) pe_int (nomark _)) (pe_cmpR op_eq (pv 9) pe_int (nomark _)) (nomark _)))))))
      (pss_one (ps_ret pe_bl))
      pss_nil)
      (pss_cons (ps_set (i := 11) sc_law.nd rfl (Or.inl sc_law_v11) (pe_op op_mod (pe_op op_fdivW (pv 2) (pe_op op_pow pe_int pe_int)) (pe_op op_add (pe_callB (call_min2 rfl) (by rfl) m_min (by decide +kernel) (pa_cons (pv 9) (pa_cons pe_int pa_nil))) pe_int)))
      (pss_cons (ps_if (pt_cmpR op_ne (pe_ix ix_list (pv 10) (pv 11) (fun _ _ => rfl)) (pe_cal cal__law_bounded hr (by decide) (by rfl) passN (pa_cons (pv 8) (pa_cons (pv 9) (pa_cons (pv 11) pa_nil)))) (nomark _))
      (pss_one (ps_ret pe_bl))
      pss_nil)
      (pss_cons (ps_if (pt_cmpR (op_neD hr.units) (pe_cal cal__law_told hr (by decide) (by rfl) passN (pa_cons pe_int (pa_cons (pv 8) (pa_cons (pv 9) pa_nil)))) (pe_cal cal__law_fraction hr (by decide) (by rfl) passN (pa_cons (pe_callB (cr_sum rfl) (by rfl) m_sum (by decide +kernel) (pa_cons (pe_lc (own := [("_law_one", 12)]) (g := (gName 12)) (tt := tYes) (by rfl) sc_law.nd (pi_list (pv 10)) (blkOk_by (own := [("_law_one", 12)]) (N := ["_law_script", "_law_k", "_law_more", "_law_size", "_law_most", "_law_many", "_law_heights_here", "_law_whole", "_law_great", "_law_keys", "_law_found", "_law_at", "_law_one", "_law_other", "_law_n", "_law_way", "_law_count"]) (sc := defScope s_law) (by decide +kernel)) (fun _ _ _ _ _ => (pg_name (i := 12) sc_law.nd rfl (Or.inl rfl))) (fun _ _ _ _ _ => pts_nil) (fun _ _ _ _ _ => (pe_op op_sub (pv 7) (pv 12)))) pa_nil)) (pa_cons (pv 7) pa_nil))) (nomark _))
      (pss_one (ps_ret pe_bl))
      pss_nil)
      (pss_cons (ps_asg (pe_ix ix_list (pe_lst (pa_cons (pe_tup (pa_cons pe_int (pa_cons pe_int pa_nil))) (pa_cons (pe_tup (pa_cons pe_int (pa_cons pe_int pa_nil))) (pa_cons (pe_tup (pa_cons pe_int (pa_cons pe_int pa_nil))) (pa_cons (pe_tup (pa_cons pe_int (pa_cons (pe_un un_neg pe_int) pa_nil))) (pa_cons (pe_tup (pa_cons pe_bl (pa_cons pe_int pa_nil))) (pa_cons (pe_tup (pa_cons pe_int (pa_cons pe_non pa_nil))) pa_nil))))))) (pe_op op_mod (pe_op op_fdivW (pv 2) (pe_op op_pow pe_int pe_int)) pe_int) (fun _ _ => rfl)) (pg_tup rfl (pgs_cons (pg_name (i := 12) sc_law.nd rfl (Or.inr sc_law_v12)) (pgs_cons (pg_name (i := 13) sc_law.nd rfl (Or.inr sc_law_v13)) pgs_nil))))
      (pss_one (ps_if (pt_cmpR (op_neD hr.units) (pe_lc (own := [("_law_way", 15)]) (g := (gName 15)) (tt := tYes) (by rfl) sc_law.nd (pi_range1 (by rfl) m_range (pa_cons pe_int pa_nil)) (blkOk_by (own := [("_law_way", 15)]) (N := ["_law_script", "_law_k", "_law_more", "_law_size", "_law_most", "_law_many", "_law_heights_here", "_law_whole", "_law_great", "_law_keys", "_law_found", "_law_at", "_law_one", "_law_other", "_law_n", "_law_way", "_law_count"]) (sc := defScope s_law) (by decide +kernel)) (fun _ _ _ _ _ => (pg_name (i := 15) sc_law.nd rfl (Or.inl rfl))) (fun _ _ _ _ _ => pts_nil) (fun _ _ _ _ _ => (pe_cal cal__law_told hr (by decide) (by rfl) passN (pa_cons (pv 15) (pa_cons (pv 12) (pa_cons (pv 13) pa_nil)))))) (pe_lst (pa_cons pe_str (pa_cons pe_str pa_nil))) (nomark _))
      (pss_one (ps_ret pe_bl))
      pss_nil)))))))))))))))))))
      (pss_one (ps_ret pe_bl)))
theorem all_mk {l : PySem.W.OpenLaw} {w : World} {K : PySem.W.Frag} {h : Heap} {mg : Str → Option Value} {fa : Addr} (X : K.In h) (G : h.Ns mainGlobals mg) (hfa : mg "law" = some (.ref fa))
    {C_BadKey : Addr}
    {C_BadRule : Addr}
    {C_BadSize : Addr}
    {C_Full : Addr}
    {C_StrewError : Addr}
    {C_TooMany : Addr}
    {f0 : Addr} {od0 an0 : Option Addr} {sl0 : Array (Option Value)} {oc0 kV0 dc0 pm0 cd0 ct0 : Value}
    {f1 : Addr} {od1 an1 : Option Addr} {sl1 : Array (Option Value)} {oc1 kV1 dc1 pm1 cd1 ct1 : Value}
    {f2 : Addr} {od2 an2 : Option Addr} {sl2 : Array (Option Value)} {oc2 kV2 dc2 pm2 cd2 ct2 : Value}
    {f3 : Addr} {od3 an3 : Option Addr} {sl3 : Array (Option Value)} {oc3 kV3 dc3 pm3 cd3 ct3 : Value}
    {f4 : Addr} {od4 an4 : Option Addr} {sl4 : Array (Option Value)} {oc4 kV4 dc4 pm4 cd4 ct4 : Value}
    {f5 : Addr} {od5 an5 : Option Addr} {sl5 : Array (Option Value)} {oc5 kV5 dc5 pm5 cd5 ct5 : Value}
    {f6 : Addr} {od6 an6 : Option Addr} {sl6 : Array (Option Value)} {oc6 kV6 dc6 pm6 cd6 ct6 : Value}
    {f7 : Addr} {od7 an7 : Option Addr} {sl7 : Array (Option Value)} {oc7 kV7 dc7 pm7 cd7 ct7 : Value}
    {f8 : Addr} {od8 an8 : Option Addr} {sl8 : Array (Option Value)} {oc8 kV8 dc8 pm8 cd8 ct8 : Value}
    {f9 : Addr} {od9 an9 : Option Addr} {sl9 : Array (Option Value)} {oc9 kV9 dc9 pm9 cd9 ct9 : Value}
    {f10 : Addr} {od10 an10 : Option Addr} {sl10 : Array (Option Value)} {oc10 kV10 dc10 pm10 cd10 ct10 : Value}
    {f11 : Addr} {od11 an11 : Option Addr} {sl11 : Array (Option Value)} {oc11 kV11 dc11 pm11 cd11 ct11 : Value}
    {f12 : Addr} {od12 an12 : Option Addr} {sl12 : Array (Option Value)} {oc12 kV12 dc12 pm12 cd12 ct12 : Value}
    {f13 : Addr} {od13 an13 : Option Addr} {sl13 : Array (Option Value)} {oc13 kV13 dc13 pm13 cd13 ct13 : Value}
    {f14 : Addr} {od14 an14 : Option Addr} {sl14 : Array (Option Value)} {oc14 kV14 dc14 pm14 cd14 ct14 : Value}
    {f15 : Addr} {od15 an15 : Option Addr} {sl15 : Array (Option Value)} {oc15 kV15 dc15 pm15 cd15 ct15 : Value}
    {f16 : Addr} {od16 an16 : Option Addr} {sl16 : Array (Option Value)} {oc16 kV16 dc16 pm16 cd16 ct16 : Value}
    {f17 : Addr} {od17 an17 : Option Addr} {sl17 : Array (Option Value)} {oc17 kV17 dc17 pm17 cd17 ct17 : Value}
    {f18 : Addr} {od18 an18 : Option Addr} {sl18 : Array (Option Value)} {oc18 kV18 dc18 pm18 cd18 ct18 : Value}
    {tk_LEAST_SIZE : Tok}
    {tk_MOST_KEYS : Tok}
    {tk_MOST_SIZE : Tok}
    (n_BadKey : PySem.W.nsIn K mainGlobals "BadKey" = some (some (.ref C_BadKey)))
    (kc_BadKey : PySem.W.keepIn K (.ref C_BadKey) = true)
    (xc_BadKey : PySem.W.excIn K C_BadKey [.type "ValueError", .type "Exception", .type "BaseException", .type "object"] "ValueError.__new__" = true)
    (bc_BadKey : PySem.W.subIn K (.ref C_BadKey) (.type "BaseException") = some true)
    (tc_BadKey : PySem.W.typeIn K (.ref C_BadKey) = some (.type "type"))
    (n_BadRule : PySem.W.nsIn K mainGlobals "BadRule" = some (some (.ref C_BadRule)))
    (kc_BadRule : PySem.W.keepIn K (.ref C_BadRule) = true)
    (xc_BadRule : PySem.W.excIn K C_BadRule [.type "ValueError", .type "Exception", .type "BaseException", .type "object"] "ValueError.__new__" = true)
    (bc_BadRule : PySem.W.subIn K (.ref C_BadRule) (.type "BaseException") = some true)
    (tc_BadRule : PySem.W.typeIn K (.ref C_BadRule) = some (.type "type"))
    (n_BadSize : PySem.W.nsIn K mainGlobals "BadSize" = some (some (.ref C_BadSize)))
    (kc_BadSize : PySem.W.keepIn K (.ref C_BadSize) = true)
    (xc_BadSize : PySem.W.excIn K C_BadSize [.type "ValueError", .type "Exception", .type "BaseException", .type "object"] "ValueError.__new__" = true)
    (bc_BadSize : PySem.W.subIn K (.ref C_BadSize) (.type "BaseException") = some true)
    (tc_BadSize : PySem.W.typeIn K (.ref C_BadSize) = some (.type "type"))
    (n_Full : PySem.W.nsIn K mainGlobals "Full" = some (some (.ref C_Full)))
    (kc_Full : PySem.W.keepIn K (.ref C_Full) = true)
    (xc_Full : PySem.W.excIn K C_Full [.type "ValueError", .type "Exception", .type "BaseException", .type "object"] "ValueError.__new__" = true)
    (bc_Full : PySem.W.subIn K (.ref C_Full) (.type "BaseException") = some true)
    (tc_Full : PySem.W.typeIn K (.ref C_Full) = some (.type "type"))
    (n_StrewError : PySem.W.nsIn K mainGlobals "StrewError" = some (some (.ref C_StrewError)))
    (kc_StrewError : PySem.W.keepIn K (.ref C_StrewError) = true)
    (xc_StrewError : PySem.W.excIn K C_StrewError [.type "ValueError", .type "Exception", .type "BaseException", .type "object"] "ValueError.__new__" = true)
    (bc_StrewError : PySem.W.subIn K (.ref C_StrewError) (.type "BaseException") = some true)
    (tc_StrewError : PySem.W.typeIn K (.ref C_StrewError) = some (.type "type"))
    (n_TooMany : PySem.W.nsIn K mainGlobals "TooMany" = some (some (.ref C_TooMany)))
    (kc_TooMany : PySem.W.keepIn K (.ref C_TooMany) = true)
    (xc_TooMany : PySem.W.excIn K C_TooMany [.type "ValueError", .type "Exception", .type "BaseException", .type "object"] "ValueError.__new__" = true)
    (bc_TooMany : PySem.W.subIn K (.ref C_TooMany) (.type "BaseException") = some true)
    (tc_TooMany : PySem.W.typeIn K (.ref C_TooMany) = some (.type "type"))
    (hd_StrewError : PySem.W.hasDictIn K C_StrewError = true)
    (wn : PySem.W.specialIn K (.builtin "object.__class__") "__get__" = some (some (.builtin "getset_descriptor.__get__")))
    (wt : PySem.W.takesIn K (.builtin "object.__class__") = some true)
    (hg_BadRule : PySem.W.findIn K (.ref C_BadRule) "__getattribute__" = some (some (.builtin "BaseException.__getattribute__")))
    (hk_BadRule : PySem.W.findIn K (.ref C_BadRule) "__getattr__" = some none)
    (hd_BadRule : PySem.W.hasDictIn K C_BadRule = true)
    (ha_BadRule : PySem.W.findIn K (.ref C_BadRule) "__class__" = some (some (.builtin "object.__class__")))
    (hm_BadRule : PySem.W.mroIn K C_BadRule (.type "object") = some true)
    (kv_BadRule : PySem.W.subIn K (.ref C_BadRule) (.type "ValueError") = some true)
    (ex_BadRule : PySem.W.subIn K (.ref C_BadRule) (.ref C_StrewError) = some true)
    (kk_BadRule_BadRule : PySem.W.subIn K (.ref C_BadRule) (.ref C_BadRule) = some true)
    (kk_BadRule_BadKey : PySem.W.subIn K (.ref C_BadRule) (.ref C_BadKey) = some false)
    (kk_BadRule_BadSize : PySem.W.subIn K (.ref C_BadRule) (.ref C_BadSize) = some false)
    (kk_BadRule_Full : PySem.W.subIn K (.ref C_BadRule) (.ref C_Full) = some false)
    (kk_BadRule_TooMany : PySem.W.subIn K (.ref C_BadRule) (.ref C_TooMany) = some false)
    (hg_BadKey : PySem.W.findIn K (.ref C_BadKey) "__getattribute__" = some (some (.builtin "BaseException.__getattribute__")))
    (hk_BadKey : PySem.W.findIn K (.ref C_BadKey) "__getattr__" = some none)
    (hd_BadKey : PySem.W.hasDictIn K C_BadKey = true)
    (ha_BadKey : PySem.W.findIn K (.ref C_BadKey) "__class__" = some (some (.builtin "object.__class__")))
    (hm_BadKey : PySem.W.mroIn K C_BadKey (.type "object") = some true)
    (kv_BadKey : PySem.W.subIn K (.ref C_BadKey) (.type "ValueError") = some true)
    (ex_BadKey : PySem.W.subIn K (.ref C_BadKey) (.ref C_StrewError) = some true)
    (kk_BadKey_BadRule : PySem.W.subIn K (.ref C_BadKey) (.ref C_BadRule) = some false)
    (kk_BadKey_BadKey : PySem.W.subIn K (.ref C_BadKey) (.ref C_BadKey) = some true)
    (kk_BadKey_BadSize : PySem.W.subIn K (.ref C_BadKey) (.ref C_BadSize) = some false)
    (kk_BadKey_Full : PySem.W.subIn K (.ref C_BadKey) (.ref C_Full) = some false)
    (kk_BadKey_TooMany : PySem.W.subIn K (.ref C_BadKey) (.ref C_TooMany) = some false)
    (hg_BadSize : PySem.W.findIn K (.ref C_BadSize) "__getattribute__" = some (some (.builtin "BaseException.__getattribute__")))
    (hk_BadSize : PySem.W.findIn K (.ref C_BadSize) "__getattr__" = some none)
    (hd_BadSize : PySem.W.hasDictIn K C_BadSize = true)
    (ha_BadSize : PySem.W.findIn K (.ref C_BadSize) "__class__" = some (some (.builtin "object.__class__")))
    (hm_BadSize : PySem.W.mroIn K C_BadSize (.type "object") = some true)
    (kv_BadSize : PySem.W.subIn K (.ref C_BadSize) (.type "ValueError") = some true)
    (ex_BadSize : PySem.W.subIn K (.ref C_BadSize) (.ref C_StrewError) = some true)
    (kk_BadSize_BadRule : PySem.W.subIn K (.ref C_BadSize) (.ref C_BadRule) = some false)
    (kk_BadSize_BadKey : PySem.W.subIn K (.ref C_BadSize) (.ref C_BadKey) = some false)
    (kk_BadSize_BadSize : PySem.W.subIn K (.ref C_BadSize) (.ref C_BadSize) = some true)
    (kk_BadSize_Full : PySem.W.subIn K (.ref C_BadSize) (.ref C_Full) = some false)
    (kk_BadSize_TooMany : PySem.W.subIn K (.ref C_BadSize) (.ref C_TooMany) = some false)
    (hg_Full : PySem.W.findIn K (.ref C_Full) "__getattribute__" = some (some (.builtin "BaseException.__getattribute__")))
    (hk_Full : PySem.W.findIn K (.ref C_Full) "__getattr__" = some none)
    (hd_Full : PySem.W.hasDictIn K C_Full = true)
    (ha_Full : PySem.W.findIn K (.ref C_Full) "__class__" = some (some (.builtin "object.__class__")))
    (hm_Full : PySem.W.mroIn K C_Full (.type "object") = some true)
    (kv_Full : PySem.W.subIn K (.ref C_Full) (.type "ValueError") = some true)
    (ex_Full : PySem.W.subIn K (.ref C_Full) (.ref C_StrewError) = some true)
    (kk_Full_BadRule : PySem.W.subIn K (.ref C_Full) (.ref C_BadRule) = some false)
    (kk_Full_BadKey : PySem.W.subIn K (.ref C_Full) (.ref C_BadKey) = some false)
    (kk_Full_BadSize : PySem.W.subIn K (.ref C_Full) (.ref C_BadSize) = some false)
    (kk_Full_Full : PySem.W.subIn K (.ref C_Full) (.ref C_Full) = some true)
    (kk_Full_TooMany : PySem.W.subIn K (.ref C_Full) (.ref C_TooMany) = some false)
    (hg_TooMany : PySem.W.findIn K (.ref C_TooMany) "__getattribute__" = some (some (.builtin "BaseException.__getattribute__")))
    (hk_TooMany : PySem.W.findIn K (.ref C_TooMany) "__getattr__" = some none)
    (hd_TooMany : PySem.W.hasDictIn K C_TooMany = true)
    (ha_TooMany : PySem.W.findIn K (.ref C_TooMany) "__class__" = some (some (.builtin "object.__class__")))
    (hm_TooMany : PySem.W.mroIn K C_TooMany (.type "object") = some true)
    (kv_TooMany : PySem.W.subIn K (.ref C_TooMany) (.type "ValueError") = some true)
    (ex_TooMany : PySem.W.subIn K (.ref C_TooMany) (.ref C_StrewError) = some true)
    (kk_TooMany_BadRule : PySem.W.subIn K (.ref C_TooMany) (.ref C_BadRule) = some false)
    (kk_TooMany_BadKey : PySem.W.subIn K (.ref C_TooMany) (.ref C_BadKey) = some false)
    (kk_TooMany_BadSize : PySem.W.subIn K (.ref C_TooMany) (.ref C_BadSize) = some false)
    (kk_TooMany_Full : PySem.W.subIn K (.ref C_TooMany) (.ref C_Full) = some false)
    (kk_TooMany_TooMany : PySem.W.subIn K (.ref C_TooMany) (.ref C_TooMany) = some true)
    (a0 : PySem.W.nsIn K mainGlobals "_law_cell" = some (some (.ref f0)))
    (l0 : K.lookup f0 = some ⟨oc0, od0, .func (PySem.W.fnOf "_law_cell" "_law_cell" (defArgs s__law_cell) (defBody s__law_cell) (defScope s__law_cell) .none kV0 dc0 pm0 an0 cd0 ct0), sl0⟩)
    (c0 : PySem.W.codeIn K cd0 "_law_cell" = true)
    (k0 : PySem.W.keepIn K (.ref f0) = true)
    (a1 : PySem.W.nsIn K mainGlobals "_law_drawn" = some (some (.ref f1)))
    (l1 : K.lookup f1 = some ⟨oc1, od1, .func (PySem.W.fnOf "_law_drawn" "_law_drawn" (defArgs s__law_drawn) (defBody s__law_drawn) (defScope s__law_drawn) .none kV1 dc1 pm1 an1 cd1 ct1), sl1⟩)
    (c1 : PySem.W.codeIn K cd1 "_law_drawn" = true)
    (k1 : PySem.W.keepIn K (.ref f1) = true)
    (a2 : PySem.W.nsIn K mainGlobals "_law_power" = some (some (.ref f2)))
    (l2 : K.lookup f2 = some ⟨oc2, od2, .func (PySem.W.fnOf "_law_power" "_law_power" (defArgs s__law_power) (defBody s__law_power) (defScope s__law_power) .none kV2 dc2 pm2 an2 cd2 ct2), sl2⟩)
    (c2 : PySem.W.codeIn K cd2 "_law_power" = true)
    (k2 : PySem.W.keepIn K (.ref f2) = true)
    (a3 : PySem.W.nsIn K mainGlobals "_law_heights" = some (some (.ref f3)))
    (l3 : K.lookup f3 = some ⟨oc3, od3, .func (PySem.W.fnOf "_law_heights" "_law_heights" (defArgs s__law_heights) (defBody s__law_heights) (defScope s__law_heights) .none kV3 dc3 pm3 an3 cd3 ct3), sl3⟩)
    (c3 : PySem.W.codeIn K cd3 "_law_heights" = true)
    (k3 : PySem.W.keepIn K (.ref f3) = true)
    (a4 : PySem.W.nsIn K mainGlobals "_law_word" = some (some (.ref f4)))
    (l4 : K.lookup f4 = some ⟨oc4, od4, .func (PySem.W.fnOf "_law_word" "_law_word" (defArgs s__law_word) (defBody s__law_word) (defScope s__law_word) .none kV4 dc4 pm4 an4 cd4 ct4), sl4⟩)
    (c4 : PySem.W.codeIn K cd4 "_law_word" = true)
    (k4 : PySem.W.keepIn K (.ref f4) = true)
    (a5 : PySem.W.nsIn K mainGlobals "is_count" = some (some (.ref f5)))
    (l5 : K.lookup f5 = some ⟨oc5, od5, .func (PySem.W.fnOf "is_count" "is_count" (defArgs s_is_count) (defBody s_is_count) (defScope s_is_count) .none kV5 dc5 pm5 an5 cd5 ct5), sl5⟩)
    (c5 : PySem.W.codeIn K cd5 "is_count" = true)
    (k5 : PySem.W.keepIn K (.ref f5) = true)
    (a6 : PySem.W.nsIn K mainGlobals "need_size" = some (some (.ref f6)))
    (l6 : K.lookup f6 = some ⟨oc6, od6, .func (PySem.W.fnOf "need_size" "need_size" (defArgs s_need_size) (defBody s_need_size) (defScope s_need_size) .none kV6 dc6 pm6 an6 cd6 ct6), sl6⟩)
    (c6 : PySem.W.codeIn K cd6 "need_size" = true)
    (k6 : PySem.W.keepIn K (.ref f6) = true)
    (a7 : PySem.W.nsIn K mainGlobals "need_count" = some (some (.ref f7)))
    (l7 : K.lookup f7 = some ⟨oc7, od7, .func (PySem.W.fnOf "need_count" "need_count" (defArgs s_need_count) (defBody s_need_count) (defScope s_need_count) .none kV7 dc7 pm7 an7 cd7 ct7), sl7⟩)
    (c7 : PySem.W.codeIn K cd7 "need_count" = true)
    (k7 : PySem.W.keepIn K (.ref f7) = true)
    (a8 : PySem.W.nsIn K mainGlobals "choices" = some (some (.ref f8)))
    (l8 : K.lookup f8 = some ⟨oc8, od8, .func (PySem.W.fnOf "choices" "choices" (defArgs s_choices) (defBody s_choices) (defScope s_choices) .none kV8 dc8 pm8 an8 cd8 ct8), sl8⟩)
    (c8 : PySem.W.codeIn K cd8 "choices" = true)
    (k8 : PySem.W.keepIn K (.ref f8) = true)
    (a9 : PySem.W.nsIn K mainGlobals "bounded" = some (some (.ref f9)))
    (l9 : K.lookup f9 = some ⟨oc9, od9, .func (PySem.W.fnOf "bounded" "bounded" (defArgs s_bounded) (defBody s_bounded) (defScope s_bounded) .none kV9 dc9 pm9 an9 cd9 ct9), sl9⟩)
    (c9 : PySem.W.codeIn K cd9 "bounded" = true)
    (k9 : PySem.W.keepIn K (.ref f9) = true)
    (a10 : PySem.W.nsIn K mainGlobals "longest" = some (some (.ref f10)))
    (l10 : K.lookup f10 = some ⟨oc10, od10, .func (PySem.W.fnOf "longest" "longest" (defArgs s_longest) (defBody s_longest) (defScope s_longest) .none kV10 dc10 pm10 an10 cd10 ct10), sl10⟩)
    (c10 : PySem.W.codeIn K cd10 "longest" = true)
    (k10 : PySem.W.keepIn K (.ref f10) = true)
    (a11 : PySem.W.nsIn K mainGlobals "power" = some (some (.ref f11)))
    (l11 : K.lookup f11 = some ⟨oc11, od11, .func (PySem.W.fnOf "power" "power" (defArgs s_power) (defBody s_power) (defScope s_power) .none kV11 dc11 pm11 an11 cd11 ct11), sl11⟩)
    (c11 : PySem.W.codeIn K cd11 "power" = true)
    (k11 : PySem.W.keepIn K (.ref f11) = true)
    (a12 : PySem.W.nsIn K mainGlobals "fraction" = some (some (.ref f12)))
    (l12 : K.lookup f12 = some ⟨oc12, od12, .func (PySem.W.fnOf "fraction" "fraction" (defArgs s_fraction) (defBody s_fraction) (defScope s_fraction) .none kV12 dc12 pm12 an12 cd12 ct12), sl12⟩)
    (c12 : PySem.W.codeIn K cd12 "fraction" = true)
    (k12 : PySem.W.keepIn K (.ref f12) = true)
    (a13 : PySem.W.nsIn K mainGlobals "mean_longest" = some (some (.ref f13)))
    (l13 : K.lookup f13 = some ⟨oc13, od13, .func (PySem.W.fnOf "mean_longest" "mean_longest" (defArgs s_mean_longest) (defBody s_mean_longest) (defScope s_mean_longest) .none kV13 dc13 pm13 an13 cd13 ct13), sl13⟩)
    (c13 : PySem.W.codeIn K cd13 "mean_longest" = true)
    (k13 : PySem.W.keepIn K (.ref f13) = true)
    (a14 : PySem.W.nsIn K mainGlobals "_law_told" = some (some (.ref f14)))
    (l14 : K.lookup f14 = some ⟨oc14, od14, .func (PySem.W.fnOf "_law_told" "_law_told" (defArgs s__law_told) (defBody s__law_told) (defScope s__law_told) .none kV14 dc14 pm14 an14 cd14 ct14), sl14⟩)
    (c14 : PySem.W.codeIn K cd14 "_law_told" = true)
    (k14 : PySem.W.keepIn K (.ref f14) = true)
    (a15 : PySem.W.nsIn K mainGlobals "_law_fraction" = some (some (.ref f15)))
    (l15 : K.lookup f15 = some ⟨oc15, od15, .func (PySem.W.fnOf "_law_fraction" "_law_fraction" (defArgs s__law_fraction) (defBody s__law_fraction) (defScope s__law_fraction) .none kV15 dc15 pm15 an15 cd15 ct15), sl15⟩)
    (c15 : PySem.W.codeIn K cd15 "_law_fraction" = true)
    (k15 : PySem.W.keepIn K (.ref f15) = true)
    (a16 : PySem.W.nsIn K mainGlobals "_law_chosen" = some (some (.ref f16)))
    (l16 : K.lookup f16 = some ⟨oc16, od16, .func (PySem.W.fnOf "_law_chosen" "_law_chosen" (defArgs s__law_chosen) (defBody s__law_chosen) (defScope s__law_chosen) .none kV16 dc16 pm16 an16 cd16 ct16), sl16⟩)
    (c16 : PySem.W.codeIn K cd16 "_law_chosen" = true)
    (k16 : PySem.W.keepIn K (.ref f16) = true)
    (a17 : PySem.W.nsIn K mainGlobals "_law_bounded" = some (some (.ref f17)))
    (l17 : K.lookup f17 = some ⟨oc17, od17, .func (PySem.W.fnOf "_law_bounded" "_law_bounded" (defArgs s__law_bounded) (defBody s__law_bounded) (defScope s__law_bounded) .none kV17 dc17 pm17 an17 cd17 ct17), sl17⟩)
    (c17 : PySem.W.codeIn K cd17 "_law_bounded" = true)
    (k17 : PySem.W.keepIn K (.ref f17) = true)
    (a18 : PySem.W.nsIn K mainGlobals "law" = some (some (.ref f18)))
    (l18 : K.lookup f18 = some ⟨oc18, od18, .func (PySem.W.fnOf "law" "law" (defArgs s_law) (defBody s_law) (defScope s_law) .none kV18 dc18 pm18 an18 cd18 ct18), sl18⟩)
    (c18 : PySem.W.codeIn K cd18 "law" = true)
    (k18 : PySem.W.keepIn K (.ref f18) = true)
    (v_LEAST_SIZE : PySem.W.nsIn K mainGlobals "LEAST_SIZE" = some (some (.int 2 tk_LEAST_SIZE)))
    (v_MOST_KEYS : PySem.W.nsIn K mainGlobals "MOST_KEYS" = some (some (.int 64 tk_MOST_KEYS)))
    (v_MOST_SIZE : PySem.W.nsIn K mainGlobals "MOST_SIZE" = some (some (.int 64 tk_MOST_SIZE)))
    (b_ValueError : PySem.W.nsIn K mainGlobals "ValueError" = some none)
    (b_abs : PySem.W.nsIn K mainGlobals "abs" = some none)
    (b_bool : PySem.W.nsIn K mainGlobals "bool" = some none)
    (b_enumerate : PySem.W.nsIn K mainGlobals "enumerate" = some none)
    (b_int : PySem.W.nsIn K mainGlobals "int" = some none)
    (b_isinstance : PySem.W.nsIn K mainGlobals "isinstance" = some none)
    (b_len : PySem.W.nsIn K mainGlobals "len" = some none)
    (b_max : PySem.W.nsIn K mainGlobals "max" = some none)
    (b_min : PySem.W.nsIn K mainGlobals "min" = some none)
    (b_range : PySem.W.nsIn K mainGlobals "range" = some none)
    (b_sorted : PySem.W.nsIn K mainGlobals "sorted" = some none)
    (b_sum : PySem.W.nsIn K mainGlobals "sum" = some none)
    (b_zip : PySem.W.nsIn K mainGlobals "zip" = some none) :
    ∃ fd : FuncData, (∀ (s : Shared) (v : Value), BindsTo s fd ⟨[v], []⟩ [("_law_script", v)]) ∧ ∀ base : Heap, K.In base → base.Ns mainGlobals mg → FnOk l.prog w K mg base (L2N.CX l.prog w) 6 fa fd ["_law_script"] (spLaw K) := by
  have e := hfa.symm.trans (PySem.W.mg_of X G a18)
  cases e
  refine ⟨PySem.W.fnOf "law" "law" (defArgs s_law) (defBody s_law) (defScope s_law) .none kV18 dc18 pm18 an18 cd18 ct18, fun s v => .of_eq rfl, fun base _ _ => ?_⟩
  let cs : Cs := ⟨C_BadRule, C_BadKey, C_BadSize, C_Full, C_TooMany, C_StrewError, 0, 0, 0⟩
  have x_BadKey : ExcT K mg "BadKey" cs.BadKey := ⟨PySem.W.mg_of X G n_BadKey, kc_BadKey, xc_BadKey, bc_BadKey, tc_BadKey⟩
  have x_BadRule : ExcT K mg "BadRule" cs.BadRule := ⟨PySem.W.mg_of X G n_BadRule, kc_BadRule, xc_BadRule, bc_BadRule, tc_BadRule⟩
  have x_BadSize : ExcT K mg "BadSize" cs.BadSize := ⟨PySem.W.mg_of X G n_BadSize, kc_BadSize, xc_BadSize, bc_BadSize, tc_BadSize⟩
  have x_Full : ExcT K mg "Full" cs.Full := ⟨PySem.W.mg_of X G n_Full, kc_Full, xc_Full, bc_Full, tc_Full⟩
  have x_StrewError : ExcT K mg "StrewError" cs.StrewError := ⟨PySem.W.mg_of X G n_StrewError, kc_StrewError, xc_StrewError, bc_StrewError, tc_StrewError⟩
  have x_TooMany : ExcT K mg "TooMany" cs.TooMany := ⟨PySem.W.mg_of X G n_TooMany, kc_TooMany, xc_TooMany, bc_TooMany, tc_TooMany⟩
  have kw_BadRule := kitC_mk (cs := cs) (⟨hg_BadRule, hk_BadRule, bc_BadRule, hd_BadRule, ha_BadRule, wn, wt, hm_BadRule⟩ : ExcC K C_BadRule) hd_BadRule hd_BadKey hd_BadSize hd_Full hd_TooMany tc_BadRule tc_BadKey tc_BadSize tc_Full tc_TooMany kk_BadRule_BadRule kk_BadRule_BadRule kk_BadRule_BadKey kk_BadRule_BadSize kk_BadRule_Full kk_BadRule_TooMany kv_BadRule
  have kw_BadKey := kitC_mk (cs := cs) (⟨hg_BadKey, hk_BadKey, bc_BadKey, hd_BadKey, ha_BadKey, wn, wt, hm_BadKey⟩ : ExcC K C_BadKey) hd_BadRule hd_BadKey hd_BadSize hd_Full hd_TooMany tc_BadRule tc_BadKey tc_BadSize tc_Full tc_TooMany kk_BadKey_BadKey kk_BadKey_BadRule kk_BadKey_BadKey kk_BadKey_BadSize kk_BadKey_Full kk_BadKey_TooMany kv_BadKey
  have kw_BadSize := kitC_mk (cs := cs) (⟨hg_BadSize, hk_BadSize, bc_BadSize, hd_BadSize, ha_BadSize, wn, wt, hm_BadSize⟩ : ExcC K C_BadSize) hd_BadRule hd_BadKey hd_BadSize hd_Full hd_TooMany tc_BadRule tc_BadKey tc_BadSize tc_Full tc_TooMany kk_BadSize_BadSize kk_BadSize_BadRule kk_BadSize_BadKey kk_BadSize_BadSize kk_BadSize_Full kk_BadSize_TooMany kv_BadSize
  have kw_Full := kitC_mk (cs := cs) (⟨hg_Full, hk_Full, bc_Full, hd_Full, ha_Full, wn, wt, hm_Full⟩ : ExcC K C_Full) hd_BadRule hd_BadKey hd_BadSize hd_Full hd_TooMany tc_BadRule tc_BadKey tc_BadSize tc_Full tc_TooMany kk_Full_Full kk_Full_BadRule kk_Full_BadKey kk_Full_BadSize kk_Full_Full kk_Full_TooMany kv_Full
  have kw_TooMany := kitC_mk (cs := cs) (⟨hg_TooMany, hk_TooMany, bc_TooMany, hd_TooMany, ha_TooMany, wn, wt, hm_TooMany⟩ : ExcC K C_TooMany) hd_BadRule hd_BadKey hd_BadSize hd_Full hd_TooMany tc_BadRule tc_BadKey tc_BadSize tc_Full tc_TooMany kk_TooMany_TooMany kk_TooMany_BadRule kk_TooMany_BadKey kk_TooMany_BadSize kk_TooMany_Full kk_TooMany_TooMany kv_TooMany
  have kw : KitW K cs := ⟨kw_BadRule, kw_BadKey, kw_BadSize, kw_Full, kw_TooMany⟩
  have kx : ExmW K cs := exmW_mk (PySem.W.exm_ref bc_StrewError hd_StrewError tc_StrewError ex_BadRule) (PySem.W.exm_ref bc_StrewError hd_StrewError tc_StrewError ex_BadKey) (PySem.W.exm_ref bc_StrewError hd_StrewError tc_StrewError ex_BadSize) (PySem.W.exm_ref bc_StrewError hd_StrewError tc_StrewError ex_Full) (PySem.W.exm_ref bc_StrewError hd_StrewError tc_StrewError ex_TooMany)
  have k_LEAST_SIZE : ∃ t, mg "LEAST_SIZE" = some (.int 2 t) := ⟨_, PySem.W.mg_of X G v_LEAST_SIZE⟩
  have k_MOST_KEYS : ∃ t, mg "MOST_KEYS" = some (.int 64 t) := ⟨_, PySem.W.mg_of X G v_MOST_KEYS⟩
  have k_MOST_SIZE : ∃ t, mg "MOST_SIZE" = some (.int 64 t) := ⟨_, PySem.W.mg_of X G v_MOST_SIZE⟩
  have m_ValueError : mg "ValueError" = none := PySem.W.mg_none_of X G b_ValueError
  have m_abs : mg "abs" = none := PySem.W.mg_none_of X G b_abs
  have m_bool : mg "bool" = none := PySem.W.mg_none_of X G b_bool
  have m_enumerate : mg "enumerate" = none := PySem.W.mg_none_of X G b_enumerate
  have m_int : mg "int" = none := PySem.W.mg_none_of X G b_int
  have m_isinstance : mg "isinstance" = none := PySem.W.mg_none_of X G b_isinstance
  have m_len : mg "len" = none := PySem.W.mg_none_of X G b_len
  have m_max : mg "max" = none := PySem.W.mg_none_of X G b_max
  have m_min : mg "min" = none := PySem.W.mg_none_of X G b_min
  have m_range : mg "range" = none := PySem.W.mg_none_of X G b_range
  have m_sorted : mg "sorted" = none := PySem.W.mg_none_of X G b_sorted
  have m_sum : mg "sum" = none := PySem.W.mg_none_of X G b_sum
  have m_zip : mg "zip" = none := PySem.W.mg_none_of X G b_zip
  have D__law_cell : Dn K mg "_law_cell" s__law_cell ["_law_script", "_law_k"] := ⟨f0, _, fun_mk (st := s__law_cell) l0 c0 k0, PySem.W.mg_of X G a0, (fun_mk (st := s__law_cell) l0 c0 k0).binds fun _ _ _ _ _ _ us hl => match us, hl with | [_, _], _ => rfl⟩
  have cal__law_cell := ok__law_cell (P := l.prog) (w := w) (base := base) (cs := cs) D__law_cell m_len
  have D__law_drawn : Dn K mg "_law_drawn" s__law_drawn ["_law_cell_here", "_law_k"] := ⟨f1, _, fun_mk (st := s__law_drawn) l1 c1 k1, PySem.W.mg_of X G a1, (fun_mk (st := s__law_drawn) l1 c1 k1).binds fun _ _ _ _ _ _ us hl => match us, hl with | [_, _], _ => rfl⟩
  have cal__law_drawn := ok__law_drawn (P := l.prog) (w := w) (base := base) (cs := cs) D__law_drawn
  have D__law_power : Dn K mg "_law_power" s__law_power ["_law_size", "_law_many"] := ⟨f2, _, fun_mk (st := s__law_power) l2 c2 k2, PySem.W.mg_of X G a2, (fun_mk (st := s__law_power) l2 c2 k2).binds fun _ _ _ _ _ _ us hl => match us, hl with | [_, _], _ => rfl⟩
  have cal__law_power := ok__law_power (P := l.prog) (w := w) (base := base) (cs := cs) D__law_power m_range
  have D__law_heights : Dn K mg "_law_heights" s__law_heights ["_law_size", "_law_many"] := ⟨f3, _, fun_mk (st := s__law_heights) l3 c3 k3, PySem.W.mg_of X G a3, (fun_mk (st := s__law_heights) l3 c3 k3).binds fun _ _ _ _ _ _ us hl => match us, hl with | [_, _], _ => rfl⟩
  have cal__law_heights := ok__law_heights (P := l.prog) (w := w) (base := base) (cs := cs) D__law_heights cal__law_power m_range m_max
  have D__law_word : Dn K mg "_law_word" s__law_word ["_law_e"] := ⟨f4, _, fun_mk (st := s__law_word) l4 c4 k4, PySem.W.mg_of X G a4, (fun_mk (st := s__law_word) l4 c4 k4).binds fun _ _ _ _ _ _ us hl => match us, hl with | [_], _ => rfl⟩
  have cal__law_word := ok__law_word (P := l.prog) (w := w) (base := base) (cs := cs) D__law_word kw m_isinstance m_int m_sum m_ValueError x_BadRule x_BadKey x_BadSize x_Full x_TooMany
  have D_is_count : Dn K mg "is_count" s_is_count ["thing", "least", "most"] := ⟨f5, _, fun_mk (st := s_is_count) l5 c5 k5, PySem.W.mg_of X G a5, (fun_mk (st := s_is_count) l5 c5 k5).binds fun _ _ _ _ _ _ us hl => match us, hl with | [_, _, _], _ => rfl⟩
  have cal_is_count := ok_is_count (P := l.prog) (w := w) (base := base) (cs := cs) D_is_count m_int m_isinstance m_bool
  have D_need_size : Dn K mg "need_size" s_need_size ["size"] := ⟨f6, _, fun_mk (st := s_need_size) l6 c6 k6, PySem.W.mg_of X G a6, (fun_mk (st := s_need_size) l6 c6 k6).binds fun _ _ _ _ _ _ us hl => match us, hl with | [_], _ => rfl⟩
  have cal_need_size := ok_need_size (P := l.prog) (w := w) (base := base) (cs := cs) D_need_size cal_is_count k_LEAST_SIZE k_MOST_SIZE x_BadSize
  have D_need_count : Dn K mg "need_count" s_need_count ["number", "least", "most"] := ⟨f7, _, fun_mk (st := s_need_count) l7 c7 k7, PySem.W.mg_of X G a7, (fun_mk (st := s_need_count) l7 c7 k7).binds fun _ _ _ _ _ _ us hl => match us, hl with | [_, _, _], _ => rfl⟩
  have cal_need_count := ok_need_count (P := l.prog) (w := w) (base := base) (cs := cs) D_need_count cal_is_count x_BadSize
  have D_choices : Dn K mg "choices" s_choices ["many"] := ⟨f8, _, fun_mk (st := s_choices) l8 c8 k8, PySem.W.mg_of X G a8, (fun_mk (st := s_choices) l8 c8 k8).binds fun _ _ _ _ _ _ us hl => match us, hl with | [_], _ => rfl⟩
  have cal_choices := ok_choices (P := l.prog) (w := w) (base := base) (cs := cs) D_choices m_range m_zip
  have D_bounded : Dn K mg "bounded" s_bounded ["size", "many", "most", "rows"] := ⟨f9, _, fun_mk (st := s_bounded) l9 c9 k9, PySem.W.mg_of X G a9, (fun_mk (st := s_bounded) l9 c9 k9).binds fun _ _ _ _ _ _ us hl => match us, hl with | [_, _, _, _], _ => rfl⟩
  have cal_bounded := ok_bounded (P := l.prog) (w := w) (base := base) (cs := cs) D_bounded m_range m_min m_sum
  have D_longest : Dn K mg "longest" s_longest ["size", "many"] := ⟨f10, _, fun_mk (st := s_longest) l10 c10 k10, PySem.W.mg_of X G a10, (fun_mk (st := s_longest) l10 c10 k10).binds fun _ _ _ _ _ _ us hl => match us, hl with | [_, _], _ => rfl⟩
  have cal_longest := ok_longest (P := l.prog) (w := w) (base := base) (cs := cs) D_longest cal_need_size cal_need_count cal_choices cal_bounded m_range k_MOST_KEYS
  have D_power : Dn K mg "power" s_power ["size", "many"] := ⟨f11, _, fun_mk (st := s_power) l11 c11 k11, PySem.W.mg_of X G a11, (fun_mk (st := s_power) l11 c11 k11).binds fun _ _ _ _ _ _ us hl => match us, hl with | [_, _], _ => rfl⟩
  have cal_power := ok_power (P := l.prog) (w := w) (base := base) (cs := cs) D_power m_range
  have D_fraction : Dn K mg "fraction" s_fraction ["top", "under"] := ⟨f12, _, fun_mk (st := s_fraction) l12 c12 k12, PySem.W.mg_of X G a12, (fun_mk (st := s_fraction) l12 c12 k12).binds fun _ _ _ _ _ _ us hl => match us, hl with | [_, _], _ => rfl⟩
  have cal_fraction := ok_fraction (P := l.prog) (w := w) (base := base) (cs := cs) D_fraction m_abs
  have D_mean_longest : Dn K mg "mean_longest" s_mean_longest ["size", "many"] := ⟨f13, _, fun_mk (st := s_mean_longest) l13 c13 k13, PySem.W.mg_of X G a13, (fun_mk (st := s_mean_longest) l13 c13 k13).binds fun _ _ _ _ _ _ us hl => match us, hl with | [_, _], _ => rfl⟩
  have cal_mean_longest := ok_mean_longest (P := l.prog) (w := w) (base := base) (cs := cs) D_mean_longest cal_longest cal_power cal_fraction m_sum
  have D__law_told : Dn K mg "_law_told" s__law_told ["_law_way", "_law_size", "_law_many"] := ⟨f14, _, fun_mk (st := s__law_told) l14 c14 k14, PySem.W.mg_of X G a14, (fun_mk (st := s__law_told) l14 c14 k14).binds fun _ _ _ _ _ _ us hl => match us, hl with | [_, _, _], _ => rfl⟩
  have cal__law_told := ok__law_told (P := l.prog) (w := w) (base := base) (cs := cs) D__law_told cal__law_word cal_longest cal_mean_longest kx x_StrewError
  have D__law_fraction : Dn K mg "_law_fraction" s__law_fraction ["_law_top", "_law_under"] := ⟨f15, _, fun_mk (st := s__law_fraction) l15 c15 k15, PySem.W.mg_of X G a15, (fun_mk (st := s__law_fraction) l15 c15 k15).binds fun _ _ _ _ _ _ us hl => match us, hl with | [_, _], _ => rfl⟩
  have cal__law_fraction := ok__law_fraction (P := l.prog) (w := w) (base := base) (cs := cs) D__law_fraction
  have D__law_chosen : Dn K mg "_law_chosen" s__law_chosen ["_law_many", "_law_here"] := ⟨f16, _, fun_mk (st := s__law_chosen) l16 c16 k16, PySem.W.mg_of X G a16, (fun_mk (st := s__law_chosen) l16 c16 k16).binds fun _ _ _ _ _ _ us hl => match us, hl with | [_, _], _ => rfl⟩
  have cal__law_chosen := ok__law_chosen (P := l.prog) (w := w) (base := base) (cs := cs) D__law_chosen m_range
  have D__law_bounded : Dn K mg "_law_bounded" s__law_bounded ["_law_size", "_law_many", "_law_most"] := ⟨f17, _, fun_mk (st := s__law_bounded) l17 c17 k17, PySem.W.mg_of X G a17, (fun_mk (st := s__law_bounded) l17 c17 k17).binds fun _ _ _ _ _ _ us hl => match us, hl with | [_, _, _], _ => rfl⟩
  have cal__law_bounded := ok__law_bounded (P := l.prog) (w := w) (base := base) (cs := cs) D__law_bounded cal__law_chosen m_range m_min m_sum
  exact ok_law (cs := cs) (fun_mk (st := s_law) l18 c18 k18) cal__law_cell cal__law_drawn cal__law_heights cal__law_power cal__law_told cal__law_fraction cal__law_bounded m_range m_len m_min m_max m_sum m_enumerate m_sorted
theorem walk {l : PySem.W.OpenLaw} {q : Program} {loose : List Str} {XP : (Str → Option Value) → Heap → Prop} {YP : World → Heap → Prop} {d : DefRec} {K : Params → PySem.W.Frag} (hn : l.most = some 63) (hdf : d.params.defaults = [])
    (hY : ∀ (w : World) (h : Heap), YP w h → (K w.params).In h)
    (F : ∀ (w : World) (mg : Str → Option Value) (fa : Addr) (h : Heap), (K w.params).In h → h.Ns mainGlobals mg → mg d.name = some (.ref fa) →
      ∃ fd : FuncData, (∀ (s : Shared) (u : Value), BindsTo s fd ⟨[u], []⟩ [("_law_script", u)]) ∧ ∀ base : Heap, (K w.params).In base → base.Ns mainGlobals mg → FnOk l.prog w (K w.params) mg base (L2N.CX l.prog w) 6 fa fd ["_law_script"] (spLaw (K w.params))) :
    PySem.W.WalkO q loose XP YP l.row.toRowW d [] (fun f vs => PySem.call f vs) := by
  refine L2.walk_of (n := 63) (k := 6) (x := "_law_script") (CX := fun w => L2N.CX l.prog w) (sp := fun w => spLaw (K w.params)) hn (by decide) hdf ⟨rfl, by decide, by decide⟩ hY F (fun _ _ a ns hl _ hS => ⟨a, ns, rfl, hS, hl, fun _ => rfl⟩) fun _ _ _ _ _ h => ?_
  obtain ⟨_, _, _, _, _, _, _, _, _, _, _, _, z⟩ := h
  exact z.elim
end Lg
open PySem PySem.W PyProof.Rows
set_option maxRecDepth 100000 in
set_option maxHeartbeats 0 in
theorem PySem.Challenge.cw_strewn_k51_whole_longest_holds : PySem.Challenge.rw_strewn_k51_whole_longest.Holds := by
  w_on; o_law; k_head; (case hw => w_witness2)
  k_fill
  refine Lg.walk (l := PySem.Challenge.rw_strewn_k51_whole_longest) rfl rfl (fun w h Y => PySem.W.kIn_of Y) ?F
  case F =>
    intro w mg fa h KX G hmg
    refine' Lg.all_mk KX G hmg ?n_BadKey ?kc_BadKey ?xc_BadKey ?bc_BadKey ?tc_BadKey ?n_BadRule ?kc_BadRule ?xc_BadRule ?bc_BadRule ?tc_BadRule ?n_BadSize ?kc_BadSize ?xc_BadSize ?bc_BadSize ?tc_BadSize ?n_Full ?kc_Full ?xc_Full ?bc_Full ?tc_Full ?n_StrewError ?kc_StrewError ?xc_StrewError ?bc_StrewError ?tc_StrewError ?n_TooMany ?kc_TooMany ?xc_TooMany ?bc_TooMany ?tc_TooMany ?hd_StrewError ?wn ?wt ?hg_BadRule ?hk_BadRule ?hd_BadRule ?ha_BadRule ?hm_BadRule ?kv_BadRule ?ex_BadRule ?kk_BadRule_BadRule ?kk_BadRule_BadKey ?kk_BadRule_BadSize ?kk_BadRule_Full ?kk_BadRule_TooMany ?hg_BadKey ?hk_BadKey ?hd_BadKey ?ha_BadKey ?hm_BadKey ?kv_BadKey ?ex_BadKey ?kk_BadKey_BadRule ?kk_BadKey_BadKey ?kk_BadKey_BadSize ?kk_BadKey_Full ?kk_BadKey_TooMany ?hg_BadSize ?hk_BadSize ?hd_BadSize ?ha_BadSize ?hm_BadSize ?kv_BadSize ?ex_BadSize ?kk_BadSize_BadRule ?kk_BadSize_BadKey ?kk_BadSize_BadSize ?kk_BadSize_Full ?kk_BadSize_TooMany ?hg_Full ?hk_Full ?hd_Full ?ha_Full ?hm_Full ?kv_Full ?ex_Full ?kk_Full_BadRule ?kk_Full_BadKey ?kk_Full_BadSize ?kk_Full_Full ?kk_Full_TooMany ?hg_TooMany ?hk_TooMany ?hd_TooMany ?ha_TooMany ?hm_TooMany ?kv_TooMany ?ex_TooMany ?kk_TooMany_BadRule ?kk_TooMany_BadKey ?kk_TooMany_BadSize ?kk_TooMany_Full ?kk_TooMany_TooMany ?a0 ?l0 ?c0 ?k0 ?a1 ?l1 ?c1 ?k1 ?a2 ?l2 ?c2 ?k2 ?a3 ?l3 ?c3 ?k3 ?a4 ?l4 ?c4 ?k4 ?a5 ?l5 ?c5 ?k5 ?a6 ?l6 ?c6 ?k6 ?a7 ?l7 ?c7 ?k7 ?a8 ?l8 ?c8 ?k8 ?a9 ?l9 ?c9 ?k9 ?a10 ?l10 ?c10 ?k10 ?a11 ?l11 ?c11 ?k11 ?a12 ?l12 ?c12 ?k12 ?a13 ?l13 ?c13 ?k13 ?a14 ?l14 ?c14 ?k14 ?a15 ?l15 ?c15 ?k15 ?a16 ?l16 ?c16 ?k16 ?a17 ?l17 ?c17 ?k17 ?a18 ?l18 ?c18 ?k18 ?v_LEAST_SIZE ?v_MOST_KEYS ?v_MOST_SIZE ?b_ValueError ?b_abs ?b_bool ?b_enumerate ?b_int ?b_isinstance ?b_len ?b_max ?b_min ?b_range ?b_sorted ?b_sum ?b_zip
    (case n_BadKey => k_is)
    (case kc_BadKey => k_is)
    (case xc_BadKey => k_exc)
    (case bc_BadKey => k_is)
    (case tc_BadKey => k_is)
    (case n_BadRule => k_is)
    (case kc_BadRule => k_is)
    (case xc_BadRule => k_exc)
    (case bc_BadRule => k_is)
    (case tc_BadRule => k_is)
    (case n_BadSize => k_is)
    (case kc_BadSize => k_is)
    (case xc_BadSize => k_exc)
    (case bc_BadSize => k_is)
    (case tc_BadSize => k_is)
    (case n_Full => k_is)
    (case kc_Full => k_is)
    (case xc_Full => k_exc)
    (case bc_Full => k_is)
    (case tc_Full => k_is)
    (case n_StrewError => k_is)
    (case kc_StrewError => k_is)
    (case xc_StrewError => k_exc)
    (case bc_StrewError => k_is)
    (case tc_StrewError => k_is)
    (case n_TooMany => k_is)
    (case kc_TooMany => k_is)
    (case xc_TooMany => k_exc)
    (case bc_TooMany => k_is)
    (case tc_TooMany => k_is)
    (case hd_StrewError => k_is)
    (case wn => k_is)
    (case wt => k_is)
    (case hg_BadRule => k_is)
    (case hk_BadRule => k_is)
    (case hd_BadRule => k_is)
    (case ha_BadRule => k_is)
    (case hm_BadRule => k_is)
    (case kv_BadRule => k_is)
    (case ex_BadRule => k_is)
    (case kk_BadRule_BadRule => k_is)
    (case kk_BadRule_BadKey => k_is)
    (case kk_BadRule_BadSize => k_is)
    (case kk_BadRule_Full => k_is)
    (case kk_BadRule_TooMany => k_is)
    (case hg_BadKey => k_is)
    (case hk_BadKey => k_is)
    (case hd_BadKey => k_is)
    (case ha_BadKey => k_is)
    (case hm_BadKey => k_is)
    (case kv_BadKey => k_is)
    (case ex_BadKey => k_is)
    (case kk_BadKey_BadRule => k_is)
    (case kk_BadKey_BadKey => k_is)
    (case kk_BadKey_BadSize => k_is)
    (case kk_BadKey_Full => k_is)
    (case kk_BadKey_TooMany => k_is)
    (case hg_BadSize => k_is)
    (case hk_BadSize => k_is)
    (case hd_BadSize => k_is)
    (case ha_BadSize => k_is)
    (case hm_BadSize => k_is)
    (case kv_BadSize => k_is)
    (case ex_BadSize => k_is)
    (case kk_BadSize_BadRule => k_is)
    (case kk_BadSize_BadKey => k_is)
    (case kk_BadSize_BadSize => k_is)
    (case kk_BadSize_Full => k_is)
    (case kk_BadSize_TooMany => k_is)
    (case hg_Full => k_is)
    (case hk_Full => k_is)
    (case hd_Full => k_is)
    (case ha_Full => k_is)
    (case hm_Full => k_is)
    (case kv_Full => k_is)
    (case ex_Full => k_is)
    (case kk_Full_BadRule => k_is)
    (case kk_Full_BadKey => k_is)
    (case kk_Full_BadSize => k_is)
    (case kk_Full_Full => k_is)
    (case kk_Full_TooMany => k_is)
    (case hg_TooMany => k_is)
    (case hk_TooMany => k_is)
    (case hd_TooMany => k_is)
    (case ha_TooMany => k_is)
    (case hm_TooMany => k_is)
    (case kv_TooMany => k_is)
    (case ex_TooMany => k_is)
    (case kk_TooMany_BadRule => k_is)
    (case kk_TooMany_BadKey => k_is)
    (case kk_TooMany_BadSize => k_is)
    (case kk_TooMany_Full => k_is)
    (case kk_TooMany_TooMany => k_is)
    (case a0 => k_is)
    (case l0 => k_is)
    (case c0 => k_is)
    (case k0 => k_is)
    (case a1 => k_is)
    (case l1 => k_is)
    (case c1 => k_is)
    (case k1 => k_is)
    (case a2 => k_is)
    (case l2 => k_is)
    (case c2 => k_is)
    (case k2 => k_is)
    (case a3 => k_is)
    (case l3 => k_is)
    (case c3 => k_is)
    (case k3 => k_is)
    (case a4 => k_is)
    (case l4 => k_is)
    (case c4 => k_is)
    (case k4 => k_is)
    (case a5 => k_is)
    (case l5 => k_is)
    (case c5 => k_is)
    (case k5 => k_is)
    (case a6 => k_is)
    (case l6 => k_is)
    (case c6 => k_is)
    (case k6 => k_is)
    (case a7 => k_is)
    (case l7 => k_is)
    (case c7 => k_is)
    (case k7 => k_is)
    (case a8 => k_is)
    (case l8 => k_is)
    (case c8 => k_is)
    (case k8 => k_is)
    (case a9 => k_is)
    (case l9 => k_is)
    (case c9 => k_is)
    (case k9 => k_is)
    (case a10 => k_is)
    (case l10 => k_is)
    (case c10 => k_is)
    (case k10 => k_is)
    (case a11 => k_is)
    (case l11 => k_is)
    (case c11 => k_is)
    (case k11 => k_is)
    (case a12 => k_is)
    (case l12 => k_is)
    (case c12 => k_is)
    (case k12 => k_is)
    (case a13 => k_is)
    (case l13 => k_is)
    (case c13 => k_is)
    (case k13 => k_is)
    (case a14 => k_is)
    (case l14 => k_is)
    (case c14 => k_is)
    (case k14 => k_is)
    (case a15 => k_is)
    (case l15 => k_is)
    (case c15 => k_is)
    (case k15 => k_is)
    (case a16 => k_is)
    (case l16 => k_is)
    (case c16 => k_is)
    (case k16 => k_is)
    (case a17 => k_is)
    (case l17 => k_is)
    (case c17 => k_is)
    (case k17 => k_is)
    (case a18 => k_is)
    (case l18 => k_is)
    (case c18 => k_is)
    (case k18 => k_is)
    (case v_LEAST_SIZE => k_is)
    (case v_MOST_KEYS => k_is)
    (case v_MOST_SIZE => k_is)
    (case b_ValueError => k_is)
    (case b_abs => k_is)
    (case b_bool => k_is)
    (case b_enumerate => k_is)
    (case b_int => k_is)
    (case b_isinstance => k_is)
    (case b_len => k_is)
    (case b_max => k_is)
    (case b_min => k_is)
    (case b_range => k_is)
    (case b_sorted => k_is)
    (case b_sum => k_is)
    (case b_zip => k_is)
