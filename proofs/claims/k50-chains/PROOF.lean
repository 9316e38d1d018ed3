import PyProof.Rows.All
import Wide.All
import OpenK.AllK
import Wide.FinOn
import HandS.ForExc
import HandS.Comp
import HandS.Iter
import HandS.Zip
import HandS.Wide
import HandS.SortInts
import HandS.IsInst
import HandS.EndBits
import HandS.Style
import HandS.TupMul
import HandS.TupAny
import HandS.Flow
import HandS.ExcCtx
import HandS.HotCalls
import HandS.ExcIs
import HandS.List
import HandS.Remove
import HandS.Walk
import HandS.Dict
import PySem.Challenge.RW_strewn_k50_chains
set_option Elab.async false
set_option linter.all false
set_option maxRecDepth 100000
set_option maxHeartbeats 4000000
set_option exponentiation.threshold 5000
/-! Lg: a small logic over the readings: what is known of the heap is a part of it, and every continuation is kept by extension. -/
namespace Lg
open PySem PySem.Spec PyProof.Rows L2
abbrev Sg := List (Option V)
def Ex (H H' : Hp) : Prop := ∀ a o, H a = some o → H' a = some o
theorem Ex.rf {H : Hp} : Ex H H := fun _ _ h => h
theorem Ex.tr {H H1 H2 : Hp} (a : Ex H H1) (b : Ex H1 H2) : Ex H H2 := fun x o h => b x o (a x o h)
theorem Ex.fresh {H H' : Hp} (e : Ex H H') {p : Addr} (h : H' p = none) : H p = none := by
  cases q : H p with
  | none => rfl
  | some o =>
    have z := e p o q
    rw [h] at z
    cases z
theorem Ex.ups {H H' : Hp} (e : Ex H H') (p : Addr) (o : HO) : Ex (upd H p o) (upd H' p o) := fun a u h => by
  by_cases q : a = p
  · subst q
    rw [upd_same] at h ⊢
    exact h
  · rw [upd_ne q] at h ⊢
    exact e a u h
theorem Ex.news {H : Hp} {p : Addr} {o : HO} (h : H p = none) : Ex H (L2.upd H p o) := fun a u e => by
  rw [upd_ne (ne_of_none e h)]
  exact e
theorem Ex.newr {H H' : Hp} {p : Addr} {o : HO} (e : Ex H H') (h : H' p = none) : Ex H (L2.upd H' p o) := e.tr (Ex.news h)
/-- what H does not know may be changed -/
theorem Ex.mutr {H H' : Hp} {p : Addr} {o : HO} (e : Ex H H') (h : H p = none) : Ex H (L2.upd H' p o) := fun a u ha => by
  rw [upd_ne (ne_of_none ha h)]
  exact e a u ha
theorem Ex.get {H H' : Hp} (e : Ex H H') {a : Addr} {o : HO} (h : H a = some o) : H' a = some o := e a o h
theorem rd_ex {H H' : Hp} (e : Ex H H') {a : Addr} {o : HO} (h : Rd H a o) : Rd H' a o := by
  rcases h with h | ⟨u, h⟩
  · exact .inl (e _ _ h)
  · exact .inr ⟨u, e _ _ h⟩
theorem Ex.sl {K : PySem.W.Frag} {H H' : Hp} (e : Ex H H') {a : Addr} {xs : List V} (h : SqL K H a xs) : SqL K H' a xs := by
  rcases h with h | h
  · exact .inl (rd_ex e h)
  · exact .inr h
theorem Ex.st {K : PySem.W.Frag} {H H' : Hp} (e : Ex H H') {a : Addr} {xs : List V} (h : SqT K H a xs) : SqT K H' a xs := by
  rcases h with h | h
  · exact .inl (rd_ex e h)
  · exact .inr h

abbrev PV := V → Hp → Prop
abbrev PS' := Sg → Hp → Prop
/-! ### the judgements -/
def kE (te : TE) (σ : Sg) (H : Hp) (Q : PV) : Prop := ∀ H1, Ex H H1 → ∀ Q1 : VK, (∀ v H0 H2, Q v H0 → Ex H0 H2 → Q1 v H2) → te σ H1 Q1
def kT (tt : TT) (σ : Sg) (H : Hp) (Q : Bool → Hp → Prop) : Prop := ∀ H1, Ex H H1 → ∀ Q1 : Bool → Hp → Prop, (∀ v H0 H2, Q v H0 → Ex H0 H2 → Q1 v H2) → tt σ H1 Q1
def kA (ta : TA) (σ : Sg) (H : Hp) (Q : List V → Hp → Prop) : Prop := ∀ H1, Ex H H1 → ∀ Q1 : List V → Hp → Prop, (∀ v H0 H2, Q v H0 → Ex H0 H2 → Q1 v H2) → ta σ H1 Q1
def kO (to : TO) (σ : Sg) (H : Hp) (Q : Option Int → Hp → Prop) : Prop := ∀ H1, Ex H H1 → ∀ Q1 : Option Int → Hp → Prop, (∀ v H0 H2, Q v H0 → Ex H0 H2 → Q1 v H2) → to σ H1 Q1
def kR (r : R2) (x y : V) (H : Hp) (Q : PV) : Prop := ∀ H1, Ex H H1 → ∀ Q1 : VK, (∀ v H0 H2, Q v H0 → Ex H0 H2 → Q1 v H2) → r x y H1 Q1
def kU (r : V → Hp → VK → Prop) (x : V) (H : Hp) (Q : PV) : Prop := ∀ H1, Ex H H1 → ∀ Q1 : VK, (∀ v H0 H2, Q v H0 → Ex H0 H2 → Q1 v H2) → r x H1 Q1
def kC (r : List V → Hp → VK → Prop) (vs : List V) (H : Hp) (Q : PV) : Prop := ∀ H1, Ex H H1 → ∀ Q1 : VK, (∀ v H0 H2, Q v H0 → Ex H0 H2 → Q1 v H2) → r vs H1 Q1
def kM (r : V → List V → Hp → VK → Prop) (x : V) (vs : List V) (H : Hp) (Q : PV) : Prop := ∀ H1, Ex H H1 → ∀ Q1 : VK, (∀ v H0 H2, Q v H0 → Ex H0 H2 → Q1 v H2) → r x vs H1 Q1
def kG (g : TG) (v : V) (σ : Sg) (H : Hp) (Q : PS') : Prop := ∀ H1, Ex H H1 → ∀ Q1 : PS', (∀ v H0 H2, Q v H0 → Ex H0 H2 → Q1 v H2) → g v σ H1 Q1
def kGs (g : TGs) (vs : List V) (σ : Sg) (H : Hp) (Q : PS') : Prop := ∀ H1, Ex H H1 → ∀ Q1 : PS', (∀ v H0 H2, Q v H0 → Ex H0 H2 → Q1 v H2) → g vs σ H1 Q1
def kS (ts : TS) (N : PS') (R : PV) (B C : PS') (σ : Sg) (H : Hp) : Prop := ∀ H1, Ex H H1 → ∀ D : Ends, (∀ s H0 H2, N s H0 → Ex H0 H2 → D.nx s H2) → (∀ v H0 H2, R v H0 → Ex H0 H2 → D.rt v H2) →
  (∀ s H0 H2, B s H0 → Ex H0 H2 → D.bk s H2) → (∀ s H0 H2, C s H0 → Ex H0 H2 → D.ct s H2) → ts D σ H1
/-- wanted of every extension -/
def upR (Q : VK) : PV := fun v H0 => ∀ H2, Ex H0 H2 → Q v H2
abbrev noS : PS' := fun _ _ => False
theorem fin {ts : TS} {Q : VK} {σ : Sg} {H : Hp} (h : kS ts (fun _ H0 => upR Q .non H0) (upR Q) noS noS σ H) : ts { nx := fun _ H' => Q .non H', rt := Q } σ H :=
  h H Ex.rf _ (fun _ _ _ r e => r _ e) (fun _ _ _ r e => r _ e) (fun _ _ _ r _ => r.elim) (fun _ _ _ r _ => r.elim)

variable {K : PySem.W.Frag} {σ σ' : Sg} {H H' : Hp} {ta tb tc te : TE} {tt tu : TT} {t u : TA} {Q : PV} {QB : Bool → Hp → Prop} {QA : List V → Hp → Prop} {N B C : PS'} {R : PV} {ts us : TS} {x y v : V} {i j : Int} {r r' : R2} {g : TG} {gs : TGs}
/-! ### expressions -/
theorem e_var {n : Nat} (h : σ[n]? = some (some v)) (k : Q v H) : kE (tVar n) σ H Q := fun H1 e _ q => ⟨v, h, q v H H1 k e⟩
theorem e_c (k : Q v H) : kE (tC v) σ H Q := fun H1 e _ q => q v H H1 k e
theorem e_op (k : kE ta σ H fun x H1 => kE tb σ H1 fun y H2 => kR r x y H2 Q) : kE (tOp r ta tb) σ H Q := fun H1 e _ q =>
  k H1 e _ fun _ _ H2 hx e2 => hx H2 e2 _ fun _ _ H3 hy e3 => hy H3 e3 _ q
theorem e_un {r : V → Hp → VK → Prop} (k : kE ta σ H fun x H1 => kU r x H1 Q) : kE (tUn r ta) σ H Q := fun H1 e _ q => k H1 e _ fun _ _ H2 hx e2 => hx H2 e2 _ q
theorem e_cb {r : List V → Hp → VK → Prop} (k : kA t σ H fun vs H1 => kC r vs H1 Q) : kE (tCB r t) σ H Q := fun H1 e _ q => k H1 e _ fun _ _ H2 hx e2 => hx H2 e2 _ q
theorem e_call {sp : Sp} {E : XK} (k : kA t σ H fun vs H1 => kC (fun ws H Q => sp ws H Q E) vs H1 Q) : kE (tCall sp [] E t) σ H Q := fun H1 e _ q => k H1 e _ fun vs _ H2 hx e2 => by
  rw [List.append_nil]
  exact hx H2 e2 _ q
theorem e_callS {sp : Sp} {E : Sg → XK} (k : kA t σ H fun vs H1 => kC (fun ws H Q => sp ws H Q (E σ)) vs H1 Q) : kE (tCallS sp E t) σ H Q := fun H1 e _ q => k H1 e _ fun _ _ H2 hx e2 => hx H2 e2 _ q
theorem a_nil (k : QA [] H) : kA tNil σ H QA := fun H1 e _ q => q [] H H1 k e
theorem a_cons (k : kE ta σ H fun x H1 => kA t σ H1 fun xs H2 => QA (x :: xs) H2) : kA (tCons ta t) σ H QA := fun H1 e _ q => k H1 e _ fun _ _ H2 hx e2 => hx H2 e2 _ fun _ H0 H3 hy e3 => q _ H0 H3 hy e3
theorem e_tup (k : kA t σ H fun xs H1 => xs.length ≤ sizeLine ∧ ∀ p, H1 p = none → Q (.ref p) (upd H1 p (.tup xs))) : kE (tTup t) σ H Q := fun H1 e _ q => k H1 e _ fun _ _ H2 hx e2 =>
  ⟨hx.1, fun p hp => q _ _ _ (hx.2 p (e2.fresh hp)) (e2.ups p _)⟩
theorem e_lst (k : kA t σ H fun xs H1 => xs.length ≤ sizeLine ∧ ∀ p, H1 p = none → Q (.ref p) (upd H1 p (.lst xs))) : kE (tLst t) σ H Q := fun H1 e _ q => k H1 e _ fun _ _ H2 hx e2 =>
  ⟨hx.1, fun p hp => q _ _ _ (hx.2 p (e2.fresh hp)) (e2.ups p _)⟩
theorem e_if (k : kT tt σ H fun b H1 => (b = true → kE ta σ H1 Q) ∧ (b = false → kE tb σ H1 Q)) : kE (tIf tt ta tb) σ H Q := fun H1 e Q1 q => k H1 e _ fun b _ H2 hx e2 => by
  cases b with
  | true =>
    show ta σ H2 Q1
    exact hx.1 rfl H2 e2 _ q
  | false =>
    show tb σ H2 Q1
    exact hx.2 rfl H2 e2 _ q
theorem e_andV (k : kE ta σ H fun x H1 => ∃ b, x = .bl b ∧ (b = true → kE tb σ H1 Q) ∧ (b = false → Q (.bl false) H1)) : kE (tAndV ta tb) σ H Q := fun H1 e Q1 q => k H1 e _ fun x H0 H2 hx e2 => by
  obtain ⟨b, eb, h1, h2⟩ := hx
  refine ⟨b, eb, ?_⟩
  cases b with
  | true =>
    show tb σ H2 Q1
    exact h1 rfl H2 e2 _ q
  | false =>
    show Q1 (.bl false) H2
    exact q _ _ _ (h2 rfl) e2
theorem e_orV (k : kE ta σ H fun x H1 => ∃ b, x = .bl b ∧ (b = true → Q (.bl true) H1) ∧ (b = false → kE tb σ H1 Q)) : kE (tOrV ta tb) σ H Q := fun H1 e Q1 q => k H1 e _ fun x H0 H2 hx e2 => by
  obtain ⟨b, eb, h1, h2⟩ := hx
  refine ⟨b, eb, ?_⟩
  cases b with
  | true =>
    show Q1 (.bl true) H2
    exact q _ _ _ (h1 rfl) e2
  | false =>
    show tb σ H2 Q1
    exact h2 rfl H2 e2 _ q
theorem e_notV (k : kE ta σ H fun x H1 => ∃ b, x = .bl b ∧ Q (.bl (!b)) H1) : kE (tNotV ta) σ H Q := fun H1 e Q1 q => k H1 e _ fun x H0 H2 hx e2 => by
  obtain ⟨b, eb, h1⟩ := hx
  exact ⟨b, eb, q _ _ _ h1 e2⟩
theorem e_chain (k : kE ta σ H fun x H1 => kE tb σ H1 fun y H2 => kR r x y H2 fun z H3 => ∃ b, z = .bl b ∧ (b = true → kE tc σ H3 fun w H4 => kR r' y w H4 Q) ∧ (b = false → Q (.bl false) H3)) : kE (tChain r r' ta tb tc) σ H Q := fun H1 e Q1 q =>
  k H1 e _ fun x _ H2 hx e2 => hx H2 e2 _ fun y _ H3 hy e3 => hy H3 e3 _ fun z _ H4 hz e4 => by
    obtain ⟨b, eb, h1, h2⟩ := hz
    refine ⟨b, eb, ?_⟩
    cases b with
    | true =>
      show tc σ H4 fun w H5 => r' y w H5 Q1
      exact h1 rfl H4 e4 _ fun w _ H5 hw e5 => hw H5 e5 _ q
    | false =>
      show Q1 (.bl false) H4
      exact q _ _ _ (h2 rfl) e4
/-! ### tests -/
theorem t_test (k : kE te σ H fun x H1 => ∃ b, x = .bl b ∧ QB b H1) : kT (tTest te) σ H QB := fun H1 e _ q => k H1 e _ fun _ H0 H2 ⟨b, eb, hb⟩ e2 => ⟨b, eb, q b H0 H2 hb e2⟩
theorem t_B (k : kE te σ H fun x H1 => ∃ b, x = .bl b ∧ QB b H1) : kT (tB te) σ H QB := fun H1 e _ q => k H1 e _ fun _ H0 H2 ⟨b, eb, hb⟩ e2 => ⟨b, eb, q b H0 H2 hb e2⟩
theorem t_not (k : kT tt σ H fun b H1 => QB (!b) H1) : kT (tNot tt) σ H QB := fun H1 e _ q => k H1 e _ fun b H0 H2 hb e2 => q _ H0 H2 hb e2
theorem t_and (k : kT tt σ H fun b H1 => (b = true → kT tu σ H1 QB) ∧ (b = false → QB false H1)) : kT (tAnd tt tu) σ H QB := fun H1 e Q1 q => k H1 e _ fun b H0 H2 hb e2 => by
  cases b with
  | true =>
    show tu σ H2 Q1
    exact hb.1 rfl H2 e2 _ q
  | false =>
    show Q1 false H2
    exact q _ _ _ (hb.2 rfl) e2
theorem t_or (k : kT tt σ H fun b H1 => (b = true → QB true H1) ∧ (b = false → kT tu σ H1 QB)) : kT (tOr tt tu) σ H QB := fun H1 e Q1 q => k H1 e _ fun b H0 H2 hb e2 => by
  cases b with
  | true =>
    show Q1 true H2
    exact q _ _ _ (hb.1 rfl) e2
  | false =>
    show tu σ H2 Q1
    exact hb.2 rfl H2 e2 _ q
/-! ### operators -/
theorem r_I0 {f : Int → Int → V} (k : Q (f i j) H) : kR (rI0 f) (.int i) (.int j) H Q := fun H1 e _ q => ⟨i, j, rfl, rfl, q _ _ _ k e⟩
theorem r_I {c : Int → Int → Prop} {f : Int → Int → V} (hc : c i j) (k : Q (f i j) H) : kR (rI c f) (.int i) (.int j) H Q := fun H1 e _ q => ⟨i, j, rfl, rfl, hc, q _ _ _ k e⟩
theorem r_eq (h : scal x y = true) (k : Q (.bl (decide (x = y))) H) : kR rEq x y H Q := fun H1 e _ q => ⟨h, q _ _ _ k e⟩
theorem r_ne (h : scal x y = true) (k : Q (.bl (!decide (x = y))) H) : kR rNe x y H Q := fun H1 e _ q => ⟨h, q _ _ _ k e⟩
theorem dInt : decide (V.int i = V.int j) = decide (i = j) := by
  rw [Bool.eq_iff_iff]
  simp
theorem r_eqI (k : Q (.bl (decide (i = j))) H) : kR rEq (.int i) (.int j) H Q := r_eq rfl (by rw [dInt]; exact k)
theorem r_neI (k : Q (.bl (!decide (i = j))) H) : kR rNe (.int i) (.int j) H Q := r_ne rfl (by rw [dInt]; exact k)
theorem r_ixL {p : Addr} {xs : List V} (h : SqL K H p xs) (ha : atI xs i = some v) (k : Q v H) : kR (rIxL K) (.ref p) (.int i) H Q := fun H1 e _ q => ⟨p, xs, i, v, rfl, rfl, e.sl h, ha, q _ _ _ k e⟩
theorem r_ixT {p : Addr} {xs : List V} (h : SqT K H p xs) (ha : atI xs i = some v) (k : Q v H) : kR (rIxT K) (.ref p) (.int i) H Q := fun H1 e _ q => ⟨p, xs, i, v, rfl, rfl, e.st h, ha, q _ _ _ k e⟩
theorem u_U {f : Int → V} (k : Q (f i) H) : kU (rU f) (.int i) H Q := fun H1 e _ q => ⟨i, rfl, q _ _ _ k e⟩
/-! ### statements -/
theorem s_next (k : N σ H) : kS tNext N R B C σ H := fun H1 e D hn _ _ _ => hn _ _ _ k e
theorem s_seq (k : kS ts (fun s H1 => kS us N R B C s H1) R B C σ H) : kS (tSeq ts us) N R B C σ H := fun H1 e D hn hr hb hc => k H1 e { D with nx := us D } (fun s H0 H2 h e2 => h H2 e2 D hn hr hb hc) hr hb hc
theorem s_asg {n : Nat} (k : kE te σ H fun v H1 => N (σ.set n (some v)) H1) : kS (tAsg te (gName n)) N R B C σ H := fun H1 e D hn _ _ _ => k H1 e _ fun v H0 H2 h e2 => hn _ _ _ h e2
theorem s_asgG (k : kE te σ H fun v H1 => kG g v σ H1 N) : kS (tAsg te g) N R B C σ H := fun H1 e D hn _ _ _ => k H1 e _ fun v H0 H2 h e2 => h H2 e2 _ hn
theorem s_ret (k : kE te σ H R) : kS (tRet te) N R B C σ H := fun H1 e D _ hr _ _ => k H1 e _ hr
theorem s_drop (k : kE te σ H fun _ H1 => N σ H1) : kS (tDrop te) N R B C σ H := fun H1 e D hn _ _ _ => k H1 e _ fun _ H0 H2 h e2 => hn _ _ _ h e2
theorem s_if (k : kT tt σ H fun b H1 => (b = true → kS ts N R B C σ H1) ∧ (b = false → kS us N R B C σ H1)) : kS (tIfS tt ts us) N R B C σ H := fun H1 e D hn hr hb hc => k H1 e _ fun b H0 H2 h e2 => by
  cases b with
  | true =>
    show ts D σ H2
    exact h.1 rfl H2 e2 D hn hr hb hc
  | false =>
    show us D σ H2
    exact h.2 rfl H2 e2 D hn hr hb hc
theorem s_brk (k : B σ H) : kS tBreak N R B C σ H := fun H1 e D _ _ hb _ => hb _ _ _ k e
theorem s_cont (k : C σ H) : kS tCont N R B C σ H := fun H1 e D _ _ _ hc => hc _ _ _ k e
theorem s_par {m n : Nat} (k : kA t σ H fun vs H1 => ∃ v w, vs = [v, w] ∧ N ((σ.set m (some v)).set n (some w)) H1) : kS (tPar m n t) N R B C σ H := fun H1 e D hn _ _ _ => k H1 e _ fun vs H0 H2 ⟨v, w, ev, h⟩ e2 => ⟨v, w, ev, hn _ _ _ h e2⟩
def tRaise (E : XK) (c : Addr) : TS := fun _ σ H => E (.ref c) none H
theorem s_raise {E : XK} {c : Addr} (k : ∀ H1, Ex H H1 → E (.ref c) none H1) : kS (tRaise E c) N R B C σ H := fun H1 e _ _ _ _ _ => k H1 e
/-- a while by an invariant and a measure of it -/
theorem s_while (W : Nat → PS') (m : Nat) (h0 : W m σ H)
    (hs : ∀ m s H1, W m s H1 → kT tt s H1 fun b H2 => (b = true → kS ts (fun s' H3 => ∃ m' H4, m' < m ∧ W m' s' H4 ∧ Ex H4 H3) R N (fun s' H3 => ∃ m' H4, m' < m ∧ W m' s' H4 ∧ Ex H4 H3) s H2) ∧ (b = false → N s H2)) : kS (tWhile tt ts) N R B C σ H := fun H1 e D hn hr hb hc =>
  ⟨fun m s H2 => ∃ H0, W m s H0 ∧ Ex H0 H2, ⟨m, H, h0, e⟩, fun m s H2 ⟨H0, w, e0⟩ => hs m s H0 w H2 e0 _ fun b H3 H4 h e4 => by
    cases b with
    | true =>
      show ∃ Nx : PS', _
      refine ⟨fun s' H5 => ∃ m' H6, m' < m ∧ W m' s' H6 ∧ Ex H6 H5, fun s' H5 ⟨m', H6, l, w', e6⟩ => ⟨m', l, H6, w', e6⟩, ?_⟩
      exact h.1 rfl H4 e4 _ (fun s' H5 H7 ⟨m', H6, l, w', e6⟩ e7 => ⟨m', H6, l, w', e6.tr e7⟩) hr hn (fun s' H5 H7 ⟨m', H6, l, w', e6⟩ e7 => ⟨m', H6, l, w', e6.tr e7⟩)
    | false =>
      show D.nx s H4
      exact hn _ _ _ (h.2 rfl) e4⟩
abbrev nxt (W : Nat → PS') (n : Nat) : PS' := fun s H => ∃ H0, W n s H0 ∧ Ex H0 H
theorem nxt_up {W : Nat → PS'} {n : Nat} : ∀ s H0 H2, nxt W n s H0 → Ex H0 H2 → nxt W n s H2 := fun _ _ _ ⟨H1, w, e1⟩ e => ⟨H1, w, e1.tr e⟩
/-- for i in range(n) -/
theorem s_for1 (n : Nat) (W : Nat → PS') (k : kA t σ H fun vs H1 => vs = [.int (n : Int)] ∧ n < 2 ^ 61 ∧ W 0 σ H1 ∧ (∀ i s H2, i < n → W i s H2 → kG g (.int (i : Int)) s H2 fun s' H3 => kS ts (nxt W (i + 1)) R N (nxt W (i + 1)) s' H3) ∧ ∀ s H2, W n s H2 → N s H2) :
    kS (tFor (iRng1 t) g ts) N R B C σ H := fun H1 e D hn hr hb hc => k H1 e _ fun vs H0 H2 ⟨ev, hl, h0, hs, hd⟩ e2 => by
  subst ev
  refine ⟨(n : Int), rfl, by omega, by omega, ?_⟩
  have z := for_range (lo := 0) (n := (n : Int).toNat) (g := g) (tb := ts) (D := D) (σ := σ) (H := H2) (nxt W) ⟨H0, h0, e2⟩ (fun i s H3 hi p => ?_) (fun s H3 p => ?_)
  · exact z
  · obtain ⟨H4, w, e4⟩ := p
    have e0 : (0 : Int) + (i : Int) = (i : Int) := Int.zero_add _
    rw [e0]
    exact hs i s H4 (by omega) w H3 e4 _ fun s' H5 H6 q e6 => q H6 e6 _ nxt_up hr hn nxt_up
  · obtain ⟨H4, w, e4⟩ := p
    have e0 : (n : Int).toNat = n := by omega
    rw [e0] at w
    exact hn _ _ _ (hd s H4 w) e4
theorem g_name {n : Nat} {QS : PS'} (k : QS (σ.set n (some v)) H) : kG (gName n) v σ H QS := fun H1 e _ q => q _ _ _ k e
theorem g_tup {n : Nat} {p : Addr} {xs : List V} {QS : PS'} (h : SqT K H p xs) (hl : xs.length = n) (k : kGs gs xs σ H QS) : kG (gTup K n gs) (.ref p) σ H QS := fun H1 e _ q => ⟨p, xs, rfl, e.st h, hl, k H1 e _ q⟩
theorem g_nil {QS : PS'} (k : QS σ H) : kGs gNil [] σ H QS := fun H1 e _ q => ⟨rfl, q _ _ _ k e⟩
theorem g_cons {xs : List V} {QS : PS'} (k : kG g v σ H fun s H1 => kGs gs xs s H1 QS) : kGs (gCons g gs) (v :: xs) σ H QS := fun H1 e _ q => ⟨v, xs, rfl, k H1 e _ fun s H0 H2 h e2 => h H2 e2 _ q⟩
/-! ### facts of heaps in steps -/
theorem st_new {p a : Addr} {o : HO} {xs : List V} (hn : H p = none) (h : SqT K H a xs) : SqT K (upd H p o) a xs := (Ex.news hn).st h
theorem sl_new {p a : Addr} {o : HO} {xs : List V} (hn : H p = none) (h : SqL K H a xs) : SqL K (upd H p o) a xs := (Ex.news hn).sl h
theorem at_new {p a : Addr} {o u : HO} (hn : H p = none) (h : H a = some u) : upd H p o a = some u := (Ex.news hn).get h
theorem szl {n : Nat} (h : n ≤ 1000) : n ≤ sizeLine := Nat.le_trans h (by decide)
/-! ### built-in calls -/
theorem c_abs (k : Q (.int (if i < 0 then -i else i)) H) : kC (fun xs H Q => ∃ i, xs = [V.int i] ∧ Q (.int (if i < 0 then -i else i)) H) [.int i] H Q := fun H1 e _ q => ⟨i, rfl, q _ _ _ k e⟩
theorem c_max2 (k : Q (.int (if j > i then j else i)) H) : kC (fun xs H Q => ∃ i j, xs = [V.int i, .int j] ∧ Q (.int (if j > i then j else i)) H) [.int i, .int j] H Q := fun H1 e _ q => ⟨i, j, rfl, q _ _ _ k e⟩
theorem c_min2 (k : Q (.int (if j < i then j else i)) H) : kC (fun xs H Q => ∃ i j, xs = [V.int i, .int j] ∧ Q (.int (if j < i then j else i)) H) [.int i, .int j] H Q := fun H1 e _ q => ⟨i, j, rfl, q _ _ _ k e⟩
theorem c_lenL {p : Addr} {ys : List V} (h : SqL K H p ys) (k : Q (.int ys.length) H) : kC (fun xs H Q => ∃ p ys, xs = [V.ref p] ∧ (SqL K H p ys ∨ SqT K H p ys) ∧ Q (.int ys.length) H) [.ref p] H Q := fun H1 e _ q => ⟨p, ys, rfl, .inl (e.sl h), q _ _ _ k e⟩
theorem c_lenT {p : Addr} {ys : List V} (h : SqT K H p ys) (k : Q (.int ys.length) H) : kC (fun xs H Q => ∃ p ys, xs = [V.ref p] ∧ (SqL K H p ys ∨ SqT K H p ys) ∧ Q (.int ys.length) H) [.ref p] H Q := fun H1 e _ q => ⟨p, ys, rfl, .inr (e.st h), q _ _ _ k e⟩

/-! ### types -/
inductive Ty5 (K : PySem.W.Frag) (H : Hp) : V → String → Prop where
  | int (i : Int) : Ty5 K H (.int i) "int"
  | bl (b : Bool) : Ty5 K H (.bl b) "bool"
  | non : Ty5 K H .non "NoneType"
  | str (z : Str) : Ty5 K H (.str z) "str"
  | lst {a : Addr} {xs : List V} (h : H a = some (.lst xs)) : Ty5 K H (.ref a) "list"
  | tup {a : Addr} {xs : List V} (h : H a = some (.tup xs)) : Ty5 K H (.ref a) "tuple"
theorem Ty5.up {x : V} {T : String} (h : Ty5 K H x T) (e : Ex H H') : Ty5 K H' x T := by
  cases h with
  | int i => exact .int i
  | bl b => exact .bl b
  | non => exact .non
  | str z => exact .str z
  | lst h => exact .lst (e _ _ h)
  | tup h => exact .tup (e _ _ h)
theorem Ty5.tyx {x : V} {T : String} (h : Ty5 K H x T) : TyX K H x (.type T) := by
  cases h with
  | int i => exact .base (.int i)
  | bl b => exact .base (.bl b)
  | non => exact .base .non
  | str z => exact .base (.str z)
  | lst h => exact .base (.lst h)
  | tup h => exact .base (.tup h)
theorem c_isi {T T' : String} {b : Bool} (h : Ty5 K H x T) (hb : kitB T T' = some b) (k : Q (.bl b) H) : kC (rIsi K) [x, .ty T'] H Q := fun H1 e _ q => ⟨x, .ty T', .type T, .type T', b, rfl, .ty T', (h.up e).tyx, kit_ty hb, q _ _ _ k e⟩
/-! ### what a caller knows of a def -/
def Cal (P : Program) (w : World) (K : PySem.W.Frag) (mg : Str → Option Value) (base : Heap) (CX : CXT) (k : Nat) (x : Str) (ps : List Str) (sp : Sp) : Prop :=
  ∃ f fd, FnOk P w K mg base CX k f fd ps sp ∧ mg x = some (.ref f) ∧ PySem.W.keepIn K (.ref f) = true ∧ Binds K fd ps []
def Dn (K : PySem.W.Frag) (mg : Str → Option Value) (x : Str) (st : Stmt) (ps : List Str) : Prop := ∃ f fd, Fun K x x st f fd ∧ mg x = some (.ref f) ∧ Binds K fd ps []
section
variable {P : Program} {w : World} {mg : Str → Option Value} {base : Heap} {CX : CXT} {k k' : Nat} {st : Stmt} {ps Ns : List Str} {sp : Sp} {X : Cx} {E : XK} {z : Str} {p pos : Pos} {e : Expr} {es : List Expr}
theorem pe_cal (c : Cal X.prog X.w X.K X.mg X.base CX k z ps sp) (hr : Room k' X.A) (hk : k ≤ k') (hg : Gl X z) (hx : Passes CX X E) (ha : PA X (e :: es) t) (hdb : (z == ("__debug__" : Str)) = false := by decide)
    (he : starEach (e :: es) X.env = (false, eval e X.env) :: starEach es X.env := by rfl) (hpl : (backTo pos (starEach es X.env)).any (·.1) = false := by rfl) : PE X (.Call (.Name z p) (e :: es) [] pos) (tCall sp [] E t) := by
  obtain ⟨f, fd, F, hm, hkp, hb⟩ := c
  exact pe_call F (hr.mono hk) hg hm hkp hb .nil hx ha hdb he hpl
theorem pe_gI {n : Int} (hg : Gl X z) (hm : ∃ t, X.mg z = some (.int n t)) (hd : (z == ("__debug__" : Str)) = false := by decide) : PE X (.Name z p) (tC (.int n)) := by
  obtain ⟨t, hm⟩ := hm
  exact pe_glob hg hm ⟨t, rfl⟩ hd
/-- a def, by its reading -/
theorem cal_mk (D : Dn K mg z st ps) (S : FnScope Ns ps (defScope st)) (len : ∀ vs H Q E, sp vs H Q E → vs.length = ps.length)
    (hbody : ∀ (f : Addr) (cdv : Value) (A : Around) (outer : List Env) (s : Shared) (H : Hp) (vs : List V) (Q : VK) (E : XK), Room k (A.deeper (envOfC z (defScope st) s.heap.objs.size f cdv)) → sp vs H Q E →
      ∃ t, PSs (cxOf (L2N.CX P w) P w K mg base Ns z (defScope st) f cdv A outer s H E) (defBody st) t ∧ t { nx := fun _ H' => Q .non H', rt := Q } (start Ns vs) H) : Cal P w K mg base (L2N.CX P w) (k + 1) z ps sp := by
  obtain ⟨f, fd, F, hm, hb⟩ := D
  obtain ⟨oc, od, kV, doc, pm, an, cdv, ct, osl, rfl, look, code⟩ := F.ex
  exact ⟨f, _, fn_of look code S len fun A outer s H vs Q E hr h => hbody f cdv A outer s H vs Q E hr h, hm, F.kp, hb⟩
theorem fn_mk {f : Addr} {fd : FuncData} {qual : Str} (F : Fun K z qual st f fd) (S : FnScope Ns ps (defScope st)) (len : ∀ vs H Q E, sp vs H Q E → vs.length = ps.length)
    (hbody : ∀ (cdv : Value) (A : Around) (outer : List Env) (s : Shared) (H : Hp) (vs : List V) (Q : VK) (E : XK), Room k (A.deeper (envOfC qual (defScope st) s.heap.objs.size f cdv)) → sp vs H Q E →
      ∃ t, PSs (cxOf (L2N.CX P w) P w K mg base Ns qual (defScope st) f cdv A outer s H E) (defBody st) t ∧ t { nx := fun _ H' => Q .non H', rt := Q } (start Ns vs) H) : FnOk P w K mg base (L2N.CX P w) (k + 1) f fd ps sp := by
  obtain ⟨oc, od, kV, doc, pm, an, cdv, ct, osl, rfl, look, code⟩ := F.ex
  exact fn_of look code S len fun A outer s H vs Q E hr h => hbody cdv A outer s H vs Q E hr h
/-- an own class of error -/
structure ExcT (K : PySem.W.Frag) (mg : Str → Option Value) (z : Str) (c : Addr) : Prop where
  g : mg z = some (.ref c)
  k : PySem.W.keepIn K (.ref c) = true
  x : PySem.W.excIn K c [.type "ValueError", .type "Exception", .type "BaseException", .type "object"] "ValueError.__new__" = true
  b : PySem.W.subIn K (.ref c) (.type "BaseException") = some true
  t : PySem.W.typeIn K (.ref c) = some (.type "type")
theorem ps_raiseT {c : Addr} {m : Str} {j : Nat} {p2 : Pos} {W : WX} {pos' : Pos} (T : ExcT X.K X.mg z c) (hc : X.calm = true) (tk : L2N.Takes X W) (hg : Gl X z) (hdb : (z == ("__debug__" : Str)) = false := by decide) :
    PS X (.Raise (some (.Call (.Name z p) [.Constant (.str m) j p2] [] pos)) none pos') (fun _ σ H => W (.ref c) none σ H) :=
  L2N.ps_raise hc tk (L2N.pmk_own PySem.F.excBase_ValueError T.x T.g T.k (raises_own T.b T.t) hg hdb)
end
theorem kb_int_int : kitB "int" "int" = some true := by decide +kernel
theorem kb_int_bool : kitB "int" "bool" = some false := by decide +kernel
theorem kb_int_tuple : kitB "int" "tuple" = some false := by decide +kernel
theorem kb_int_list : kitB "int" "list" = some false := by decide +kernel
theorem kb_bool_int : kitB "bool" "int" = some true := by decide +kernel
theorem kb_bool_bool : kitB "bool" "bool" = some true := by decide +kernel
theorem kb_bool_tuple : kitB "bool" "tuple" = some false := by decide +kernel
theorem kb_bool_list : kitB "bool" "list" = some false := by decide +kernel
theorem kb_NoneType_int : kitB "NoneType" "int" = some false := by decide +kernel
theorem kb_NoneType_bool : kitB "NoneType" "bool" = some false := by decide +kernel
theorem kb_NoneType_tuple : kitB "NoneType" "tuple" = some false := by decide +kernel
theorem kb_NoneType_list : kitB "NoneType" "list" = some false := by decide +kernel
theorem kb_str_int : kitB "str" "int" = some false := by decide +kernel
theorem kb_str_bool : kitB "str" "bool" = some false := by decide +kernel
theorem kb_str_tuple : kitB "str" "tuple" = some false := by decide +kernel
theorem kb_str_list : kitB "str" "list" = some false := by decide +kernel
theorem kb_list_int : kitB "list" "int" = some false := by decide +kernel
theorem kb_list_bool : kitB "list" "bool" = some false := by decide +kernel
theorem kb_list_tuple : kitB "list" "tuple" = some false := by decide +kernel
theorem kb_list_list : kitB "list" "list" = some true := by decide +kernel
theorem kb_tuple_int : kitB "tuple" "int" = some false := by decide +kernel
theorem kb_tuple_bool : kitB "tuple" "bool" = some false := by decide +kernel
theorem kb_tuple_tuple : kitB "tuple" "tuple" = some true := by decide +kernel
theorem kb_tuple_list : kitB "tuple" "list" = some false := by decide +kernel
/-- the classes' addresses -/
structure Cs where
  BadRule : Addr
  BadKey : Addr
  BadSize : Addr
  Full : Addr
  TooMany : Addr
  StrewError : Addr
  Ring : Addr
  Row : Addr
  Growing : Addr
theorem upE {Q : VK} {v w : V} {H : Hp} (q : upR Q v H) (e : v = w) : upR Q w H := e ▸ q
theorem upX {Q : VK} {v : V} {H H' : Hp} (q : upR Q v H) (e : Ex H H') : upR Q v H' := fun H2 e2 => q H2 (e.tr e2)
/-- what is counted: an int, or what is none -/
def cnt : V → Int → Int → Bool
  | .int i, lo, hi => decide (lo ≤ i) && decide (i ≤ hi)
  | _, _, _ => false
/-! ### more of numbers -/
theorem op_mulX {X : Cx} : OpR X (binaryOp .Mult) (rI IntMulOk fun i j => .int (i * j)) := opI fun _ _ _ _ _ _ _ hc q => mul_int q hc
theorem mulxR {i j : Int} (h1 : -(2 ^ 64) < j) (h2 : j < 2 ^ 64) : IntMulOk i j := .of_right (intBits_le_64 h1 h2)
theorem mulxL {i j : Int} (h1 : -(2 ^ 64) < i) (h2 : i < 2 ^ 64) : IntMulOk i j := .of_left (intBits_le_64 h1 h2)
theorem mulw {m n : Nat} {a b : Nat} (ha : m < 2 ^ a) (hb : n < 2 ^ b) (h0 : 0 < a) (h1 : 0 < b) (h : a + b ≤ 1000000) : IntMulOk (m : Int) (n : Int) := (wide_mul (a := a) (b := b) (by simpa using ha) (by simpa using hb) h0 h1 h).ok
theorem divw {i : Int} {n b : Nat} (h : 0 < n) (hb : n < 2 ^ b) (h0 : 0 < b) (h9 : b ≤ 9000) : CDivW i (n : Int) := wide_div (b := b) (by omega) (by simpa using hb) h0 h9
theorem cdivL {i j : Int} (h0 : 0 < j) (h1 : j < 2 ^ 64) : CDivW i j := wide_div (b := 64) h0 (by omega) (by decide) (by decide)
theorem abs_nat (m : Nat) : (if ((m : Nat) : Int) < 0 then -((m : Nat) : Int) else ((m : Nat) : Int)) = ((m : Nat) : Int) := if_neg (by omega)
/-! ### data compared -/
mutual
theorem dpUp (e : Ex H H') : ∀ {v : V} {d : PyData}, Dp K H v d → Dp K H' v d
  | _, _, .non => .non
  | _, _, .bl b => .bl b
  | _, _, .int i => .int i
  | _, _, .str x => .str x
  | _, _, .lst h a => .lst (e.sl h) (dpAllUp e a)
  | _, _, .tup h a => .tup (e.st h) (dpAllUp e a)
theorem dpAllUp (e : Ex H H') : ∀ {vs : List V} {ds : List PyData}, DpAll K H vs ds → DpAll K H' vs ds
  | _, _, .nil => .nil
  | _, _, .cons h a => .cons (dpUp e h) (dpAllUp e a)
end
theorem r_eqD {d e : PyData} {b : Bool} (h1 : Dp K H x d) (h2 : Dp K H y e) (s1 : SeqAt.shaped d = true) (s2 : SeqAt.shaped e = true) (hb : PyData.eqv d e = b) (k : Q (.bl b) H) : kR (rEqD K) x y H Q := fun H1 ex _ q => ⟨d, e, dpUp ex h1, dpUp ex h2, s1, s2, by rw [hb]; exact q _ _ _ k ex⟩
theorem r_neD {d e : PyData} {b : Bool} (h1 : Dp K H x d) (h2 : Dp K H y e) (s1 : SeqAt.shaped d = true) (s2 : SeqAt.shaped e = true) (hb : PyData.eqv d e = b) (k : Q (.bl (!b)) H) : kR (rNeD K) x y H Q := fun H1 ex _ q => ⟨d, e, dpUp ex h1, dpUp ex h2, s1, s2, by rw [hb]; exact q _ _ _ k ex⟩
theorem dp_ints : ∀ ns : List Int, DpAll K H (ns.map V.int) (ns.map PyData.int)
  | [] => .nil
  | n :: ns => .cons (.int n) (dp_ints ns)
theorem eqv_ints : ∀ ns ms : List Int, PyData.eqv (.list (ns.map PyData.int)) (.list (ms.map PyData.int)) = decide (ns = ms)
  | [], [] => by simp [PyData.eqv, PyData.eqvAll]
  | [], _ :: _ => by simp [PyData.eqv, PyData.eqvAll]
  | _ :: _, [] => by simp [PyData.eqv, PyData.eqvAll]
  | a :: r, b :: t => by
    have ih := eqv_ints r t
    simp only [PyData.eqv] at ih
    simp only [List.map_cons, PyData.eqv, PyData.eqvAll, ih]
    by_cases h : a = b <;> by_cases h' : r = t <;> simp [h, h']
theorem r_eqIs {p q : Addr} {ns ms : List Int} (h1 : SqL K H p (ns.map V.int)) (h2 : SqL K H q (ms.map V.int)) (k : Q (.bl (decide (ns = ms))) H) : kR (rEqD K) (.ref p) (.ref q) H Q :=
  r_eqD (.lst h1 (dp_ints ns)) (.lst h2 (dp_ints ms)) (PySem.W.ke_shaped_ints ns) (PySem.W.ke_shaped_ints ms) (eqv_ints ns ms) k
theorem r_neIs {p q : Addr} {ns ms : List Int} (h1 : SqL K H p (ns.map V.int)) (h2 : SqL K H q (ms.map V.int)) (k : Q (.bl (!decide (ns = ms))) H) : kR (rNeD K) (.ref p) (.ref q) H Q :=
  r_neD (.lst h1 (dp_ints ns)) (.lst h2 (dp_ints ms)) (PySem.W.ke_shaped_ints ns) (PySem.W.ke_shaped_ints ms) (eqv_ints ns ms) k
theorem eqv_pair (a b c d : Int) : PyData.eqv (.tuple [.int a, .int b]) (.tuple [.int c, .int d]) = decide (a = c ∧ b = d) := by
  simp only [PyData.eqv, PyData.eqvAll]
  by_cases h : a = c <;> by_cases h' : b = d <;> simp [h, h']
theorem r_neP {p q : Addr} {a b c d : Int} (h1 : SqT K H p [.int a, .int b]) (h2 : SqT K H q [.int c, .int d]) (k : Q (.bl (!decide (a = c ∧ b = d))) H) : kR (rNeD K) (.ref p) (.ref q) H Q :=
  r_neD (.tup h1 (.cons (.int a) (.cons (.int b) .nil))) (.tup h2 (.cons (.int c) (.cons (.int d) .nil))) rfl rfl (eqv_pair a b c d) k
/-! ### places of a written list -/
theorem atI_mod {α : Type} {xs : List α} {r n : Nat} {v : α} (h : xs[r % n]? = some v) : atI xs ((r : Int) % (n : Int)) = some v := by
  have e : (r : Int) % (n : Int) = ((r % n : Nat) : Int) := by rw [Int.natCast_emod]
  rw [e]
  exact atI_nat h
/-- behind a test -/
theorem dec2 {p : Prop} [Decidable p] {A B : Prop} (h1 : p → A) (h2 : ¬ p → B) : (decide p = true → A) ∧ (decide p = false → B) := ⟨fun h => h1 (of_decide_eq_true h), fun h => h2 (of_decide_eq_false h)⟩
theorem ndec2 {p : Prop} [Decidable p] {A B : Prop} (h1 : ¬ p → A) (h2 : p → B) : ((!decide p) = true → A) ∧ ((!decide p) = false → B) := ⟨fun h => h1 (by simpa using h), fun h => h2 (by simpa using h)⟩
/-- for i in range(a, b, -1) -/
theorem s_forDn (a b : Int) (n : Nat) (W : Nat → PS') (k : kA t σ H fun vs H1 => vs = [.int a, .int b, .int (-1)] ∧ (-(2 ^ 62) ≤ a ∧ a < 2 ^ 62 ∧ -(2 ^ 62) ≤ b ∧ b < 2 ^ 62) ∧ (a - b).toNat = n ∧ W 0 σ H1 ∧ (∀ i s H2, i < n → W i s H2 → kG g (.int (a - (i : Int))) s H2 fun s' H3 => kS ts (nxt W (i + 1)) R N (nxt W (i + 1)) s' H3) ∧ ∀ s H2, W n s H2 → N s H2) :
    kS (tFor (iRng3 t) g ts) N R B C σ H := fun H1 e D hn hr hb hc => k H1 e _ fun vs H0 H2 ⟨ev, ⟨l1, l2, l3, l4⟩, en, h0, hs, hd⟩ e2 => by
  subst ev
  subst en
  refine ⟨a, b, -1, (a - b).toNat, rfl, RgC.neg l1 l2 l3 l4, ?_⟩
  have z := for_rangeC (lo := a) (c := -1) (n := (a - b).toNat) (g := g) (tb := ts) (D := D) (σ := σ) (H := H2) (nxt W) ⟨H0, h0, e2⟩ (fun i s H3 hi p => ?_) (fun s H3 p => ?_)
  · exact z
  · obtain ⟨H4, w, e4⟩ := p
    have e0 : a + (i : Int) * (-1) = a - (i : Int) := by omega
    rw [e0]
    exact hs i s H4 hi w H3 e4 _ fun s' H5 H6 q e6 => q H6 e6 _ nxt_up hr hn nxt_up
  · obtain ⟨H4, w, e4⟩ := p
    exact hn _ _ _ (hd s H4 w) e4
theorem cnt_ok {i lo hi : Int} (h1 : lo ≤ i) (h2 : i ≤ hi) : cnt (.int i) lo hi = true := by simp [cnt, h1, h2]
/-- a whole number among few, as a natural -/
theorem nat_of {z : Int} {b : Nat} (h0 : 0 ≤ z) (h1 : z ≤ b) : ∃ n : Nat, z = (n : Int) ∧ n ≤ b := ⟨z.toNat, by omega, by omega⟩
/-- an item of a written list at a rest -/
theorem pick {xs : List V} {z m : Int} {P : V → Prop} (hm : (xs.length : Int) = m) (h0 : 0 < m) (h : ∀ x ∈ xs, P x) : ∃ v, atI xs (z % m) = some v ∧ P v := by
  subst hm
  have h1 : 0 ≤ z % (xs.length : Int) := Int.emod_nonneg _ (by omega)
  have h2 : z % (xs.length : Int) < xs.length := Int.emod_lt_of_pos _ h0
  obtain ⟨n, hn⟩ := Int.eq_ofNat_of_zero_le h1
  have h3 : n < xs.length := by omega
  refine ⟨xs[n], ?_, h _ (List.getElem_mem h3)⟩
  rw [hn]
  exact atI_nat (List.getElem?_eq_getElem h3)
/-- the law's promise -/
def spLaw (K : PySem.W.Frag) : Sp := fun vs H Q _ => ∃ (a : Addr) (ns : List Int), vs = [.ref a] ∧ SqL K H a (ns.map V.int) ∧ ns.length ≤ 63 ∧ ∀ H', Q (.bl true) H'
end Lg

/-! HotW: lists walked while an exception is handled: the end of a walk, sum, a comprehension of int(x) over truths, isinstance of the exception. -/
namespace LgH
open PySem PySem.Spec PyProof.Rows L2 HotX L2H
section
variable {prog : Program} {w : World} {A : Around} {E : Value → Shared → Prop} {s : Shared}
def NoCtx (h : Heap) (x1 : Addr) : Prop := ∃ (o : Obj) (vs : Array Value), h.get? x1 = some o ∧ o.data = .fields vs ∧ vs[2]? = some .none
theorem end_hot {ia la x1 : Addr} {j : Nat} {its : Array Value} {Q : Option Value → Shared → Prop} (hd : A.handled = some (.ref x1)) (ct : NoCtx s.heap x1) (iter : s.heap.IsListIter ia la j) (lst : s.heap.IsList la its) (past : its[j]? = none) (ne : x1 ≠ ia)
    (fin : ∀ h', Heap.ExtBut ia s.heap h' → Q none { s with heap := h' }) : wpAny (model prog w) A (pyNext (.ref ia)) Q E s := by
  obtain ⟨oi, gi, ci, di⟩ := id iter
  obtain ⟨ol, gl, _, nl, dl⟩ := lst
  obtain ⟨o1, v1, g1, d1, c1⟩ := ct
  unfold pyNext
  apply wpAny_bind
  apply wpAny_attempt
  refine wpAny_callSpecial?_slot (name := Str.ofString "__next__") iter.typeIs slot_listiter_next (wpAny_call_entry slot_listiter_next iter.typeIs entry_listiter_next ?_ (args_listiter_next _))
  show wpAny _ _ (field (.ref ia) 0 >>= _) _ _ s
  apply wpAny_bind
  refine wpAny_field gi di (x := .ref la) rfl ?_
  show wpAny _ _ (if (Value.ref la == Value.none) = true then _ else _) _ _ s
  rw [if_neg (fun z : (Value.ref la == Value.none) = true => Bool.false_ne_true z)]
  show wpAny _ _ (field (.ref ia) 1 >>= _) _ _ s
  apply wpAny_bind
  refine wpAny_field gi di (x := .int j 0) rfl ?_
  show wpAny _ _ (seqItems? (.ref la) >>= _) _ _ s
  apply wpAny_bind
  refine wpAny_seqItems gl dl ?_
  simp only [Int.toNat_natCast, past]
  apply wpAny_bind
  apply wpAny_rule
  apply wpAny_bind
  refine wpAny_setField gi di (by simp) ?_
  show wpAny _ _ (newExc (.type "StopIteration") [] >>= _) _ _ _
  apply wpAny_bind
  simp only [newExc, newTuple]
  apply wpAny_bind
  refine wpAny_newObj_type ?_ (by size_fits)
  refine wpAny_bind (m := firstArgMember _ _) (wpAny_of_eq (a := Value.none) (by first | rfl | (simp only [firstArgMember]; rfl)) ?_)
  refine wpAny_newObj_type ?_ (by size_fits)
  have g1' : (s.heap.update ia (Obj.mapFields (·.setIfInBounds 0 Value.none))).get? x1 = some o1 := by
    rw [Heap.get?_update_other _ _ (Ne.symm ne)]
    exact g1
  refine raiseNew_hot (x1 := x1) ⟨hd, o1, v1, Heap.get?_push_of_some _ (Heap.get?_push_of_some _ g1'), d1, c1⟩ ?_ (Heap.get?_push_size _ rfl) rfl ?_ ?_
  · exact Nat.ne_of_lt (Heap.lt_size (Heap.get?_push_of_some _ g1'))
  · first
      | (simp; done)
      | (simp; omega)
      | (simp only [Array.size_append]; simp; omega)
  · apply wpAny_bind
    refine wpAny_isInstance (T := "StopIteration") (b := true) ⟨_, Heap.get?_update_self _ (Heap.get?_push_size _ rfl) rfl, rfl⟩ isSubtype_stop ?_
    refine wpAny_pure (fin _ ?_)
    intro b o hb e
    have e2 : (s.heap.update ia (Obj.mapFields (·.setIfInBounds 0 Value.none))).get? b = some o := by
      rw [Heap.get?_update_other _ _ (Ne.symm hb)]
      exact e
    rw [Heap.get?_update_other _ _ (Ne.symm (Nat.ne_of_lt (Heap.lt_size (Heap.get?_push_of_some _ e2))))]
    exact Heap.get?_push_of_some _ (Heap.get?_push_of_some _ e2)
theorem walks_hot {x1 : Addr} (hd : A.handled = some (.ref x1)) (ia la : Addr) (n1 : la ≠ ia) (n2 : x1 ≠ ia) (its : Array Value) :
    Walks prog w A ia [ia, la, x1] [ia] its.size (fun i v => its[i]? = some v) (fun i h => h.IsListIter ia la i ∧ h.IsList la its ∧ NoCtx h x1) where
  sub := fun b hb => by
    rw [List.mem_singleton.mp hb]
    exact List.mem_cons_self
  frame := fun i h h' st k => ⟨st.1.at fun o e => k ia (by simp) o e, st.2.1.at fun o e => k la (by simp) o e, by
    obtain ⟨o, vs, g, z⟩ := st.2.2
    exact ⟨o, vs, k x1 (by simp) o g, z⟩⟩
  item := fun i s Q E hi st hQ => by
    refine wpAny_pyNext_list_item st.1 st.2.1 (x := its[i]) (by simp [hi]) fun h' it' same => ?_
    refine hQ _ h' s.toks (by simp [hi]) ⟨it', st.2.1.extBut same.extBut n1, ?_⟩ fun b o hb e => same.extBut b o (fun z => hb (by simp [z])) e
    obtain ⟨o, vs, g, z⟩ := st.2.2
    exact ⟨o, vs, same.extBut x1 o n2 g, z⟩
  done := fun s Q E st hQ => end_hot hd st.2.2 st.1 st.2.1 (by simp) n2 fun h' ext => hQ h' s.toks fun b o hb e => ext b o (fun z => hb (by simp [z])) e
  self := fun _ _ _ _ st hQ => wpAny_pyIter_listiter st.1 hQ
end

/-! ### over the layer -/
section
variable {X : Cx}
/-- sum(xs), whole numbers -/
theorem cr_sumH (hc : HotC X) : CallR X (.builtin "sum") (rSum X.K) := by
  intro pins s σ H vs us Q I r h
  obtain ⟨a, ns, rfl, hs, q⟩ := h
  obtain ⟨its, rv, hl, _⟩ := I.list hs
  obtain ⟨x1, hd, ct⟩ := hc.at I
  rw [Vals.ref1 r]
  have hi := rv.ints
  obtain ⟨zs, ez⟩ := hi.allInts.items
  have hn : numsOf (intItems zs).toList = ns := by rw [← ez]; exact hi.numsOf
  rw [nums_intItems] at hn
  have hl2 := hl.isList
  rw [ez] at hl2
  refine call_sum_walkG (iter_intList hl2 fun s2 e st hfp hlI => ?_)
  subst e
  have nx : x1 ≠ s.heap.objs.size := by
    obtain ⟨o, vs, g, _⟩ := ct
    exact Nat.ne_of_lt (Heap.lt_size g)
  refine ⟨_, _, _, _, _, _, numAt zs, rfl, walks_hot (A := X.A.in1) (x1 := x1) hd _ a hlI nx (intItems zs), ⟨st.1, st.2, ?_⟩, ?_, (fun _ _ => intItems_at), fun h' tk t' hk => ?_⟩
  · obtain ⟨o, vs, g, z⟩ := ct
    exact ⟨o, vs, Heap.get?_push_of_some _ g, z⟩
  · intro b hb
    rcases List.mem_cons.mp hb with z | hb
    · exact hfp b (by rw [z]; simp)
    rcases List.mem_cons.mp hb with z | hb
    · exact hfp b (by rw [z]; simp)
    · rw [List.mem_singleton.mp hb]
      obtain ⟨o, vs, g, z⟩ := ct
      exact Heap.lt_size (Heap.get?_push_of_some _ g)
  · have e1 : preSum (numAt zs) (intItems zs).size = ns.sum := by
      rw [show (intItems zs).size = zs.size by simp [intItems], preSum_eq, List.take_of_length_le (by simp), hn]
    rw [e1]
    refine ⟨.int ns.sum, H, I.kept (t' := tk) fun b o e => hk b o ?_ (Heap.get?_push_of_some _ e), ⟨_, rfl⟩, q⟩
    intro hb
    rw [List.mem_singleton.mp hb] at e
    exact absurd (Heap.lt_size e) (Nat.lt_irrefl _)
def b2n (b : Bool) : Int := if b = true then 1 else 0
/-- [int(x) for x in e], e a list of truths -/
def tHotInts (K : PySem.W.Frag) (te : TE) : TE := fun σ H Q => te σ H fun v H1 => ∃ (a : Addr) (bs : List Bool), v = .ref a ∧ SqL K H1 a (bs.map V.bl) ∧ bs.length ≤ 1000 ∧ ∀ p, H1 p = none → Q (.ref p) (upd H1 p (.lst (bs.map fun b => V.int (b2n b))))
theorem vals_bools : ∀ {bs : List Bool} {us : List Value}, Vals (bs.map V.bl) us → us = bs.map Value.bool
  | [], _, h => by
    cases h
    rfl
  | b :: bs, _, h => by
    cases h with
    | cons r t =>
      rw [show _ = Value.bool b from r, vals_bools t]
      rfl
theorem vals_b2n : ∀ {bs : List Bool} {ys : List Value}, Paired (fun v y => ∃ b t, v = Value.bool b ∧ y = Value.int (b2n b) t) (bs.map Value.bool) ys → Vals (bs.map fun b => V.int (b2n b)) ys
  | [], _, h => by
    cases h
    exact .nil
  | b :: bs, _, h => by
    cases h with
    | cons r t =>
      obtain ⟨b', tk, e1, e2⟩ := r
      cases e1
      exact .cons ⟨tk, e2⟩ (vals_b2n t)
theorem pe_hotInts {x : Str} {p1 p2 p3 p4 pos : Pos} {e : Expr} {te : TE} {scope : Scope} (hc : HotC X) (he : PE X e te) (mi : X.mg "int" = none) (hfree : ∀ y ∈ scope.names, y.2 ≠ .free) (hcell : ∀ y ∈ scope.names, y.2 ≠ .cell) (hkind : scope.kind = .function)
    (hnames : ∀ y ∈ scope.names, y.2 = .local → scope.names.lookup y.1 = some .local) (hx : scope.names.lookup x = some .local) (hint : scope.names.lookup ("int" : Str) = some .globalImplicit) (hdb : (x == ("__debug__" : Str)) = false)
    (hs : ∀ y, foldedSetIterable e X.env y = pure y) : PE X (.ListComp (.Call (.Name "int" p1) [.Name x p2] [] p3) [⟨.Name x p4, e, [], 0⟩] scope pos) (tHotInts X.K te) := by
  refine ⟨fun pins s σ H Q I h => ?_⟩
  refine wpAny_ListComp_walk (fun _ => true) (fun v y => ∃ b t, v = Value.bool b ∧ y = Value.int (b2n b) t) hfree hcell hkind hnames hx (thn (he.run pins s σ H _ I h) fun u s1 ⟨v, H1, I1, r1, q1⟩ => ?_) hs
  obtain ⟨a, bs, ev, hS, hl, q⟩ := q1
  subst ev
  cases r1
  obtain ⟨its, rv, pl, hz⟩ := I1.list hS
  have ei := vals_bools rv
  subst ei
  obtain ⟨x1, hd, ct⟩ := hc.at I1
  have la : a < s1.heap.objs.size := pl.lt
  have lx : x1 < s1.heap.objs.size := by
    obtain ⟨o, vs, g, _⟩ := ct
    exact Heap.lt_size g
  refine wpAny_pyIter_list pl.isList ?_
  refine ⟨s1.heap.objs.size, _, _, _, _, _, rfl, walks_hot hd s1.heap.objs.size a (Nat.ne_of_lt la) (Nat.ne_of_lt lx) (bs.map Value.bool).toArray, ?_, ⟨⟨_, Heap.get?_push_size _ rfl, rfl, rfl⟩, pl.isList.push _, ?_⟩, ?_, ⟨?_, ?_⟩, ?_⟩
  · rw [List.size_toArray, List.length_map]
    exact Nat.le_trans hl (by decide)
  · obtain ⟨o, vs, g, z⟩ := ct
    exact ⟨o, vs, Heap.get?_push_of_some _ g, z⟩
  · intro b hb
    rw [Heap.size_push]
    have e' : b = s1.heap.objs.size ∨ b = a ∨ b = x1 := by simpa using hb
    rcases e' with z | z | z
    · rw [z]
      exact Nat.lt_succ_self _
    · rw [z]
      exact Nat.lt_succ_of_lt la
    · rw [z]
      exact Nat.lt_succ_of_lt lx
  · intro C i v s3 m3 E' hv hn hm hk ht
    exact wpAny_pure ⟨rfl, s3.heap, s3.toks, rfl, fun _ _ e => e⟩
  · intro C i v s3 m3 E' hv _ hn hm hk ht
    obtain ⟨b, eb⟩ : ∃ b, v = Value.bool b := by
      have hv' : (bs.map Value.bool)[i]? = some v := by simpa using hv
      rw [List.getElem?_map] at hv'
      cases eb : bs[i]? with
      | none => rw [eb] at hv'; cases hv'
      | some b => rw [eb] at hv'; exact ⟨b, (Option.some.inj hv').symm⟩
    subst eb
    have hk3 : ∀ b o, X.base.get? b = some o → s3.heap.get? b = some o := fun b o e => by
      have z := I1.bk b o e
      refine hk b o ?_ (Heap.get?_push_of_some _ z)
      intro hb
      rw [List.mem_singleton.mp hb] at z
      exact absurd (Heap.lt_size z) (Nat.lt_irrefl _)
    obtain ⟨mb, hb1, hb2⟩ := I1.mod.blt
    refine Call_ (Calls.Name_function_global hkind hint (Calls.loadGlobal_builtin (mg := X.mg) (mb := mb) (v := .type "int") ?_ mi ?_ ?_ ?_))
    · show s3.heap.Ns X.env.globals X.mg
      rw [I1.ok.glob]
      exact I1.mod.glob.keeps hk3
    · show s3.heap.Ns X.env.builtins mb
      rw [I1.ok.blt]
      exact hb1.keeps hk3
    · exact (hb2 "int" (by decide)).trans (by decide +kernel)
    · refine PyProof.Rows.callWith_type1 (Calls.spliced_cons (wpAny_Name (wpAny_loadName_local hkind hx hn hm ?_) hdb)) rfl rfl
      refine Calls.spliced_nil ?_
      exact call_int_bool ⟨⟨b, _, rfl, rfl⟩, s3.heap, _, rfl, fun _ _ e => e⟩
  · intro D h' tk ys vs hD hlD hpD hlen hP hF hk
    have kk : ∀ b o, s1.heap.get? b = some o → h'.get? b = some o := fun b o e => by
      refine hk b o ?_ (Heap.get?_push_of_some _ e)
      intro hb
      rw [List.mem_singleton.mp hb] at e
      exact absurd (Heap.lt_size e) (Nat.lt_irrefl _)
    have evs : vs = bs.map Value.bool := by
      refine List.ext_getElem? fun j => ?_
      cases ej : vs[j]? with
      | none =>
        have h1 := List.getElem?_eq_none_iff.mp ej
        have h2 : (bs.map Value.bool).length ≤ j := by
          rw [List.size_toArray] at hlen
          omega
        exact (List.getElem?_eq_none_iff.mpr h2).symm
      | some v =>
        have z := hP j v ej
        exact (by simpa using z : (bs.map Value.bool)[j]? = some v).symm
    have hV : Vals (bs.map fun b => V.int (b2n b)) ys.toList := by
      refine vals_b2n ?_
      rw [← evs]
      have ef : vs.filter (fun _ => true) = vs := List.filter_eq_self.mpr fun _ _ => rfl
      rw [ef] at hF
      exact hF
    have gD : s1.heap.get? D = none := by
      cases eD : s1.heap.get? D with
      | none => rfl
      | some o =>
        rw [Heap.get?_push_of_some _ eD] at hD
        cases hD
    have nD : H1 D = none := I1.hok.gone gD
    have nb : ∀ b u, s1.heap.get? b = some u → b ≠ D := fun b u e z => by
      rw [z, gD] at e
      cases e
    obtain ⟨n, eD⟩ := hpD
    have new : ObjOk X.prog X.w (upd H1 D (.lst (bs.map fun b => V.int (b2n b)))) h' D (.lst (bs.map fun b => V.int (b2n b))) := by
      refine ⟨?_, ys.toList, n, hV, ?_⟩
      · rw [List.length_map]
        exact Nat.le_trans hl (by decide)
      · simpa using eD
    refine ⟨.ref D, upd H1 D (.lst (bs.map fun b => V.int (b2n b))), I1.un (t' := tk) ⟨fun b u e _ _ _ => kk b u e, fun b u e _ _ _ => ⟨u.slots, kk b u e⟩, fun b u e n _ => ?_, fun b u e _ => ⟨u, kk b u e⟩, fun b xs e => ?_, fun b o xs e => ?_, fun b ps e => ⟨#[], ?_⟩⟩ ?_, rfl, q D nD⟩
    · rw [upd_ne (nb b u e)]
      exact n
    · rw [upd_ne (ne_of_none e nD)]
      exact e
    · rw [upd_ne (ne_of_none e nD)]
      exact e
    · rw [upd_ne (ne_of_none e nD), e]
      simp
    · intro b u e
      by_cases hb : b = D
      · subst hb
        rw [upd_same] at e
        cases e
        exact new
      · rw [upd_ne hb] at e
        exact (I1.hok b u e).stay (fun c v _ e => kk c v e) (fun c e => by rw [upd_ne (ne_of_none e nD)]; exact e) fun c xs e => by rw [upd_ne (ne_of_none e nD)]; exact e
end
end LgH

/-! Told: a def called in an except suite with the exception that is handled; try .. except StrewError as e: return word(e). -/
namespace Lg
open PySem PySem.Spec PyProof.Rows L2 L2H LgH
section
variable {P : Program} {w : World} {K : PySem.W.Frag} {mg : Str → Option Value} {base : Heap} {k j : Nat} {z : Str} {st : Stmt} {ps Ns : List Str} {X : Cx}
def CalX (P : Program) (w : World) (K : PySem.W.Frag) (mg : Str → Option Value) (base : Heap) (k : Nat) (z : Str) (ps : List Str) (sp : Addr × Obj → Sp) : Prop :=
  ∃ f fd, (∀ (A : Around) (outer : List Env) (s : Shared) (H : Hp) (us : List Value) (vs : List V) (Q : VK) (E : XK) (p : Addr × Obj), RoomH k A → Hot1 A p → PinOk outer H s p → Env0 P w K mg base A outer s H → BindsTo s fd ⟨us, []⟩ (ps.zip us) →
    Vals vs us → vs.length = ps.length → sp p vs H Q E → codeAny (model P w) A (.call (.ref f) ⟨us, []⟩) (CR (L2N.CX P w) outer P w H s Q E) s) ∧ mg z = some (.ref f) ∧ PySem.W.keepIn K (.ref f) = true ∧ Binds K fd ps []
theorem calX_mk {sp : Addr × Obj → Sp} (D : Dn K mg z st ps) (S : FnScope Ns ps (defScope st))
    (hbody : ∀ (f : Addr) (cdv : Value) (A : Around) (outer : List Env) (s : Shared) (H : Hp) (vs : List V) (Q : VK) (E : XK) (p : Addr × Obj), Hot1 A p → RoomH k (A.deeper (envOfC z (defScope st) s.heap.objs.size f cdv)) → sp p vs H Q E →
      ∃ t, PSs (cxH (L2N.CX P w) P w K mg base Ns z (defScope st) f cdv A outer s H E p) (defBody st) t ∧ t { nx := fun _ H' => Q .non H', rt := Q } (L2.start Ns vs) H) : CalX P w K mg base (k + 1) z ps sp := by
  obtain ⟨f, fd, F, hm, hb⟩ := D
  obtain ⟨oc, od, kV, doc, pm, an, cdv, ct, osl, rfl, look, code⟩ := F.ex
  refine ⟨f, _, fun A outer s H us vs Q E p hr hot pin e0 bind rel len hsp => ?_, hm, F.kp, hb⟩
  have here : K.In s.heap := e0.mod.kin.keeps fun b o e => (e0.bs b o e).1
  have nolim : s.heap.NoLimit := e0.mod.nolimit.keeps fun b o e => (e0.bs b o e).1
  refine codeAny_call_function hr.depth (here _ _ look) rfl S.co S.gen rfl (PySem.W.codeRec_of here code) (bind _ _ _ _ ?_)
  refine wpAny_newFunctionEnv_cells S.kind (fun y hy => ?_) fun env he s1 x => ?_
  · obtain ⟨n, v⟩ := y
    rcases S.par n (List.of_mem_zip hy).1 with q | q
    · exact .inl q
    · exact .inr ⟨q, PySem.W.cellsFrom_some _ _ _ (.inl q)⟩
  · subst he
    refine ⟨nolim.keeps x.toInCall.keep, codeAny_func ?_⟩
    obtain ⟨t, body, read⟩ := hbody f cdv A outer s H vs Q E p hot (hr.deeper _) hsp
    have I := inv_startH (CX := L2N.CX P w) (E := E) S pin e0 len rel x
    refine wpAny_mono (body.run [] s1 (L2.start Ns vs) H _ I read) (fun fl s' hs => ?_) fun _ _ h => h
    cases fl with
    | next =>
      obtain ⟨σ', H', J, q⟩ := hs
      exact ⟨.non, H', J.os, J.bare, J.base, J.hok, rfl, q⟩
    | ret u =>
      obtain ⟨v, σ', H', J, r, q⟩ := hs
      exact ⟨v, H', J.os, J.bare, J.base, J.hok, r, q⟩
    | brk =>
      obtain ⟨_, _, _, q⟩ := hs
      exact q.elim
    | cont =>
      obtain ⟨_, _, _, q⟩ := hs
      exact q.elim
theorem noOut {outer : List Env} {H : Hp} {s : Shared} {e : Value} {s' : Shared} (h : L2N.CX P w outer H s E0 e s') : False := by
  obtain ⟨_, _, _, _, _, _, _, _, _, _, _, _, no⟩ := h
  exact no
theorem passN {X : Cx} : Passes (L2N.CX X.prog X.w) X E0 := fun _ _ _ _ _ _ _ h => (noOut h).elim
/-- word(e), e the exception q that is handled -/
def tWordCall (sp : Addr × Obj → Sp) (q : Addr × Obj) (te : TE) : TE := fun σ H Q => te σ H fun v H1 => sp q [v] H1 Q E0
theorem pe_calX {sp : Addr × Obj → Sp} {q : Addr × Obj} {p pos : Pos} {e : Expr} {te : TE} {y : Str} (c : CalX X.prog X.w X.K X.mg X.base k z [y] sp) (hr : RoomH j X.A) (hk : k ≤ j) (hot : Hot1 X.A q) (hq : q ∈ X.pn) (hg : Gl X z) (he : PE X e te)
    (hdb : (z == ("__debug__" : Str)) = false := by decide) (hst : starEach (e :: []) X.env = (false, eval e X.env) :: starEach [] X.env := by rfl) (hpl : (backTo pos (starEach [] X.env)).any (·.1) = false := by rfl) :
    PE X (.Call (.Name z p) [e] [] pos) (tWordCall sp q te) := by
  obtain ⟨f, fd, run, hm, hkp, hb⟩ := c
  refine ⟨fun pins s σ H Q I h => ?_⟩
  refine wpAny_Call_Name_kw (ld_glob I hg hm ?_ hdb)
  have ha : PA X [e] (tCons te tNil) := pa_cons he pa_nil hst
  refine PySem.W.callWith_K (h₀ := X.base) I.ok.mod.kin hkp (thn (ha.run pos pins s σ H (fun vs H1 => ∃ v, vs = [v] ∧ sp q [v] H1 Q E0) I ?_) fun us s1 ⟨vs, H1, I1, r, v, ev, hsp⟩ => ⟨I1.kIn, ?_⟩) hst hpl
  · exact cast (congrArg (te σ H) (funext fun v => funext fun H1 => propext ⟨fun x => ⟨v, rfl, x⟩, fun ⟨v', e', x⟩ => by cases e'; exact x⟩)) h
  · subst ev
    have P1 := I1.pin q (List.mem_append_left _ hq)
    have pin : PinOk X.stack H1 s1 q := ⟨P1.1, P1.2.1, fun hm => (List.mem_cons.mp (I1.stkSub q.1 hm)).elim P1.2.2.1 P1.2.2.2.1, P1.2.2.2.2⟩
    have b := hb s1 us I1.kIn (by rw [List.append_nil, ← r.length]; rfl)
    rw [List.append_nil] at b
    refine wpAny_call (codeAny_mono (run X.A X.stack s1 H1 us [v] Q E0 q (hr.mono hk) hot pin I1.env0 b r rfl hsp) fun res s2 hres => ?_)
    cases res with
    | error e => exact (noOut hres).elim
    | ok fl =>
      cases fl with
      | ret u => exact I1.after hres
      | next => exact False.elim hres
      | brk => exact False.elim hres
      | cont => exact False.elim hres
/-- isinstance of the exception that is handled -/
theorem call_isH {a D : Addr} {oe : Obj} (C : ExcC X.K D) (h1 : oe.cls = .ref D) (h2 : oe.dict = none) (hf : ∃ vs, oe.data = .fields vs) (hp : (a, oe) ∈ X.pn) : CallR X (.builtin "isinstance") (rIsE X.K D a) := by
  rintro pins s σ H xs us Q I r ⟨c, cv, b, rfl, hcv, hk, q⟩
  cases r with
  | cons rx r2 =>
    cases r2 with
    | cons rc r3 =>
      cases r3
      cases rx
      cases hcv _ rc
      have get := (I.pin (a, oe) (List.mem_append_left _ hp)).1
      obtain ⟨vs, hv⟩ := hf
      have J : PySem.W.InstAt s.heap a oe D none := by
        obtain ⟨o1, o2, o3, o4⟩ := oe
        dsimp only at h1 h2 hv
        subst h1 h2 hv
        exact ⟨get, rfl, rfl, trivial⟩
      exact PySem.W.kia_one (PySem.W.handS_kitx_exc C.hg C.hk C.hs C.hd C.ha C.hn C.ht C.hm) I.kIn J hk (fun e => nomatch e) fun tk => ⟨.bl b, H, I.kept (t' := tk) fun _ _ e => e, rfl, q⟩
/-- a call in a try's body -/
theorem pe_calS {CX : CXT} {sp : Sp} {E : Sg → XK} {p pos : Pos} {e : Expr} {es : List Expr} {t : TA} {j : Nat} (c : Cal X.prog X.w X.K X.mg X.base CX k z ps sp) (hr : Room j X.A) (hk : k ≤ j) (hg : Gl X z) (hx : ∀ σ, PassesAt CX X σ (E σ)) (ha : PA X (e :: es) t)
    (hdb : (z == ("__debug__" : Str)) = false := by decide) (he : starEach (e :: es) X.env = (false, eval e X.env) :: starEach es X.env := by rfl) (hpl : (backTo pos (starEach es X.env)).any (·.1) = false := by rfl) :
    PE X (.Call (.Name z p) (e :: es) [] pos) (tCallS sp E t) := by
  obtain ⟨f, fd, F, hm, hkp, hb⟩ := c
  exact pe_callS F (hr.mono hk) hg hm hkp hb hx ha hdb he hpl
end
/-! ### the words -/
/-- what the law's word tells of a class of refusal -/
def wordOf (cs : Cs) (c : Addr) (nm : Str) : Prop := (c = cs.BadRule ∧ nm = ("BadRule" : Str)) ∨ (c = cs.BadKey ∧ nm = ("BadKey" : Str)) ∨ (c = cs.BadSize ∧ nm = ("BadSize" : Str)) ∨ (c = cs.Full ∧ nm = ("Full" : Str)) ∨ (c = cs.TooMany ∧ nm = ("TooMany" : Str))
theorem w_rule {cs : Cs} : wordOf cs cs.BadRule "BadRule" := .inl ⟨rfl, rfl⟩
theorem w_key {cs : Cs} : wordOf cs cs.BadKey "BadKey" := .inr (.inl ⟨rfl, rfl⟩)
theorem w_size {cs : Cs} : wordOf cs cs.BadSize "BadSize" := .inr (.inr (.inl ⟨rfl, rfl⟩))
theorem w_full {cs : Cs} : wordOf cs cs.Full "Full" := .inr (.inr (.inr (.inl ⟨rfl, rfl⟩)))
theorem w_many {cs : Cs} : wordOf cs cs.TooMany "TooMany" := .inr (.inr (.inr (.inr ⟨rfl, rfl⟩)))
def sp_word (cs : Cs) (q : Addr × Obj) : Sp := fun vs H Q _ => ∃ c nm, vs = [.ref q.1] ∧ q.2.cls = .ref c ∧ q.2.dict = none ∧ wordOf cs c nm ∧ upR Q (.str nm) H
/-- try: body, except c as n (slot i): return word(n) -/
def tTry (K : PySem.W.Frag) (cs : Cs) (c : Value) (i : Nat) (tb : WX → TS) : TS := fun D σ H =>
  tb (wAs K c i (fun a cls d => fun D σ H => σ[i]? = some (some (.ref a)) ∧ ∃ cc nm, cls = .ref cc ∧ d = none ∧ wordOf cs cc nm ∧ ∀ H1, Ex H H1 → D.rt (.str nm) H1) (fun _ _ _ _ => False) D) D σ H
theorem s_try {K : PySem.W.Frag} {cs : Cs} {c : Value} {i : Nat} {tb : WX → TS} {N B C : PS'} {R : PV} {σ : Sg} {H : Hp} (ex : ∀ cc nm, wordOf cs cc nm → PySem.W.exmOne K (.ref cc) c = some true)
    (k : ∀ W : WX, (∀ cc nm σ' H0, wordOf cs cc nm → i < σ'.length → R (.str nm) H0 → ∀ H1, Ex H0 H1 → W (.ref cc) none σ' H1) → kS (tb W) N R B C σ H) : kS (tTry K cs c i tb) N R B C σ H := fun H1 e D hn hr hb hc =>
  k _ (fun cc nm σ' H0 hw hi hR H2 e2 => ⟨true, ex cc nm hw, fun _ a ha => ⟨List.getElem?_set_self hi, cc, nm, rfl, rfl, hw, fun H3 e3 => hr _ _ _ hR (e2.tr e3)⟩, fun h => Bool.noConfusion h⟩) H1 e D hn hr hb hc
section
variable {X : Cx} {x n z y : Str} {c : Addr} {cs : Cs} {i j kw : Nat} {body : List Stmt} {tb : WX → TS} {np p1 p2 p3 p4 pos pos' : Pos}
theorem no_takes {X : Cx} : L2N.Takes X (fun _ _ _ _ => False) := by
  intro u s' h
  obtain ⟨_, _, _, _, _, _, _, _, _, _, _, _, _, _, _, _, no⟩ := h
  exact no.elim
/-- try: body, except x as n: return z(n) -/
theorem ps_tryT (hs : X.stack = X.env :: X.outer) (hf : X.env.frame = some X.env.locals) (hN : X.N.Nodup) (hi : X.N[i]? = some n) (hln : X.env.scope.names.lookup n = some .local) (hg : Gl X x) (hm : X.mg x = some (.ref c))
    (w : CalX X.prog X.w X.K X.mg X.base kw z [y] (sp_word cs)) (hr : Room j X.A) (hk : kw ≤ j) (hgz : Gl X z)
    (hb : ∀ (W : WX) (pn : List (Addr × Obj)) (xe : Value → Shared → Prop), L2N.Takes (X.tr pn xe) W → PSs (X.tr pn xe) body (tb W))
    (hv : ∀ (pn : List (Addr × Obj)) (a : Addr), PE (X.suite a pn) (.Name n p2) (tVar i))
    (hdb : (x == ("__debug__" : Str)) = false := by decide) (hdz : (z == ("__debug__" : Str)) = false := by decide)
    (hst : ∀ (pn : List (Addr × Obj)) (a : Addr), starEach (.Name n p2 :: []) (X.suite a pn).env = (false, eval (.Name n p2) (X.suite a pn).env) :: starEach [] (X.suite a pn).env := by intros; rfl)
    (hpl : ∀ (pn : List (Addr × Obj)) (a : Addr), (backTo p3 (starEach [] (X.suite a pn).env)).any (·.1) = false := by intros; rfl) :
    PS X (.Try body [.ExceptHandler (some (.Name x np)) (some n) [.Return (some (.Call (.Name z p1) [.Name n p2] [] p3)) p4] pos'] [] [] pos) (tTry X.K cs (.ref c) i tb) := by
  refine L2N.ps_try_as (Wout := fun _ _ _ _ => False) (ts := fun a cls d => fun D σ H => σ[i]? = some (some (.ref a)) ∧ ∃ cc nm, cls = .ref cc ∧ d = none ∧ wordOf cs cc nm ∧ ∀ H1, Ex H H1 → D.rt (.str nm) H1) hs hf hN hi hln ⟨hg, hdb, .inl hm⟩ no_takes (fun W pn xe tk _ => hb W pn xe tk) fun a oe cls d pn hz hfl => ?_
  have P : PSs (X.suite a ((a, oe) :: pn)) [.Return (some (.Call (.Name z p1) [.Name n p2] [] p3)) p4] (tRet (tWordCall (sp_word cs) (a, oe) (tVar i))) :=
    pss_one (ps_ret (pe_calX (X := X.suite a ((a, oe) :: pn)) (q := (a, oe)) (sp := sp_word cs) w ⟨hr.dp, hr.un⟩ hk ⟨rfl, by
      obtain ⟨vs, e⟩ := hfl
      exact ⟨vs, e, hz.2.2 vs e⟩⟩ List.mem_cons_self hgz (hv _ _) hdz (hst _ _) (hpl _ _)))
  refine ⟨fun pins s σ H D I h => P.run pins s σ H D I ?_⟩
  obtain ⟨h1, cc, nm, h2, h3, h4, h5⟩ := h
  exact ⟨.ref a, h1, cc, nm, rfl, hz.1.trans h2, hz.2.1.trans h3, h4, h5⟩
end
/-- isinstance by the class pairs -/
theorem c_isH {K : PySem.W.Frag} {D a : Addr} {x : V} {cv : Value} {b : Bool} {H : Hp} {Q : PV} (h : PySem.W.kitOne K (.ref D) cv = some b) (hv : ∀ u, RelV x u → u = cv) (k : Q (.bl b) H) : kC (rIsE K D a) [.ref a, x] H Q := fun H1 e _ q => ⟨x, cv, b, rfl, hv, h, q _ _ _ k e⟩
structure KitC (K : PySem.W.Frag) (cs : Cs) (c : Addr) (b1 b2 b3 b4 b5 : Bool) : Prop where
  e : ExcC K c
  k1 : PySem.W.kitOne K (.ref c) (.ref cs.BadRule) = some b1
  k2 : PySem.W.kitOne K (.ref c) (.ref cs.BadKey) = some b2
  k3 : PySem.W.kitOne K (.ref c) (.ref cs.BadSize) = some b3
  k4 : PySem.W.kitOne K (.ref c) (.ref cs.Full) = some b4
  k5 : PySem.W.kitOne K (.ref c) (.ref cs.TooMany) = some b5
  kv : PySem.W.kitOne K (.ref c) (.type "ValueError") = some true
structure KitW (K : PySem.W.Frag) (cs : Cs) : Prop where
  r : KitC K cs cs.BadRule true false false false false
  k : KitC K cs cs.BadKey false true false false false
  s : KitC K cs cs.BadSize false false true false false
  f : KitC K cs cs.Full false false false true false
  m : KitC K cs cs.TooMany false false false false true
theorem KitW.exc {K : PySem.W.Frag} {cs : Cs} {c : Addr} {nm : Str} (k : KitW K cs) (h : wordOf cs c nm) : ExcC K c := by
  rcases h with ⟨rfl, _⟩ | ⟨rfl, _⟩ | ⟨rfl, _⟩ | ⟨rfl, _⟩ | ⟨rfl, _⟩
  · exact k.r.e
  · exact k.k.e
  · exact k.s.e
  · exact k.f.e
  · exact k.m.e
def ExmW (K : PySem.W.Frag) (cs : Cs) : Prop := ∀ cc nm, wordOf cs cc nm → PySem.W.exmOne K (.ref cc) (.ref cs.StrewError) = some true
theorem exmW_mk {K : PySem.W.Frag} {cs : Cs} (h1 : PySem.W.exmOne K (.ref cs.BadRule) (.ref cs.StrewError) = some true) (h2 : PySem.W.exmOne K (.ref cs.BadKey) (.ref cs.StrewError) = some true) (h3 : PySem.W.exmOne K (.ref cs.BadSize) (.ref cs.StrewError) = some true)
    (h4 : PySem.W.exmOne K (.ref cs.Full) (.ref cs.StrewError) = some true) (h5 : PySem.W.exmOne K (.ref cs.TooMany) (.ref cs.StrewError) = some true) : ExmW K cs := by
  rintro c nm (⟨rfl, _⟩ | ⟨rfl, _⟩ | ⟨rfl, _⟩ | ⟨rfl, _⟩ | ⟨rfl, _⟩) <;> assumption
theorem e_hot {K : PySem.W.Frag} {σ : Sg} {H : Hp} {te : TE} {Q : PV} (k : kE te σ H fun v H1 => ∃ (a : Addr) (bs : List Bool), v = .ref a ∧ SqL K H1 a (bs.map V.bl) ∧ bs.length ≤ 1000 ∧ ∀ p, H1 p = none → Q (.ref p) (upd H1 p (.lst (bs.map fun b => V.int (b2n b))))) : kE (tHotInts K te) σ H Q := fun H1 e _ q =>
  k H1 e _ fun v H0 H2 ⟨a, bs, ev, hs, hl, hk⟩ e2 => ⟨a, bs, ev, e2.sl hs, hl, fun p hp => q _ _ _ (hk p (e2.fresh hp)) (e2.ups p _)⟩
theorem c_isHr {K : PySem.W.Frag} {D a c : Addr} {b : Bool} {H : Hp} {Q : PV} (h : PySem.W.kitOne K (.ref D) (.ref c) = some b) (k : Q (.bl b) H) : kC (rIsE K D a) [.ref a, .ref c] H Q := c_isH h (fun _ h => h) k
theorem c_isHt {K : PySem.W.Frag} {D a : Addr} {c : String} {b : Bool} {H : Hp} {Q : PV} (h : PySem.W.kitOne K (.ref D) (.type c) = some b) (k : Q (.bl b) H) : kC (rIsE K D a) [.ref a, .ty c] H Q := c_isH h (fun _ h => h) k
theorem kit_refC {K : PySem.W.Frag} {c C : Addr} {b : Bool} (hdct : PySem.W.hasDictIn K C = true) (ht : PySem.W.typeIn K (.ref C) = some (.type "type")) (hs : PySem.W.subIn K (.ref c) (.ref c) = some true) (h4 : PySem.W.subIn K (.ref c) (.ref C) = some b) : PySem.W.kitOne K (.ref c) (.ref C) = some b := by
  obtain ⟨cd, hc, _⟩ := PySem.W.any_some hdct
  have e2 : ((PySem.W.clsIn K C).isSome && PySem.W.typeIn K (.ref C) == some (.type "type")) = true := by rw [hc, ht] <;> rfl
  unfold PySem.W.kitOne
  by_cases q : (Value.ref c == Value.ref C) = true
  · have e : Value.ref c = Value.ref C := eq_of_beq q
    rw [if_pos q]
    rw [← e] at h4
    exact hs.symm.trans h4
  · rw [if_neg q]
    show (if ((PySem.W.clsIn K C).isSome && PySem.W.typeIn K (.ref C) == some (.type "type")) = true then PySem.W.subIn K (.ref c) (.ref C) else none) = some b
    rw [if_pos e2]
    exact h4
theorem kit_tyC {K : PySem.W.Frag} {c : Addr} {T : String} {b : Bool} (hm : PySem.W.kitMeta T = true) (h4 : PySem.W.subIn K (.ref c) (.type T) = some b) : PySem.W.kitOne K (.ref c) (.type T) = some b := by
  unfold PySem.W.kitOne
  rw [if_neg (by intro h; cases eq_of_beq h)]
  show (if PySem.W.kitMeta T = true then PySem.W.subIn K (.ref c) (.type T) else none) = some b
  rw [if_pos hm]
  exact h4
theorem kitC_mk {K : PySem.W.Frag} {cs : Cs} {c : Addr} {b1 b2 b3 b4 b5 : Bool} (e : ExcC K c) (d1 : PySem.W.hasDictIn K cs.BadRule = true) (d2 : PySem.W.hasDictIn K cs.BadKey = true) (d3 : PySem.W.hasDictIn K cs.BadSize = true) (d4 : PySem.W.hasDictIn K cs.Full = true) (d5 : PySem.W.hasDictIn K cs.TooMany = true)
    (t1 : PySem.W.typeIn K (.ref cs.BadRule) = some (.type "type")) (t2 : PySem.W.typeIn K (.ref cs.BadKey) = some (.type "type")) (t3 : PySem.W.typeIn K (.ref cs.BadSize) = some (.type "type")) (t4 : PySem.W.typeIn K (.ref cs.Full) = some (.type "type")) (t5 : PySem.W.typeIn K (.ref cs.TooMany) = some (.type "type"))
    (hs : PySem.W.subIn K (.ref c) (.ref c) = some true) (s1 : PySem.W.subIn K (.ref c) (.ref cs.BadRule) = some b1) (s2 : PySem.W.subIn K (.ref c) (.ref cs.BadKey) = some b2) (s3 : PySem.W.subIn K (.ref c) (.ref cs.BadSize) = some b3) (s4 : PySem.W.subIn K (.ref c) (.ref cs.Full) = some b4) (s5 : PySem.W.subIn K (.ref c) (.ref cs.TooMany) = some b5)
    (sv : PySem.W.subIn K (.ref c) (.type "ValueError") = some true) : KitC K cs c b1 b2 b3 b4 b5 :=
  ⟨e, kit_refC d1 t1 hs s1, kit_refC d2 t2 hs s2, kit_refC d3 t3 hs s3, kit_refC d4 t4 hs s4, kit_refC d5 t5 hs s5, kit_tyC (by decide +kernel) sv⟩
end Lg

/-! Wk: walks (for, comprehension) and the rules of lists in the logic of Lg. -/
namespace Lg
open PySem PySem.Spec PyProof.Rows L2
abbrev Yk := Nat → Hp → (V → Hp → Prop) → Prop
/-- a walk of n turns while G stands; y tells what a turn gives, known heap by known heap -/
structure WalkK (J : It) (n : Nat) (G : Hp → Prop) (y : Yk) : Prop where
  up : ∀ H H', Ex H H' → G H → G H'
  goes : ∀ i H, i < n → G H → J.go i H
  stops : ∀ H, G H → J.stop n H
  mo : ∀ i H (A B : V → Hp → Prop), (∀ v h, A v h → B v h) → y i H A → y i H B
  yields : ∀ i H H' x H'', i < n → G H' → Ex H H' → J.yld i H' x H'' → ∀ Q, y i H Q → ∃ H0, Q x H0 ∧ Ex H0 H''
def yAt (xs : List V) : Yk := fun i H Q => ∀ x, xs[i]? = some x → Q x H
def yFn (f : Nat → V) : Yk := fun i H Q => Q (f i) H
def yPair (f g : Nat → Option V) : Yk := fun i H Q => ∀ T x z, H T = none → f i = some x → g i = some z → Q (.ref T) (upd H T (.tup [x, z]))
theorem WalkK.ofAt {J : It} {n : Nat} {G : Hp → Prop} {xs : List V} (w : Walk J n G (YAt xs)) (up : ∀ H H', Ex H H' → G H → G H') : WalkK J n G (yAt xs) :=
  ⟨up, w.goes, w.stops, fun i H A B ab h x hx => ab _ _ (h x hx), fun i H H' x H'' hi g e y Q q => by
    obtain ⟨e1, e2⟩ := w.yields i H' x H'' hi g y
    subst e1
    exact ⟨H, q x e2, e⟩⟩
theorem WalkK.ofFn {J : It} {n : Nat} {G : Hp → Prop} {f : Nat → V} (w : Walk J n G (YFn f)) (up : ∀ H H', Ex H H' → G H → G H') : WalkK J n G (yFn f) :=
  ⟨up, w.goes, w.stops, fun i H A B ab h => ab _ _ h, fun i H H' x H'' hi g e y Q q => by
    obtain ⟨e1, e2⟩ := w.yields i H' x H'' hi g y
    subst e1 e2
    exact ⟨H, q, e⟩⟩
theorem WalkK.ofPair {J : It} {n : Nat} {G : Hp → Prop} {f g : Nat → Option V} (w : Walk J n G (YPair f g)) (up : ∀ H H', Ex H H' → G H → G H') : WalkK J n G (yPair f g) :=
  ⟨up, w.goes, w.stops, fun i H A B ab h T x z h1 h2 h3 => ab _ _ (h T x z h1 h2 h3), fun i H H' x H'' hi gg e y Q q => by
    obtain ⟨T, a, b, e1, e2, e3, e4, e5⟩ := w.yields i H' x H'' hi gg y
    subst e1 e3
    exact ⟨_, q T a b (e.fresh e2) e4 e5, e.ups T _⟩⟩
abbrev PI' := Nat → (Hp → Prop) → Yk → Hp → Prop
def kI (wi : TI) (σ : Sg) (H : Hp) (Q : PI') : Prop := ∀ H1, Ex H H1 → ∀ R : It → Hp → Prop, (∀ J n G y H0 H2, WalkK J n G y → Q n G y H0 → Ex H0 H2 → R J H2) → wi σ H1 R
variable {K : PySem.W.Frag} {σ σ' : Sg} {H H' : Hp} {ta tb tc te : TE} {tt tu : TT} {t u : TA} {Q : PV} {QB : Bool → Hp → Prop} {QA : List V → Hp → Prop} {N B C : PS'} {R : PV} {ts us : TS} {x y v : V} {i j : Int} {g : TG} {wi : TI}
theorem i_rng1 {QI : PI'} (k : kA t σ H fun vs H1 => ∃ n : Nat, vs = [.int (n : Int)] ∧ n < 2 ^ 61 ∧ QI n (fun _ => True) (yFn fun i => .int (i : Nat)) H1) : kI (iRng1 t) σ H QI := fun H1 e R r => k H1 e _ fun vs H0 H2 ⟨n, ev, hl, q⟩ e2 => by
  subst ev
  refine ⟨(n : Int), rfl, by omega, by omega, ?_⟩
  have e0 : (n : Int).toNat = n := by omega
  rw [e0]
  refine r _ n _ _ H0 H2 (.ofFn (walk_range.mono (fun _ h => h) ?_) (fun _ _ _ h => h)) q e2
  rintro i H x H' _ _ ⟨a, b⟩
  refine ⟨a, ?_⟩
  rw [b]
  show V.int (0 + (i : Int)) = .int (i : Nat)
  rw [Int.zero_add]
theorem i_rng2 {QI : PI'} (k : kA t σ H fun vs H1 => ∃ (a b : Int) (n : Nat), vs = [.int a, .int b] ∧ (-(2 ^ 62) ≤ a ∧ a < 2 ^ 62 ∧ -(2 ^ 62) ≤ b ∧ b < 2 ^ 62) ∧ (b - a).toNat = n ∧ QI n (fun _ => True) (yFn fun i => .int (a + (i : Nat))) H1) : kI (iRng2 t) σ H QI := fun H1 e R r => k H1 e _ fun vs H0 H2 ⟨a, b, n, ev, hl, en, q⟩ e2 => by
  subst ev en
  exact ⟨a, b, rfl, hl, r _ _ _ _ H0 H2 (.ofFn walk_range (fun _ _ _ h => h)) q e2⟩
theorem i_list {QI : PI'} (k : kE te σ H fun v H1 => ∃ a xs, v = .ref a ∧ SqL K H1 a xs ∧ QI xs.length (fun H => SqL K H a xs) (yAt xs) H1) : kI (iList K te) σ H QI := fun H1 e R r => k H1 e _ fun v H0 H2 ⟨a, xs, ev, hs, q⟩ e2 =>
  ⟨a, ev, ⟨xs, e2.sl hs⟩, r _ _ _ _ H0 H2 (.ofAt walk_list (fun _ _ e h => e.sl h)) q e2⟩
theorem i_tup {QI : PI'} (k : kE te σ H fun v H1 => ∃ a xs, v = .ref a ∧ SqT K H1 a xs ∧ QI xs.length (fun H => SqT K H a xs) (yAt xs) H1) : kI (iTup K te) σ H QI := fun H1 e R r => k H1 e _ fun v H0 H2 ⟨a, xs, ev, hs, q⟩ e2 =>
  ⟨a, ev, ⟨xs, e2.st hs⟩, r _ _ _ _ H0 H2 (.ofAt walk_tup (fun _ _ e h => e.st h)) q e2⟩
theorem i_enum {QI : PI'} (k : kA t σ H fun vs H1 => ∃ a xs, vs = [.ref a] ∧ SqL K H1 a xs ∧ QI xs.length (fun H => SqL K H a xs) (yPair (fun i => some (.int (i : Nat))) (fun i => xs[i]?)) H1) : kI (iEnum K t) σ H QI := fun H1 e R r => k H1 e _ fun v H0 H2 ⟨a, xs, ev, hs, q⟩ e2 =>
  ⟨a, xs, ev, e2.sl hs, r _ _ _ _ H0 H2 (.ofPair walk_enum (fun _ _ e h => e.sl h)) q e2⟩
theorem i_zip {QI : PI'} (k : kA t σ H fun vs H1 => ∃ a b xs ys, vs = [.ref a, .ref b] ∧ SqL K H1 a xs ∧ SqL K H1 b ys ∧ QI (min xs.length ys.length) (fun H => SqL K H a xs ∧ SqL K H b ys) (yPair (fun i => xs[i]?) (fun i => ys[i]?)) H1) : kI (iZip K t) σ H QI := fun H1 e R r => k H1 e _ fun v H0 H2 ⟨a, b, xs, ys, ev, hs, hz, q⟩ e2 =>
  ⟨a, b, xs, ys, ev, e2.sl hs, e2.sl hz, r _ _ _ _ H0 H2 (.ofPair (walk_zip rfl) (fun _ _ e h => ⟨e.sl h.1, e.sl h.2⟩)) q e2⟩
/-- for g in iter -/
theorem s_for (k : kI wi σ H fun n G y H1 => ∃ W : Nat → PS', W 0 σ H1 ∧ (∀ i s H, i ≤ n → W i s H → G H) ∧ (∀ i s H, i < n → W i s H → y i H fun x H2 => kG g x s H2 fun s' H3 => kS ts (nxt W (i + 1)) R N (nxt W (i + 1)) s' H3) ∧ ∀ s H, W n s H → N s H) :
    kS (tFor wi g ts) N R B C σ H := fun H1 e D hn hr hb hc => k H1 e _ fun J n G y H0 H2 w ⟨W, w0, hG, hs, hd⟩ e2 => by
  refine ⟨fun i m s H => m = n - i ∧ i ≤ n ∧ nxt W i s H, ⟨n, by simp, Nat.zero_le _, H0, w0, e2⟩, ?_⟩
  rintro i m s H3 ⟨rfl, hi, H4, w4, e4⟩
  have q := w.up _ _ e4 (hG i s H4 hi w4)
  by_cases hlt : i < n
  · refine .inr ⟨w.goes i H3 hlt q, nxt W (i + 1), fun s' H' p' => ⟨n - (i + 1), by omega, rfl, hlt, p'⟩, fun x H' yl => ?_⟩
    obtain ⟨H5, hg, e5⟩ := w.yields i H4 H3 x H' hlt q e4 yl _ (hs i s H4 hlt w4)
    exact hg H' e5 _ fun s' H6 H7 q6 e7 => q6 H7 e7 _ nxt_up hr hn nxt_up
  · have ei : i = n := by omega
    subst ei
    exact .inl ⟨w.stops H3 q, hn _ _ _ (hd s H4 w4) e4⟩
/-- [te for g in iter if tt]: W tells the heap with the new list at D -/
theorem e_lc {vs : List Nat} (k : kI wi σ H fun n G y H1 => ∀ D, H1 D = none → ∃ W : Nat → Hp → Prop, W 0 (upd H1 D (.lst [])) ∧ (∀ i H, i ≤ n → W i H → G H) ∧
      (∀ i H, i < n → W i H → y i H fun x H2 => kG g x (wipe σ vs) H2 fun s' H3 => wipe s' vs = wipe σ vs ∧ kT tt s' H3 fun b H4 => (b = true → kE te s' H4 fun z H5 => ∃ acc H6, H5 D = some (.lst acc) ∧ acc.length < sizeLine ∧ W (i + 1) H6 ∧ Ex H6 (upd H5 D (.lst (acc ++ [z])))) ∧
        (b = false → ∃ H6, W (i + 1) H6 ∧ Ex H6 H4)) ∧ ∀ H, W n H → Q (.ref D) H) : kE (tLc wi g tt te vs) σ H Q := fun H1 e Q1 q1 => k H1 e _ fun J n G y H0 H2 w kk e2 => by
  intro D hD
  obtain ⟨W, w0, hG, hs, hd⟩ := kk D (e2.fresh hD)
  refine ⟨fun i m H => m = n - i ∧ i ≤ n ∧ ∃ H0, W i H0 ∧ Ex H0 H, ⟨n, by simp, Nat.zero_le _, _, w0, e2.ups D _⟩, ?_⟩
  rintro i m H3 ⟨rfl, hi, H4, w4, e4⟩
  have q := w.up _ _ e4 (hG i H4 hi w4)
  by_cases hlt : i < n
  · refine .inr ⟨w.goes i H3 hlt q, fun H' => ∃ H0, W (i + 1) H0 ∧ Ex H0 H', fun H' p' => ⟨n - (i + 1), by omega, rfl, hlt, p'⟩, fun x H' yl => ?_⟩
    obtain ⟨H5, hg, e5⟩ := w.yields i H4 H3 x H' hlt q e4 yl _ (hs i H4 hlt w4)
    refine hg H' e5 _ fun s' H6 H7 ⟨ew, q6⟩ e7 => ⟨ew, q6 H7 e7 _ fun b H8 H9 q8 e9 => ?_⟩
    cases b with
    | true =>
      show te s' H9 _
      refine q8.1 rfl H9 e9 _ fun z H10 H11 ⟨acc, H12, h1, h2, h3, h4⟩ e11 => ⟨acc, e11 _ _ h1, h2, H12, h3, h4.tr (e11.ups D _)⟩
    | false =>
      show ∃ H0, W (i + 1) H0 ∧ Ex H0 H9
      obtain ⟨H10, h1, h2⟩ := q8.2 rfl
      exact ⟨H10, h1, h2.tr e9⟩
  · have ei : i = n := by omega
    subst ei
    exact .inl ⟨w.stops H3 q, q1 _ _ _ (hd H4 w4) e4⟩
/-- the same, what a turn gives known by its number alone -/
theorem e_lcF {vs : List Nat} (k : kI wi σ H fun n G y H1 => G H1 ∧ n ≤ 100000 ∧ ∃ f : Nat → Option V,
      (∀ D acc i, H1 D = none → i < n → y i (upd H1 D (.lst acc)) fun x H2 => kG g x (wipe σ vs) H2 fun s' H3 => wipe s' vs = wipe σ vs ∧ kT tt s' H3 fun b H4 => (b = true → kE te s' H4 fun z H5 => f i = some z ∧ Ex (upd H1 D (.lst acc)) H5) ∧
        (b = false → f i = none ∧ Ex (upd H1 D (.lst acc)) H4)) ∧ ∀ D, H1 D = none → Q (.ref D) (upd H1 D (.lst ((List.range n).filterMap f)))) : kE (tLc wi g tt te vs) σ H Q := e_lc fun H2 e R r => k H2 e R fun J n G y H0 H3 w ⟨hG, hn, f, hs, hd⟩ e3 => r J n G y H0 H3 w (fun D hD => by
    refine ⟨fun i H => H = upd H0 D (.lst ((List.range i).filterMap f)), rfl, fun i H _ e => ?_, fun i H hi e => ?_, fun H e => ?_⟩
    · subst e
      exact w.up _ _ (Ex.news hD) hG
    · subst e
      have hl : ((List.range i).filterMap f).length < sizeLine := Nat.lt_of_le_of_lt (List.length_filterMap_le _ _) (by rw [List.length_range]; exact Nat.lt_of_lt_of_le (Nat.lt_of_lt_of_le hi hn) (by decide))
      have z := hs D ((List.range i).filterMap f) i hD hi
      · refine w.mo _ _ _ _ (fun v h a => ?_) z
        refine fun H4 e4 Q4 q4 => a H4 e4 Q4 fun s' H5 H6 ⟨e5, t5⟩ e6 => q4 s' H5 H6 ⟨e5, fun H7 e7 Q7 q7 => t5 H7 e7 Q7 fun b H8 H9 ⟨b1, b2⟩ e9 => q7 b H8 H9 ⟨fun hb H10 e10 Q10 q10 => b1 hb H10 e10 Q10 fun v' H11 H12 ⟨f1, f2⟩ e12 => q10 v' H11 H12 ⟨_, _, f2 _ _ upd_same, hl, rfl, ?_⟩ e12, fun hb => ⟨_, rfl, ?_⟩⟩ e9⟩ e6
        · rw [List.range_succ, List.filterMap_append]
          simp only [List.filterMap_cons, List.filterMap_nil, f1]
          intro a o ha
          by_cases hq : a = D
          · subst hq
            rw [upd_same] at ha ⊢
            exact ha
          · rw [upd_ne hq] at ha ⊢
            exact f2 a o (by rw [upd_ne hq]; exact ha)
        · obtain ⟨f1, f2⟩ := b2 hb
          rw [List.range_succ, List.filterMap_append]
          simp only [List.filterMap_cons, List.filterMap_nil, f1, List.append_nil]
          exact f2
    · subst e
      exact hd D hD) e3
theorem filterMap_take {zs : List V} : ∀ n, n ≤ zs.length → (List.range n).filterMap (fun i => zs[i]?) = zs.take n
  | 0, _ => by simp
  | n + 1, h => by
    have hn : n < zs.length := h
    rw [List.range_succ, List.filterMap_append, filterMap_take n (Nat.le_of_lt h), List.take_succ, List.getElem?_eq_getElem hn]
    simp [hn]
theorem filterMap_get {zs : List V} {n : Nat} (h : zs.length = n) : (List.range n).filterMap (fun i => zs[i]?) = zs := by
  subst h
  rw [filterMap_take _ (Nat.le_refl _), List.take_length]
/-- the same, to a list that is told -/
theorem e_lcZ {vs : List Nat} (k : kI wi σ H fun n G y H1 => G H1 ∧ n ≤ 100000 ∧ ∃ zs : List V, zs.length = n ∧
      (∀ D acc i, H1 D = none → i < n → y i (upd H1 D (.lst acc)) fun x H2 => kG g x (wipe σ vs) H2 fun s' H3 => wipe s' vs = wipe σ vs ∧ kT tt s' H3 fun b H4 => b = true ∧ kE te s' H4 fun z H5 => zs[i]? = some z ∧ Ex (upd H1 D (.lst acc)) H5) ∧
      ∀ D, H1 D = none → Q (.ref D) (upd H1 D (.lst zs))) : kE (tLc wi g tt te vs) σ H Q := e_lcF fun H2 e R r => k H2 e R fun J n G y H0 H3 w ⟨hG, hn, zs, hz, hs, hd⟩ e3 => r J n G y H0 H3 w ⟨hG, hn, fun i => zs[i]?, fun D acc i hD hi => by
    refine w.mo _ _ _ _ (fun v h a => ?_) (hs D acc i hD hi)
    exact fun H4 e4 Q4 q4 => a H4 e4 Q4 fun s' H5 H6 ⟨e5, t5⟩ e6 => q4 s' H5 H6 ⟨e5, fun H7 e7 Q7 q7 => t5 H7 e7 Q7 fun b H8 H9 ⟨b1, b2⟩ e9 => q7 b H8 H9 ⟨fun _ => b2, fun hb => by rw [b1] at hb; cases hb⟩ e9⟩ e6, fun D hD => by
    rw [filterMap_get hz]
    exact hd D hD⟩ e3
theorem t_yes {QB : Bool → Hp → Prop} (k : QB true H) : kT tYes σ H QB := fun H1 e _ q => q _ _ _ k e
/-! ### lists -/
def rInt1 : List V → Hp → VK → Prop := fun xs H Q => (∃ i, xs = [.int i] ∧ Q (.int i) H) ∨ ∃ k, xs = [.bl k] ∧ Q (.int (if k then 1 else 0)) H
def rListOf (K : PySem.W.Frag) : List V → Hp → VK → Prop := fun xs H Q => ∃ p ys, xs = [.ref p] ∧ (SqL K H p ys ∨ SqT K H p ys) ∧ ∀ l, H l = none → Q (.ref l) (upd H l (.lst ys))
def rTupOf (K : PySem.W.Frag) : List V → Hp → VK → Prop := fun xs H Q => ∃ p ys, xs = [.ref p] ∧ ((SqL K H p ys ∧ ∀ l, H l = none → Q (.ref l) (upd H l (.tup ys))) ∨ (SqT K H p ys ∧ Q (.ref p) H))
theorem c_int1 (k : Q (.int i) H) : kC rInt1 [.int i] H Q := fun H1 e _ q => .inl ⟨i, rfl, q _ _ _ k e⟩
theorem c_intB {b : Bool} (k : Q (.int (if b then 1 else 0)) H) : kC rInt1 [.bl b] H Q := fun H1 e _ q => .inr ⟨b, rfl, q _ _ _ k e⟩
theorem c_listL {p : Addr} {ys : List V} (h : SqL K H p ys) (k : ∀ l, H l = none → Q (.ref l) (upd H l (.lst ys))) : kC (rListOf K) [.ref p] H Q := fun H1 e _ q => ⟨p, ys, rfl, .inl (e.sl h), fun l hl => q _ _ _ (k l (e.fresh hl)) (e.ups l _)⟩
theorem c_listT {p : Addr} {ys : List V} (h : SqT K H p ys) (k : ∀ l, H l = none → Q (.ref l) (upd H l (.lst ys))) : kC (rListOf K) [.ref p] H Q := fun H1 e _ q => ⟨p, ys, rfl, .inr (e.st h), fun l hl => q _ _ _ (k l (e.fresh hl)) (e.ups l _)⟩
theorem c_tupL {p : Addr} {ys : List V} (h : SqL K H p ys) (k : ∀ l, H l = none → Q (.ref l) (upd H l (.tup ys))) : kC (rTupOf K) [.ref p] H Q := fun H1 e _ q => ⟨p, ys, rfl, .inl ⟨e.sl h, fun l hl => q _ _ _ (k l (e.fresh hl)) (e.ups l _)⟩⟩
theorem c_all {p : Addr} {bs : List Bool} (h : SqL K H p (bs.map V.bl)) (k : Q (.bl (bs.all id)) H) : kC (rAll K) [.ref p] H Q := fun H1 e _ q => ⟨p, bs, rfl, e.sl h, q _ _ _ k e⟩
theorem c_sum {p : Addr} {ns : List Int} (h : SqL K H p (ns.map V.int)) (k : Q (.int ns.sum) H) : kC (rSum K) [.ref p] H Q := fun H1 e _ q => ⟨p, ns, rfl, e.sl h, q _ _ _ k e⟩
theorem c_maxL {p : Addr} {ns : List Int} (h : SqL K H p (ns.map V.int)) (h0 : 0 < ns.length) (k : ∀ m, m ∈ ns → (∀ y, y ∈ ns → y ≤ m) → Q (.int m) H) : kC (rMax K) [.ref p] H Q := fun H1 e _ q => ⟨p, ns, rfl, e.sl h, h0, fun m hm hy => q _ _ _ (k m hm hy) e⟩
theorem c_sorted {p : Addr} {ns : List Int} (h : SqL K H p (ns.map V.int)) (k : ∀ (ns' : List Int) (l : Addr), ns'.Perm ns → ns'.Pairwise (· ≤ ·) → H l = none → Q (.ref l) (upd H l (.lst (ns'.map V.int)))) : kC (rSortedI K) [.ref p] H Q := fun H1 e _ q =>
  ⟨p, ns, rfl, e.sl h, fun ns' l h1 h2 hl => q _ _ _ (k ns' l h1 h2 (e.fresh hl)) (e.ups l _)⟩
theorem r_inT {p : Addr} {xs : List V} (h : SqT K H p xs) (f1 : flatV x = true) (f2 : xs.all flatV = true) (k : Q (.bl (inV x xs)) H) : kR (rIn K false) x (.ref p) H Q := fun H1 e _ q => ⟨p, xs, rfl, .inr (e.st h), f1, f2, q _ _ _ k e⟩
theorem r_ninT {p : Addr} {xs : List V} (h : SqT K H p xs) (f1 : flatV x = true) (f2 : xs.all flatV = true) (k : Q (.bl (!inV x xs)) H) : kR (rIn K true) x (.ref p) H Q := fun H1 e _ q => ⟨p, xs, rfl, .inr (e.st h), f1, f2, q _ _ _ k e⟩
theorem r_inL {p : Addr} {xs : List V} (h : SqL K H p xs) (f1 : flatV x = true) (f2 : xs.all flatV = true) (k : Q (.bl (inV x xs)) H) : kR (rIn K false) x (.ref p) H Q := fun H1 e _ q => ⟨p, xs, rfl, .inl (e.sl h), f1, f2, q _ _ _ k e⟩
theorem r_cat {a b : Addr} {xs zs : List V} (h1 : H a = some (.lst xs)) (h2 : H b = some (.lst zs)) (hz : xs.length + zs.length ≤ sizeLine) (k : ∀ p, H p = none → Q (.ref p) (upd H p (.lst (xs ++ zs)))) : kR rCat (.ref a) (.ref b) H Q := fun H1 e _ q =>
  ⟨a, b, xs, zs, rfl, rfl, e _ _ h1, e _ _ h2, hz, fun p hp => q _ _ _ (k p (e.fresh hp)) (e.ups p _)⟩
theorem r_rep {a : Addr} {xs : List V} {n : Int} (h1 : H a = some (.lst xs)) (hn : -(2 ^ 63) ≤ n ∧ n < 2 ^ 63) (hz : xs.length * n.toNat ≤ sizeLine) (k : ∀ p, H p = none → Q (.ref p) (upd H p (.lst (List.replicate n.toNat xs).flatten))) : kR rRep (.ref a) (.int n) H Q := fun H1 e _ q =>
  ⟨a, n, xs, rfl, rfl, e _ _ h1, hn.1, hn.2, hz, fun p hp => q _ _ _ (k p (e.fresh hp)) (e.ups p _)⟩
theorem r_rep1 {a : Addr} {x : V} {n : Nat} (h1 : H a = some (.lst [x])) (hn : n ≤ 100000) (k : ∀ p, H p = none → Q (.ref p) (upd H p (.lst (List.replicate n x)))) : kR rRep (.ref a) (.int (n : Int)) H Q := by
  refine r_rep h1 ⟨by omega, by omega⟩ ?_ fun p hp => ?_
  · have e : ((n : Nat) : Int).toNat = n := by omega
    rw [e, List.length_singleton]
    exact Nat.le_trans (by omega) (Nat.le_trans hn (by decide))
  · have e : ((n : Nat) : Int).toNat = n := by omega
    rw [e, List.flatten_replicate_singleton]
    exact k p hp
theorem r_repT {a : Addr} {xs : List V} {n : Int} (h1 : SqT K H a xs) (h0 : xs ≠ []) (hn : 2 ≤ n ∧ n ≤ 1000) (hz : xs.length ≤ 1000) (k : ∀ p, H p = none → Q (.ref p) (upd H p (.tup (List.replicate n.toNat xs).flatten))) : kR (rRepT K) (.ref a) (.int n) H Q := fun H1 e _ q =>
  ⟨a, n, xs, rfl, rfl, e.st h1, h0, hn.1, hn.2, hz, fun p hp => q _ _ _ (k p (e.fresh hp)) (e.ups p _)⟩
theorem e_bm {r : V → List V → Hp → VK → Prop} (k : kE ta σ H fun x H1 => ∃ p xs, x = .ref p ∧ SqL K H1 p xs ∧ kA t σ H1 fun vs H2 => kM r x vs H2 Q) : kE (tBM K "list" r ta t) σ H Q := fun H1 e Q1 q => k H1 e _ fun x H0 H2 ⟨p, xs, ex, hs, hk⟩ e2 => by
  subst ex
  exact ⟨.inl ⟨rfl, xs, e2.sl hs⟩, hk H2 e2 _ fun vs H3 H4 hm e4 => hm H4 e4 _ q⟩
theorem m_append {l : Addr} {xs : List V} (h : H l = some (.lst xs)) (hz : xs.length ≤ 100000) (k : Q .non (upd H l (.lst (xs ++ [y])))) : kM rAppend (.ref l) [y] H Q := fun H1 e _ q => ⟨l, xs, y, rfl, rfl, e _ _ h, Nat.lt_of_le_of_lt hz (by decide), q _ _ _ k (e.ups l _)⟩
theorem m_extend {l b : Addr} {xs zs : List V} (h : H l = some (.lst xs)) (hb : H b = some (.lst zs)) (hz : xs.length + zs.length ≤ 100000) (k : Q .non (upd H l (.lst (xs ++ zs)))) : kM rExtend (.ref l) [.ref b] H Q := fun H1 e _ q => ⟨l, b, xs, zs, rfl, rfl, e _ _ h, e _ _ hb, Nat.le_trans hz (by decide), q _ _ _ k (e.ups l _)⟩
theorem m_index {l : Addr} {ys : List V} {j : Nat} {z : V} (h : SqL K H l ys) (f1 : flatV y = true) (f2 : ys.all flatV = true) (hj : ys[j]? = some z) (he : eqV z y = true) (hf : ∀ (m : Nat) (z' : V), m < j → ys[m]? = some z' → eqV z' y = false) (k : Q (.int (j : Nat)) H) :
    kM (rIndex K) (.ref l) [y] H Q := fun H1 e _ q => ⟨l, ys, y, j, z, rfl, rfl, e.sl h, f1, f2, hj, he, hf, q _ _ _ k e⟩
theorem g_subL {to ti : TE} {QS : PS'} (k : kE to σ H fun o H1 => kE ti σ H1 fun i H2 => ∃ p xs n j, o = .ref p ∧ i = .int n ∧ H2 p = some (.lst xs) ∧ ixN xs.length n = some j ∧ QS σ (upd H2 p (.lst (xs.set j v)))) : kG (gSub to ti rSetL) v σ H QS := fun H1 e _ q =>
  k H1 e _ fun o H0 H2 hk e2 => hk H2 e2 _ fun i H3 H4 ⟨p, xs, n, j, h1, h2, h3, h4, h5⟩ e4 => ⟨p, xs, n, j, h1, h2, e4 _ _ h3, h4, q _ _ _ h5 (e4.ups p _)⟩
theorem o_no {QO : Option Int → Hp → Prop} (k : QO none H) : kO tNoPart σ H QO := fun H1 e _ q => q _ _ _ k e
theorem o_part {QO : Option Int → Hp → Prop} (k : kE te σ H fun v H1 => ∃ i, v = .int i ∧ QO (some i) H1) : kO (tPart te) σ H QO := fun H1 e _ q => k H1 e _ fun v H0 H2 ⟨i, ei, h⟩ e2 => ⟨i, ei, q _ _ _ h e2⟩
theorem e_slL {tl th : TO} (k : kE te σ H fun x H1 => kO tl σ H1 fun lo H2 => kO th σ H2 fun hi H3 => ∃ a xs, x = .ref a ∧ SqL K H3 a xs ∧ ∀ p, H3 p = none → Q (.ref p) (upd H3 p (.lst (cutV xs lo hi)))) : kE (tSl (rSlL K) te tl th) σ H Q := fun H1 e _ q =>
  k H1 e _ fun x H0 H2 h e2 => h H2 e2 _ fun lo H3 H4 h e4 => h H4 e4 _ fun hi H5 H6 ⟨a, xs, ex, hs, hk⟩ e6 => ⟨a, xs, ex, e6.sl hs, fun p hp => q _ _ _ (hk p (e6.fresh hp)) (e6.ups p _)⟩
theorem s_retN (k : R .non H) : kS tRetN N R B C σ H := fun H1 e D _ hr _ _ => hr _ _ _ k e
theorem bF {b : Bool} {A B : Prop} (h : b = false) (k : B) : (b = true → A) ∧ (b = false → B) := ⟨fun z => (by rw [h] at z; cases z), fun _ => k⟩
theorem bT {b : Bool} {A B : Prop} (h : b = true) (k : A) : (b = true → A) ∧ (b = false → B) := ⟨fun _ => k, fun z => (by rw [h] at z; cases z)⟩
theorem dec2' {p : Prop} [Decidable p] {A B : Prop} (h1 : p → A) (h2 : ¬ p → B) : ((!decide p) = false → A) ∧ ((!decide p) = true → B) := ⟨fun h => h1 (by simpa using h), fun h => h2 (by simpa using h)⟩
theorem r_p16 (k : Q (.int 65536) H) : kR (rI CPow fun i j => .int (i ^ j.toNat)) (.int 2) (.int 16) H Q := r_I ⟨by decide, by decide, by decide⟩ (by rw [show (2 : Int) ^ (16 : Int).toNat = 65536 from by decide]; exact k)
theorem r_p20 (k : Q (.int 1048576) H) : kR (rI CPow fun i j => .int (i ^ j.toNat)) (.int 2) (.int 20) H Q := r_I ⟨by decide, by decide, by decide⟩ (by rw [show (2 : Int) ^ (20 : Int).toNat = 1048576 from by decide]; exact k)
theorem r_p24 (k : Q (.int 16777216) H) : kR (rI CPow fun i j => .int (i ^ j.toNat)) (.int 2) (.int 24) H Q := r_I ⟨by decide, by decide, by decide⟩ (by rw [show (2 : Int) ^ (24 : Int).toNat = 16777216 from by decide]; exact k)
theorem r_p30 (k : Q (.int 1073741824) H) : kR (rI CPow fun i j => .int (i ^ j.toNat)) (.int 2) (.int 30) H Q := r_I ⟨by decide, by decide, by decide⟩ (by rw [show (2 : Int) ^ (30 : Int).toNat = 1073741824 from by decide]; exact k)
theorem r_p40 (k : Q (.int 1099511627776) H) : kR (rI CPow fun i j => .int (i ^ j.toNat)) (.int 2) (.int 40) H Q := r_I ⟨by decide, by decide, by decide⟩ (by rw [show (2 : Int) ^ (40 : Int).toNat = 1099511627776 from by decide]; exact k)
theorem r_p46 (k : Q (.int 70368744177664) H) : kR (rI CPow fun i j => .int (i ^ j.toNat)) (.int 2) (.int 46) H Q := r_I ⟨by decide, by decide, by decide⟩ (by rw [show (2 : Int) ^ (46 : Int).toNat = 70368744177664 from by decide]; exact k)
theorem r_p50 (k : Q (.int 1125899906842624) H) : kR (rI CPow fun i j => .int (i ^ j.toNat)) (.int 2) (.int 50) H Q := r_I ⟨by decide, by decide, by decide⟩ (by rw [show (2 : Int) ^ (50 : Int).toNat = 1125899906842624 from by decide]; exact k)
theorem kS_gen (P : Hp → Prop) (h : P H) (k : ∀ H', P H' → kS ts N R B C σ H') : kS ts N R B C σ H := k H h
theorem r_repT1 {a : Addr} {x : V} {n : Nat} (h1 : SqT K H a [x]) (hn : 2 ≤ n ∧ n ≤ 1000) (k : ∀ p, H p = none → Q (.ref p) (upd H p (.tup (List.replicate n x)))) : kR (rRepT K) (.ref a) (.int (n : Int)) H Q := by
  refine r_repT h1 (by simp) (by omega) (by simp) fun p hp => ?_
  have e : ((n : Nat) : Int).toNat = n := by omega
  rw [e, List.flatten_replicate_singleton]
  exact k p hp
theorem dp_strs : ∀ zs : List Str, DpAll K H (zs.map V.str) (zs.map PyData.str)
  | [] => .nil
  | z :: zs => .cons (.str z) (dp_strs zs)
theorem eqv_strs : ∀ zs ws : List Str, PyData.eqv (.list (zs.map PyData.str)) (.list (ws.map PyData.str)) = decide (zs = ws)
  | [], [] => by simp [PyData.eqv, PyData.eqvAll]
  | [], _ :: _ => by simp [PyData.eqv, PyData.eqvAll]
  | _ :: _, [] => by simp [PyData.eqv, PyData.eqvAll]
  | a :: r, b :: t => by
    have ih := eqv_strs r t
    simp only [PyData.eqv] at ih
    simp only [List.map_cons, PyData.eqv, PyData.eqvAll, ih]
    by_cases h : a = b <;> by_cases h' : r = t <;> simp [h, h']
theorem lay_all {ds : List PyData} (h : ∀ d ∈ ds, d.canLay0 = true ∧ d.depth ≤ 50) : PyData.canLayAll0 ds = true ∧ PyData.depthAll ds ≤ 50 := by
  induction ds with
  | nil => exact ⟨rfl, Nat.zero_le _⟩
  | cons d ds ih =>
    obtain ⟨h1, h2⟩ := h d List.mem_cons_self
    obtain ⟨i1, i2⟩ := ih fun x hx => h x (List.mem_cons_of_mem _ hx)
    simp only [PyData.canLayAll0, PyData.depthAll, Bool.and_eq_true]
    exact ⟨⟨h1, i1⟩, Nat.max_le.mpr ⟨h2, i2⟩⟩
theorem shaped_list {ds : List PyData} (h : ∀ d ∈ ds, d.canLay0 = true ∧ d.depth ≤ 50) : SeqAt.shaped (.list ds) = true := by
  obtain ⟨h1, h2⟩ := lay_all h
  have h3 : PyData.depth (.list ds) ≤ 64 := by
    unfold PyData.depth
    first | exact Nat.le_trans (Nat.succ_le_succ h2) (by decide) | exact Nat.le_trans (Nat.add_le_add_left h2 1) (by decide)
  have h4 : PyData.canLay0 (.list ds) = true := by
    unfold PyData.canLay0
    exact h1
  unfold SeqAt.shaped
  rw [h4, decide_eq_true h3]
  rfl
theorem r_neSs {p q : Addr} {zs ws : List Str} (h1 : SqL K H p (zs.map V.str)) (h2 : SqL K H q (ws.map V.str)) (s1 : SeqAt.shaped (.list (zs.map PyData.str)) = true) (s2 : SeqAt.shaped (.list (ws.map PyData.str)) = true) (k : Q (.bl (!decide (zs = ws))) H) : kR (rNeD K) (.ref p) (.ref q) H Q :=
  r_neD (.lst h1 (dp_strs zs)) (.lst h2 (dp_strs ws)) s1 s2 (eqv_strs zs ws) k
end Lg

/-! Rl: things that are handed in where a rule is wanted; rules; homes. -/
namespace Lg
open PySem PySem.Spec PyProof.Rows L2
inductive Th where
  | int (i : Int) | bl (b : Bool) | non | str (z : Str) | lst | tup (xs : List Th)
mutual
inductive IsT : Hp → V → Th → Prop where
  | int {H : Hp} (i : Int) : IsT H (.int i) (.int i)
  | bl {H : Hp} (b : Bool) : IsT H (.bl b) (.bl b)
  | non {H : Hp} : IsT H .non .non
  | str {H : Hp} (z : Str) : IsT H (.str z) (.str z)
  | lst {H : Hp} {a : Addr} {vs : List V} (h : H a = some (.lst vs)) : IsT H (.ref a) .lst
  | tup {H : Hp} {a : Addr} {vs : List V} {ts : List Th} (h : H a = some (.tup vs)) (all : IsTs H vs ts) : IsT H (.ref a) (.tup ts)
inductive IsTs : Hp → List V → List Th → Prop where
  | nil {H : Hp} : IsTs H [] []
  | cons {H : Hp} {v : V} {t : Th} {vs : List V} {ts : List Th} (h : IsT H v t) (r : IsTs H vs ts) : IsTs H (v :: vs) (t :: ts)
end
mutual
theorem IsT.up {H H' : Hp} (e : Ex H H') : ∀ {v : V} {t : Th}, IsT H v t → IsT H' v t
  | _, _, .int i => .int i
  | _, _, .bl b => .bl b
  | _, _, .non => .non
  | _, _, .str z => .str z
  | _, _, .lst h => .lst (e _ _ h)
  | _, _, .tup h a => .tup (e _ _ h) (IsTs.up e a)
theorem IsTs.up {H H' : Hp} (e : Ex H H') : ∀ {vs : List V} {ts : List Th}, IsTs H vs ts → IsTs H' vs ts
  | _, _, .nil => .nil
  | _, _, .cons h r => .cons (IsT.up e h) (IsTs.up e r)
end
theorem IsTs.len {H : Hp} : ∀ {vs : List V} {ts : List Th}, IsTs H vs ts → vs.length = ts.length
  | _, _, .nil => rfl
  | _, _, .cons _ r => congrArg (· + 1) r.len
theorem IsTs.at {H : Hp} : ∀ {vs : List V} {ts : List Th}, IsTs H vs ts → ∀ {i : Nat} {v : V}, vs[i]? = some v → ∃ t, ts[i]? = some t ∧ IsT H v t
  | _, _, .nil, i, v, h => by simp at h
  | _, _, .cons (t := t) h r, 0, v, e => by
    have e' : _ = v := Option.some.inj e
    subst e'
    exact ⟨t, rfl, h⟩
  | _, _, .cons h r, i + 1, v, e => r.at (i := i) e
def thTy : Th → String
  | .int _ => "int" | .bl _ => "bool" | .non => "NoneType" | .str _ => "str" | .lst => "list" | .tup _ => "tuple"
theorem IsT.ty {K : PySem.W.Frag} {H : Hp} {v : V} {t : Th} (h : IsT H v t) : Ty5 K H v (thTy t) := by
  cases h with
  | int i => exact .int i
  | bl b => exact .bl b
  | non => exact .non
  | str z => exact .str z
  | lst h => exact .lst h
  | tup h _ => exact .tup h
def thCnt : Th → Int → Int → Bool
  | .int i, lo, hi => decide (lo ≤ i) && decide (i ≤ hi)
  | _, _, _ => false
theorem IsT.cnt {H : Hp} {v : V} {t : Th} (h : IsT H v t) (lo hi : Int) : cnt v lo hi = thCnt t lo hi := by
  cases h <;> rfl
def thNums : Th → Bool
  | .tup ts => decide (1 ≤ ts.length) && decide (ts.length ≤ 64) && ts.all fun t => thCnt t 0 999
  | _ => false
/-- what stands first is a text or a whole number -/
def thHead : Th → Bool
  | .int _ => true | .str _ => true | _ => false
def thRule : Th → Bool
  | .tup [.str z, t] => decide (z = ("told" : Str)) && thNums t
  | .tup [.str z, a, b] => if z = ("times" : Str) then thCnt a 0 999999 && thCnt b 0 999999 else if z = ("high" : Str) then thCnt a 0 999999 && thCnt b 1 30 else false
  | _ => false
/-- a tuple of two or three begins with a text or a number -/
def thOk : Th → Bool
  | .tup [h, _] => thHead h
  | .tup [h, _, _] => thHead h
  | _ => true
/-! ### rules -/
inductive Rl where
  | times (a b : Nat) | high (a b : Nat) | told (ns : List Nat)
def Rl.ok : Rl → Prop
  | .times a b => a ≤ 999999 ∧ b ≤ 999999
  | .high a b => a ≤ 999999 ∧ 1 ≤ b ∧ b ≤ 30
  | .told ns => 1 ≤ ns.length ∧ ns.length ≤ 64 ∧ ∀ n ∈ ns, n ≤ 999
def IsRl (H : Hp) (v : V) : Rl → Prop
  | .times a b => ∃ p, v = .ref p ∧ H p = some (.tup [.str "times", .int (a : Int), .int (b : Int)])
  | .high a b => ∃ p, v = .ref p ∧ H p = some (.tup [.str "high", .int (a : Int), .int (b : Int)])
  | .told ns => ∃ p q, v = .ref p ∧ H p = some (.tup [.str "told", .ref q]) ∧ H q = some (.tup (ns.map fun n : Nat => V.int (n : Int)))
theorem IsRl.up {H H' : Hp} (e : Ex H H') {v : V} : ∀ {r : Rl}, IsRl H v r → IsRl H' v r
  | .times _ _, ⟨p, h1, h2⟩ => ⟨p, h1, e _ _ h2⟩
  | .high _ _, ⟨p, h1, h2⟩ => ⟨p, h1, e _ _ h2⟩
  | .told _, ⟨p, q, h1, h2, h3⟩ => ⟨p, q, h1, e _ _ h2, e _ _ h3⟩
def Rl.th : Rl → Th
  | .times a b => .tup [.str "times", .int a, .int b]
  | .high a b => .tup [.str "high", .int a, .int b]
  | .told ns => .tup [.str "told", .tup (ns.map fun n : Nat => Th.int (n : Int))]
theorem isTs_nums {H : Hp} : ∀ ns : List Nat, IsTs H (ns.map fun n : Nat => V.int (n : Int)) (ns.map fun n : Nat => Th.int (n : Int))
  | [] => .nil
  | n :: ns => .cons (.int _) (isTs_nums ns)
theorem IsRl.th {H : Hp} {v : V} : ∀ {r : Rl}, IsRl H v r → IsT H v r.th
  | .times a b, ⟨p, h1, h2⟩ => by
    subst h1
    exact .tup h2 (.cons (.str _) (.cons (.int _) (.cons (.int _) .nil)))
  | .high a b, ⟨p, h1, h2⟩ => by
    subst h1
    exact .tup h2 (.cons (.str _) (.cons (.int _) (.cons (.int _) .nil)))
  | .told ns, ⟨p, q, h1, h2, h3⟩ => by
    subst h1
    exact .tup h2 (.cons (.str _) (.cons (.tup h3 (isTs_nums ns)) .nil))
theorem thCnt_nat {n lo hi : Nat} (h : lo ≤ n) (h2 : n ≤ hi) : thCnt (.int (n : Int)) (lo : Int) (hi : Int) = true := by
  simp only [thCnt, Bool.and_eq_true, decide_eq_true_eq]
  omega
theorem Rl.ok_th : ∀ {r : Rl}, r.ok → thRule r.th = true ∧ thOk r.th = true
  | .times a b, h => by
    refine ⟨?_, rfl⟩
    have h1 := thCnt_nat (lo := 0) (hi := 999999) (Nat.zero_le a) h.1
    have h2 := thCnt_nat (lo := 0) (hi := 999999) (Nat.zero_le b) h.2
    simp only [Rl.th, thRule, if_pos]
    rw [Bool.and_eq_true]
    exact ⟨h1, h2⟩
  | .high a b, h => by
    refine ⟨?_, rfl⟩
    have h1 := thCnt_nat (lo := 0) (hi := 999999) (Nat.zero_le a) h.1
    have h2 := thCnt_nat (lo := 1) (hi := 30) h.2.1 h.2.2
    simp only [Rl.th, thRule]
    rw [if_neg (by decide)]
    simp only [if_true, Bool.and_eq_true]
    exact ⟨h1, h2⟩
  | .told ns, h => by
    refine ⟨?_, rfl⟩
    simp only [Rl.th, thRule, thNums, List.length_map, Bool.and_eq_true, decide_eq_true_eq, List.all_map, true_and]
    refine ⟨⟨h.1, h.2.1⟩, List.all_eq_true.mpr fun n hn => ?_⟩
    exact thCnt_nat (lo := 0) (hi := 999) (Nat.zero_le n) (h.2.2 n hn)
/-- the home by a rule -/
def homeN : Rl → Nat → Nat → Nat
  | .times a b, key, size => (a * key + b) % size
  | .high a b, key, size => a * key % 2 ^ b * size / 2 ^ b
  | .told ns, key, size => ns.getD (key % ns.length) 0 % size
theorem homeN_lt {r : Rl} {key size : Nat} (h : 0 < size) : homeN r key size < size := by
  cases r with
  | times a b => exact Nat.mod_lt _ h
  | high a b =>
    have h2 : 0 < 2 ^ b := Nat.two_pow_pos b
    exact Nat.div_lt_of_lt_mul (by
      have := Nat.mod_lt (a * key) h2
      exact Nat.mul_lt_mul_of_pos_right this h)
  | told ns => exact Nat.mod_lt _ h
theorem isTs_rep {H : Hp} {i : Int} : ∀ n : Nat, IsTs H (List.replicate n (.int i)) (List.replicate n (.int i))
  | 0 => .nil
  | n + 1 => .cons (.int i) (isTs_rep n)
theorem pow_lt30 {b : Nat} (h : b ≤ 30) : 2 ^ b < 2 ^ 31 := Nat.pow_lt_pow_right (by decide) (by omega)
end Lg

/-! Ks: keys: sets of them, sorted lists, lists of lists compared. -/
namespace Lg
open PySem PySem.Spec PyProof.Rows L2
/-! ### len(set(xs)) -/
theorem met_lt {val : Nat → Int} {j : Nat} (h : (firstMet val j).any (· == val j) = true) : ∀ i, j < i → (firstMet val i).length < i
  | 0, hi => absurd hi (Nat.not_lt_zero _)
  | i + 1, hi => by
    rw [firstMet_succ]
    by_cases e : j = i
    · subst e
      unfold step_dedup
      rw [if_pos h]
      exact Nat.lt_succ_of_le (firstMet_length_le val j)
    · have ih := met_lt h i (by omega)
      unfold step_dedup
      split
      · omega
      · rw [List.length_append, List.length_singleton]
        omega
theorem dup_at {ns : List Int} (h : ¬ ns.Nodup) : ∃ j, ∃ hj : j < ns.length, ns[j] ∈ ns.take j := by
  by_cases q : ∃ j, ∃ hj : j < ns.length, ns[j] ∈ ns.take j
  · exact q
  · refine absurd (List.pairwise_iff_getElem.mpr fun i j hi hj hij e => q ⟨j, hj, ?_⟩) h
    rw [← e]
    exact List.mem_iff_getElem.mpr ⟨i, by rw [List.length_take]; omega, by rw [List.getElem_take]⟩
theorem met_dup {ns : List Int} (h : ¬ ns.Nodup) : (firstMet (fun i => ns.getD i 0) ns.length).length < ns.length := by
  obtain ⟨j, hj, hm⟩ := dup_at h
  refine met_lt (j := j) ?_ _ hj
  rw [firstMet_any]
  refine List.any_eq_true.mpr ⟨ns[j], ?_, ?_⟩
  · obtain ⟨i, hi, e⟩ := List.mem_iff_getElem.mp hm
    rw [List.length_take] at hi
    rw [List.getElem_take] at e
    refine List.mem_map.mpr ⟨i, List.mem_range.mpr (by omega), ?_⟩
    rw [← e]
    show ns.getD i 0 = _
    rw [List.getD_eq_getElem?_getD, List.getElem?_eq_getElem (by omega)]
    rfl
  · show (ns[j] == ns.getD j 0) = true
    rw [List.getD_eq_getElem?_getD, List.getElem?_eq_getElem hj]
    exact beq_self_eq_true _
def tLenSet (K : PySem.W.Frag) (ta : TE) : TE := fun σ H Q => ta σ H fun x H1 => ∃ (l : Addr) (ns : List Int), x = .ref l ∧ SqL K H1 l (ns.map V.int) ∧ ns.length ≤ 4000 ∧ ∀ m : Nat, (ns.Nodup → m = ns.length) → (¬ ns.Nodup → m < ns.length) → Q (.int (m : Int)) H1
theorem pe_lenSetG {X : Cx} {a : Expr} {ta : TE} {p p2 q pos : Pos} (hg : Gl X "len") (hg2 : Gl X "set") (hm : X.mg "len" = none) (hm2 : X.mg "set" = none) (ha : PE X a ta) (hc : X.calm = true := by rfl)
    (na : starEach [a] X.env = (false, eval a X.env) :: starEach [] X.env := by rfl) : PE X (.Call (.Name "len" p) [.Call (.Name "set" p2) [a] [] q] [] pos) (tLenSet X.K ta) := by
  refine ⟨fun pins s σ H Q I h => ?_⟩
  refine Call_ (ld_blt I hg hm boot_len ?_)
  refine PyProof.Rows.callWith_builtin1 (PyProof.Rows.args_cons ?_ rfl) rfl rfl
  refine Call_ (ld_blt I hg2 hm2 boot_set ?_)
  refine PyProof.Rows.callWith_type1 (PyProof.Rows.args_cons (thn (ha.run pins s σ H _ I h) fun v s1 ⟨x, H1, I1, r1, q1⟩ => PyProof.Rows.args_nil ?_) na) na rfl
  obtain ⟨l, ns, rfl, hq, hl, q1⟩ := q1
  cases r1
  obtain ⟨its, r, pl, hz⟩ := I1.list hq
  have hlen : its.toArray.size = ns.length := by rw [List.size_toArray, ← r.length, List.length_map]
  refine call_set_list (I1.ok.hd hc) pl.isList (by simpa using RZ.intsAre_vals r) (by rw [hlen]; unfold scanBound; omega) fun h' tk hS hk => ?_
  refine PyProof.Rows.args_nil ?_
  have h1 : ns.Nodup → (firstMet (fun i => ns.getD i 0) ns.length).length = ns.length := fun hnd => by rw [RZ.firstMet_nodup hnd ns.length (Nat.le_refl _), List.take_length]
  have h2 : ¬ ns.Nodup → (firstMet (fun i => ns.getD i 0) ns.length).length < ns.length := fun h => met_dup h
  have h3 := firstMet_length_le (fun i => ns.getD i 0) ns.length
  rw [hlen] at hS
  generalize firstMet (fun i => ns.getD i 0) ns.length = ms at *
  obtain ⟨o, es, ep, t, ho, hex, hd, _, _, _, hf, hn⟩ := hS
  have I2 : Inv X pins σ H1 { s1 with heap := h', toks := tk } := I1.kept fun b o e => hk b o (Heap.lt_size e) e
  exact call_len_set ho hex hd hf (by rw [hn] <;> omega) ⟨.int ms.length, H1, I2.tok _, ⟨_, by rw [hn]⟩, q1 ms.length h1 h2⟩
variable {K : PySem.W.Frag} {σ : Sg} {H H' : Hp} {ta te : TE} {Q : PV}
theorem e_lenSet (k : kE ta σ H fun x H1 => ∃ (l : Addr) (ns : List Int), x = .ref l ∧ SqL K H1 l (ns.map V.int) ∧ ns.length ≤ 4000 ∧ ∀ m : Nat, (ns.Nodup → m = ns.length) → (¬ ns.Nodup → m < ns.length) → Q (.int (m : Int)) H1) : kE (tLenSet K ta) σ H Q := fun H1 e _ q =>
  k H1 e _ fun x H0 H2 ⟨l, ns, ex, hs, hl, hk⟩ e2 => ⟨l, ns, ex, e2.sl hs, hl, fun m h1 h2 => q _ _ _ (hk m h1 h2) e2⟩
/-! ### lists of lists -/
theorem eqv_lls : ∀ xs ys : List (List Int), PyData.eqv (.list (xs.map fun b => PyData.list (b.map PyData.int))) (.list (ys.map fun b => PyData.list (b.map PyData.int))) = decide (xs = ys)
  | [], [] => by simp [PyData.eqv, PyData.eqvAll]
  | [], _ :: _ => by simp [PyData.eqv, PyData.eqvAll]
  | _ :: _, [] => by simp [PyData.eqv, PyData.eqvAll]
  | a :: r, b :: t => by
    have ih := eqv_lls r t
    have ia := eqv_ints a b
    rw [List.map_cons, List.map_cons]
    rw [show PyData.eqv (.list (PyData.list (a.map PyData.int) :: r.map fun b => PyData.list (b.map PyData.int))) (.list (PyData.list (b.map PyData.int) :: t.map fun b => PyData.list (b.map PyData.int))) = (PyData.eqv (.list (a.map PyData.int)) (.list (b.map PyData.int)) && PyData.eqv (.list (r.map fun b => PyData.list (b.map PyData.int))) (.list (t.map fun b => PyData.list (b.map PyData.int)))) from by simp only [PyData.eqv, PyData.eqvAll]]
    rw [ih, ia]
    by_cases h : a = b <;> by_cases h' : r = t <;> simp [h, h']
theorem lay_ints (b : List Int) : (PyData.list (b.map PyData.int)).canLay0 = true ∧ (PyData.list (b.map PyData.int)).depth ≤ 50 := by
  have h := PySem.W.ke_shaped_ints b
  unfold SeqAt.shaped at h
  rw [Bool.and_eq_true] at h
  refine ⟨h.1, ?_⟩
  simp [PyData.depth, PySem.W.ke_depthAll]
theorem shaped_lls (xs : List (List Int)) : SeqAt.shaped (.list (xs.map fun b => PyData.list (b.map PyData.int))) = true := shaped_list fun d hd => by
  obtain ⟨b, _, rfl⟩ := List.mem_map.mp hd
  exact lay_ints b
/-- a list of lists of whole numbers stands at p -/
inductive LLs (H : Hp) : List Addr → List (List Int) → Prop where
  | nil : LLs H [] []
  | cons {a : Addr} {ps : List Addr} {b : List Int} {xs : List (List Int)} (h : H a = some (.lst (b.map V.int))) (r : LLs H ps xs) : LLs H (a :: ps) (b :: xs)
theorem LLs.up (e : Ex H H') : ∀ {ps : List Addr} {xs : List (List Int)}, LLs H ps xs → LLs H' ps xs
  | _, _, .nil => .nil
  | _, _, .cons h r => .cons (e _ _ h) (r.up e)
theorem LLs.dp : ∀ {ps : List Addr} {xs : List (List Int)}, LLs H ps xs → DpAll K H (ps.map V.ref) (xs.map fun b => PyData.list (b.map PyData.int))
  | _, _, .nil => .nil
  | _, _, .cons h r => .cons (.lst (SqL.of h) (dp_ints _)) r.dp
theorem LLs.of {ps : List Addr} {xs : List (List Int)} (hl : ps.length = xs.length) (h : ∀ i (hi : i < xs.length), H (ps[i]'(by omega)) = some (.lst (xs[i].map V.int))) : LLs H ps xs := by
  induction xs generalizing ps with
  | nil =>
    cases ps with
    | nil => exact .nil
    | cons a ps => simp at hl
  | cons b xs ih =>
    cases ps with
    | nil => simp at hl
    | cons a ps => exact .cons (h 0 (by simp)) (ih (by simpa using hl) fun i hi => h (i + 1) (by simpa using hi))
theorem LLs.len : ∀ {ps : List Addr} {xs : List (List Int)}, LLs H ps xs → ps.length = xs.length
  | _, _, .nil => rfl
  | _, _, .cons _ r => congrArg (· + 1) r.len
theorem LLs.at : ∀ {ps : List Addr} {xs : List (List Int)}, LLs H ps xs → ∀ i (hi : i < ps.length) (hx : i < xs.length), H ps[i] = some (.lst (xs[i].map V.int))
  | _, _, .cons h _, 0, _, _ => h
  | _, _, .cons _ r, i + 1, hi, hx => r.at i (by simpa using hi) (by simpa using hx)
theorem r_neLL {p q : Addr} {ps qs : List Addr} {xs ys : List (List Int)} (h1 : SqL K H p (ps.map V.ref)) (l1 : LLs H ps xs) (h2 : SqL K H q (qs.map V.ref)) (l2 : LLs H qs ys) (k : Q (.bl (!decide (xs = ys))) H) : kR (rNeD K) (.ref p) (.ref q) H Q :=
  r_neD (.lst h1 l1.dp) (.lst h2 l2.dp) (shaped_lls xs) (shaped_lls ys) (eqv_lls xs ys) k
/-! ### lists by places -/
theorem filterMap_idx {α β : Type} {xs : List α} {g : α → Option β} : ∀ n, n ≤ xs.length → (List.range n).filterMap (fun i => (xs[i]?).bind g) = (xs.take n).filterMap g
  | 0, _ => by simp
  | n + 1, h => by
    have hn : n < xs.length := h
    rw [List.range_succ, List.filterMap_append, filterMap_idx n (Nat.le_of_lt h), List.take_succ, List.getElem?_eq_getElem hn, List.filterMap_append]
    simp [List.filterMap_cons, hn]
/-- one order is sorted -/
theorem sorted_one : ∀ {xs ys : List Int}, xs.Perm ys → xs.Pairwise (· ≤ ·) → ys.Pairwise (· ≤ ·) → xs = ys
  | xs, ys, h, h1, h2 => List.Perm.eq_of_pairwise (le := (· ≤ ·)) (fun a b _ _ hab hba => Int.le_antisymm hab hba) h1 h2 h
/-! ### a place that is not told -/
theorem nodup_le {α : Type} [DecidableEq α] : ∀ {l m : List α}, l.Nodup → (∀ x ∈ l, x ∈ m) → l.length ≤ m.length
  | [], _, _, _ => Nat.zero_le _
  | a :: l, m, hn, hs => by
    have ha : a ∈ m := hs a List.mem_cons_self
    obtain ⟨h1, h2⟩ := List.nodup_cons.mp hn
    have := nodup_le (l := l) (m := m.erase a) h2 fun x hx => (List.mem_erase_of_ne (fun e => h1 (by rw [← e]; exact hx))).mpr (hs x (List.mem_cons_of_mem _ hx))
    rw [List.length_erase_of_mem ha] at this
    have hp := List.length_pos_of_mem ha
    simp only [List.length_cons]
    omega
theorem free_at (found : List Nat) (key M : Nat) (h : found.length < M) : ∃ d, d ≤ found.length ∧ (key + d) % M ∉ found := by
  by_cases q : ∃ d, d ≤ found.length ∧ (key + d) % M ∉ found
  · exact q
  · have hs : ∀ x ∈ (List.range (found.length + 1)).map fun d => (key + d) % M, x ∈ found := fun x hx => by
      obtain ⟨d, hd, rfl⟩ := List.mem_map.mp hx
      by_cases z : (key + d) % M ∈ found
      · exact z
      · exact absurd ⟨d, by have := List.mem_range.mp hd; omega, z⟩ q
    have hn : ((List.range (found.length + 1)).map fun d => (key + d) % M).Nodup := by
      refine List.pairwise_map.mpr (List.Pairwise.imp_of_mem ?_ (List.nodup_range (n := found.length + 1)))
      intro a b ha hb hab e
      have h1 := List.mem_range.mp ha
      have h2 := List.mem_range.mp hb
      apply hab
      have e1 := Nat.div_add_mod (key + a) M
      have e2 := Nat.div_add_mod (key + b) M
      rcases Nat.lt_trichotomy ((key + a) / M) ((key + b) / M) with z | z | z
      · have : M * ((key + a) / M + 1) ≤ M * ((key + b) / M) := Nat.mul_le_mul_left _ z
        rw [Nat.mul_add] at this
        omega
      · rw [z] at e1
        omega
      · have : M * ((key + b) / M + 1) ≤ M * ((key + a) / M) := Nat.mul_le_mul_left _ z
        rw [Nat.mul_add] at this
        omega
    have := nodup_le hn hs
    rw [List.length_map, List.length_range] at this
    omega
theorem inV_ints {k : Nat} {ns : List Nat} : inV (.int (k : Int)) (ns.map fun n : Nat => V.int (n : Int)) = decide (k ∈ ns) := by
  rw [Bool.eq_iff_iff]
  simp only [inV, List.any_map, List.any_eq_true, Function.comp, decide_eq_true_eq, eqV]
  constructor
  · rintro ⟨x, hx, e⟩
    have : (x : Int) = k := by simpa using e
    have : x = k := by omega
    exact this ▸ hx
  · intro h
    exact ⟨k, h, by simp⟩
theorem LLs.snoc {a : Addr} {b : List Int} (h : H a = some (.lst (b.map V.int))) : ∀ {ps : List Addr} {xs : List (List Int)}, LLs H ps xs → LLs H (ps ++ [a]) (xs ++ [b])
  | _, _, .nil => .cons h .nil
  | _, _, .cons h' r => .cons h' (r.snoc h)
theorem LLs.upd_ne {D : Addr} {o : HO} : ∀ {ps : List Addr} {xs : List (List Int)}, LLs H ps xs → (∀ q ∈ ps, q ≠ D) → LLs (upd H D o) ps xs
  | _, _, .nil, _ => .nil
  | _, _, .cons h r, hn => .cons (by rw [L2.upd_ne (hn _ List.mem_cons_self)]; exact h) (r.upd_ne fun q hq => hn q (List.mem_cons_of_mem _ hq))
theorem filterMap_if {P : Int → Bool} : ∀ {ms : List Int}, ms.filterMap (fun k => if P k = true then some (V.int k) else none) = (ms.filter P).map V.int
  | [] => rfl
  | k :: ms => by
    rw [List.filterMap_cons, List.filter_cons]
    cases h : P k with
    | true => simp only [if_true, List.map_cons, filterMap_if]
    | false => simp only [Bool.false_eq_true, if_false, filterMap_if]
end Lg

namespace Lg
open PySem PySem.Spec PyProof.Rows L2 L2H LgH
local macro_rules | `(tactic| k_memK) => `(tactic| first
  | with_reducible assumption
  | with_reducible exact SqT.of upd_same
  | with_reducible exact SqL.of upd_same
  | with_reducible exact upd_same
  | ((with_reducible refine' st_new ?k1 ?k2); (case k1 => with_reducible assumption); (case k2 => k_memK))
  | ((with_reducible refine' sl_new ?k1 ?k2); (case k1 => with_reducible assumption); (case k2 => k_memK))
  | ((with_reducible refine' at_new ?k1 ?k2); (case k1 => with_reducible assumption); (case k2 => k_memK))
  | (with_reducible refine' SqT.of ?k1); (case k1 => k_memK)
  | ((with_reducible refine' SqL.of ?k1); (case k1 => k_memK))
  | ((with_reducible refine' Ex.get ?k1 ?k2); (case k2 => with_reducible assumption); (case k1 => k_offL))
  | ((with_reducible refine' Ex.sl ?k1 ?k2); (case k2 => with_reducible assumption); (case k1 => k_offL))
  | ((with_reducible refine' Ex.st ?k1 ?k2); (case k2 => with_reducible assumption); (case k1 => k_offL)))
local macro_rules | `(tactic| k_allIn) => `(tactic| first | with_reducible assumption | with_reducible exact mulxR (by decide) (by decide) | with_reducible exact cdivL (by decide) (by decide) | with_reducible exact cdivL (by omega) (by omega) | with_reducible exact mulxL (by decide) (by decide) | with_reducible exact mulxR (by omega) (by omega) | with_reducible exact mulxL (by omega) (by omega) | omega | decide)
local macro_rules | `(tactic| k_ownIn) => `(tactic| first
  | with_reducible exact Ty5.int _ | with_reducible exact Ty5.bl _ | with_reducible exact Ty5.non | with_reducible exact Ty5.str _ | with_reducible assumption
  | ((with_reducible refine' Ty5.lst (xs := ?k2) ?k1); (case k1 => k_memK)) | ((with_reducible refine' Ty5.tup (xs := ?k2) ?k1); (case k1 => k_memK))
  | ((with_reducible refine' Ty5.up (IsT.ty ?k1) ?k2); (case k1 => with_reducible assumption); (case k2 => k_offL))
  | ((with_reducible refine' Ty5.up ?k1 ?k2); (case k1 => with_reducible assumption); (case k2 => k_offL))
  | with_reducible exact IsT.int _ | with_reducible exact IsT.bl _ | with_reducible exact IsT.non | with_reducible exact IsT.str _
  | ((with_reducible refine' IsT.up ?k2 ?k1); (case k1 => with_reducible assumption); (case k2 => k_offL))
  | ((with_reducible refine' IsT.up ?k2 (IsRl.th ?k1)); (case k1 => with_reducible assumption); (case k2 => k_offL))
  | ((with_reducible refine' IsRl.up ?k2 ?k1); (case k1 => with_reducible assumption); (case k2 => k_offL))
  | with_reducible exact IsTs.nil | with_reducible exact isTs_rep _
  | ((with_reducible refine' IsTs.cons ?k1 ?k2); (case k1 => k_ownIn); (case k2 => k_ownIn))
  | ((with_reducible refine' IsT.lst (vs := ?k2) ?k1); (case k1 => k_memK))
  | ((with_reducible refine' IsT.tup (vs := ?k2) ?k1 ?k3); (case k1 => k_memK); (case k3 => k_ownIn)))
local macro_rules | `(tactic| k_places) => `(tactic| first
  | ((with_reducible refine' e_var ?k1 ?_); (case k1 => rfl))
  | (with_reducible refine' e_c ?_)
  | (with_reducible refine' e_op ?_)
  | (with_reducible refine' a_cons ?_)
  | (with_reducible refine' a_nil ?_)
  | (with_reducible refine' r_I0 ?_)
  | (with_reducible refine' s_seq ?_)
  | (with_reducible refine' s_asg ?_)
  | (with_reducible refine' t_test ?_)
  | (with_reducible refine' t_not ?_)
  | (with_reducible refine' t_B ?_)
  | (with_reducible refine ⟨_, rfl, ?_⟩)
  | (with_reducible refine' r_eqI ?_)
  | (with_reducible refine' r_neI ?_)
  | (with_reducible refine' e_call ?_)
  | (with_reducible refine' e_cb ?_)
  | (with_reducible refine' s_if ?_)
  | (with_reducible refine' s_ret ?_)
  | (with_reducible refine' r_p16 ?_) | (with_reducible refine' r_p20 ?_) | (with_reducible refine' r_p24 ?_) | (with_reducible refine' r_p30 ?_) | (with_reducible refine' r_p40 ?_) | (with_reducible refine' r_p46 ?_) | (with_reducible refine' r_p50 ?_)
  | (with_reducible refine' s_next ?_)
  | ((with_reducible refine' r_I ?k1 ?_); (case k1 => k_allIn))
  | (refine ⟨fun h => Bool.noConfusion h, fun _ => ?_⟩)
  | (refine ⟨fun _ => ?_, fun h => Bool.noConfusion h⟩)
  | ((with_reducible refine' r_ixT ?k1 ?k2 ?_); (case k1 => k_memK); (case k2 => rfl))
  | ((with_reducible refine' r_ixL ?k1 ?k2 ?_); (case k1 => k_memK); (case k2 => rfl))
  | ((with_reducible refine' r_eq ?k1 ?_); (case k1 => rfl))
  | ((with_reducible refine' r_ne ?k1 ?_); (case k1 => rfl))
  | (with_reducible refine' e_un ?_) | (with_reducible refine' u_U ?_)
  | (with_reducible refine' e_tup ?_) | (with_reducible refine' e_lst ?_)
  | (with_reducible refine' ⟨szl (Nat.le_of_ble_eq_true rfl), fun _ _ => ?_⟩)
  | (with_reducible refine' e_if ?_) | (with_reducible refine' e_andV ?_) | (with_reducible refine' e_orV ?_) | (with_reducible refine' e_notV ?_) | (with_reducible refine' e_chain ?_)
  | (with_reducible refine' t_and ?_) | (with_reducible refine' t_or ?_)
  | (with_reducible refine' s_drop ?_) | (with_reducible refine' s_brk ?_) | (with_reducible refine' s_cont ?_) | (with_reducible refine' s_par ?_)
  | (with_reducible refine ⟨_, _, rfl, ?_⟩)
  | (with_reducible refine' c_abs ?_) | (with_reducible refine' c_max2 ?_) | (with_reducible refine' c_min2 ?_)
  | ((with_reducible refine' c_lenL ?k1 ?_); (case k1 => k_memK)) | ((with_reducible refine' c_lenT ?k1 ?_); (case k1 => k_memK))
  | ((with_reducible refine' r_cat ?k1 ?k2 ?k3 (fun _ _ => ?_)); (case k1 => k_memK); (case k2 => k_memK); (case k3 => with_reducible exact szl (Nat.le_of_ble_eq_true rfl)))
  | (with_reducible refine' e_bm ?_)
  | ((with_reducible refine ⟨_, ?k0, rfl, ?k1, ?_⟩); (case k1 => k_memK))
  | ((with_reducible refine' m_append ?k1 ?k2 ?_); (case k1 => k_memK); (case k2 => first | with_reducible exact Nat.le_of_ble_eq_true rfl | omega))
  | (with_reducible refine' c_int1 ?_) | (with_reducible refine' c_intB ?_)
  | ((with_reducible refine' c_listL ?k1 (fun _ _ => ?_)); (case k1 => k_memK)) | ((with_reducible refine' c_tupL ?k1 (fun _ _ => ?_)); (case k1 => k_memK))
  | ((with_reducible refine' r_inT ?k1 ?k2 ?k3 ?_); (case k1 => k_memK); (case k2 => rfl); (case k3 => rfl)) | ((with_reducible refine' r_ninT ?k1 ?k2 ?k3 ?_); (case k1 => k_memK); (case k2 => rfl); (case k3 => rfl))
  | (with_reducible refine' s_retN ?_)
  | (with_reducible refine' t_yes ?_)
  | (with_reducible refine' i_rng1 ?_) | (with_reducible refine' i_rng2 ?_) | (with_reducible refine' i_list ?_) | (with_reducible refine' i_tup ?_) | (with_reducible refine' i_enum ?_) | (with_reducible refine' i_zip ?_)
  | ((with_reducible refine' c_isi ?k1 ?k2 ?_); (case k1 => k_ownIn); (case k2 => first | with_reducible exact kb_int_int | with_reducible exact kb_int_bool | with_reducible exact kb_int_tuple | with_reducible exact kb_int_list | with_reducible exact kb_bool_int | with_reducible exact kb_bool_bool | with_reducible exact kb_bool_tuple | with_reducible exact kb_bool_list | with_reducible exact kb_NoneType_int | with_reducible exact kb_NoneType_bool | with_reducible exact kb_NoneType_tuple | with_reducible exact kb_NoneType_list | with_reducible exact kb_str_int | with_reducible exact kb_str_bool | with_reducible exact kb_str_tuple | with_reducible exact kb_str_list | with_reducible exact kb_list_int | with_reducible exact kb_list_bool | with_reducible exact kb_list_tuple | with_reducible exact kb_list_list | with_reducible exact kb_tuple_int | with_reducible exact kb_tuple_bool | with_reducible exact kb_tuple_tuple | with_reducible exact kb_tuple_list))
  | (with_reducible refine' s_asgG ?_) | (with_reducible refine' g_name ?_) | (with_reducible refine' g_cons ?_) | (with_reducible refine' g_nil ?_)
  | ((with_reducible refine' g_tup ?k1 ?k2 ?_); (case k1 => k_memK); (case k2 => rfl))
  | (with_reducible refine' s_asgG ?_))
local macro_rules | `(tactic| k_clsL) => `(tactic| repeat k_places)
local macro_rules | `(tactic| k_offL) => `(tactic| first
  | with_reducible assumption | with_reducible exact Ex.rf
  | ((with_reducible refine' Ex.newr ?k1 ?k2); (case k2 => with_reducible assumption); (case k1 => k_offL))
  | ((with_reducible refine' Ex.mutr ?k1 ?k2); (case k2 => k_offL); (case k1 => k_offL))
  | ((with_reducible refine' Ex.tr ?k1 ?k2); (case k1 => with_reducible assumption); (case k2 => k_offL))
  | ((with_reducible refine' Ex.fresh ?k1 ?k2); (case k2 => with_reducible assumption); (case k1 => k_offL)))
def topS (i : Nat) : Stmt := PySem.Challenge.pw_strewn_k50_chains.main.body.getD i (.Pass ⟨0, 0, 0, 0⟩)
abbrev s__law_cell : Stmt := topS 26
abbrev s__law_drawn : Stmt := topS 27
abbrev s__law_rule : Stmt := topS 29
abbrev s__law_keys : Stmt := topS 31
abbrev s__law_home : Stmt := topS 30
abbrev s__law_word : Stmt := topS 28
abbrev s_is_count : Stmt := topS 14
abbrev s_is_numbers : Stmt := topS 15
abbrev s_is_rule : Stmt := topS 16
abbrev s_need_rule : Stmt := topS 17
abbrev s_need_size : Stmt := topS 19
abbrev s_need_key : Stmt := topS 18
abbrev s_need_keys : Stmt := topS 22
abbrev s_home_of : Stmt := topS 20
abbrev s_chains : Stmt := topS 24
abbrev s__law_told : Stmt := topS 32
abbrev s_law : Stmt := topS 33
theorem sc__law_cell : FnScope ["_law_script", "_law_k"] ["_law_script", "_law_k"] (defScope s__law_cell) := ⟨rfl, rfl, rfl, by decide +kernel, rfl, by decide +kernel, by decide +kernel⟩
theorem sc__law_cell_v0 : (defScope s__law_cell).names.lookup ("_law_script" : Str) = some .local := by decide +kernel
theorem sc__law_cell_v1 : (defScope s__law_cell).names.lookup ("_law_k" : Str) = some .local := by decide +kernel
def t__law_cell (K : PySem.W.Frag) (cs : Cs) (E : XK) : TS :=
  (tSeq (tIfS (tTest (tOp (rEqD K) (tVar 0) (tLst tNil)))
  (tRet (tOp (rI IntMulOk fun i j => .int (i * j)) (tVar 1) (tC (.int 7919))))
  tNext)
  (tRet (tOp (rI0 fun i j => .int (i + j)) (tOp (rIxL K) (tVar 0) (tOp (rI (fun _ j => 0 < j) fun i j => .int (i % j)) (tVar 1) (tCB (fun xs H Q => ∃ p ys, xs = [V.ref p] ∧ (SqL K H p ys ∨ SqT K H p ys) ∧ Q (.int ys.length) H) (tCons (tVar 0) tNil)))) (tOp (rI IntMulOk fun i j => .int (i * j)) (tOp (rI CDivW fun i j => .int (i / j)) (tVar 1) (tCB (fun xs H Q => ∃ p ys, xs = [V.ref p] ∧ (SqL K H p ys ∨ SqT K H p ys) ∧ Q (.int ys.length) H) (tCons (tVar 0) tNil))) (tC (.int 104729))))))
def sp__law_cell (K : PySem.W.Frag) (_ : Cs) : Sp := fun vs H Q _ => ∃ (a : Addr) (ns : List Int) (k : Nat), vs = [.ref a, .int k] ∧ SqL K H a (ns.map V.int) ∧ ns.length ≤ 63 ∧ k < 1000 ∧ ∀ z : Int, upR Q (.int z) H
theorem c__law_cell {K : PySem.W.Frag} {cs : Cs} {H : Hp} {a : Addr} {ns : List Int} {k : Nat} {Q : PV} {E : XK} (h : SqL K H a (ns.map V.int)) (hl : ns.length ≤ 63) (hk : k < 1000) (q : ∀ z : Int, Q (.int z) H) : kC (fun ws H Q => sp__law_cell K cs ws H Q E) [.ref a, .int k] H Q :=
  fun H1 e _ qq => ⟨a, ns, k, rfl, e.sl h, hl, hk, fun z H2 e2 => qq _ _ _ (q z) (e.tr e2)⟩
local macro_rules | `(tactic| k_places) => `(tactic| ((with_reducible refine' c__law_cell ?k1 ?k2 ?k3 (fun _ => ?_)); (case k1 => k_memK); (case k2 => with_reducible assumption); (case k3 => omega)))
theorem pure__law_cell {K : PySem.W.Frag} {cs : Cs} {H : Hp} {vs : List V} {Q : VK} {E : XK} (h : sp__law_cell K cs vs H Q E) : t__law_cell K cs E { nx := fun _ H' => Q .non H', rt := Q } (start ["_law_script", "_law_k"] vs) H := by
  obtain ⟨a, ns, k, rfl, h, hl, hk, q⟩ := h
  refine fin (σ := [some (.ref a), some (.int k)]) ?_
  unfold t__law_cell
  k_clsL
  refine r_eqIs (ms := []) (by k_memK) (by k_memK) ?_
  k_clsL
  refine dec2 (fun h1 => ?_) (fun h1 => ?_)
  · k_clsL
    exact upX (q _) (by k_offL)
  · have h0 : 0 < ns.length := List.length_pos_iff.mpr h1
    have hn : (0 : Int) < (((ns.map V.int).length : Nat) : Int) := by rw [List.length_map]; omega
    have hd : CDivW (k : Int) (((ns.map V.int).length : Nat) : Int) := cdivL hn (by rw [List.length_map]; omega)
    have hi : k % (ns.map V.int).length < ns.length := by rw [List.length_map]; exact Nat.mod_lt _ h0
    k_clsL
    refine r_ixL (v := .int (ns[k % (ns.map V.int).length])) (by k_memK) (atI_mod (by rw [List.getElem?_map, List.getElem?_eq_getElem hi]; rfl)) ?_
    k_clsL
    exact upX (q _) (by k_offL)
theorem ok__law_cell {P : Program} {w : World} {K : PySem.W.Frag} {mg : Str → Option Value} {base : Heap} {cs : Cs} (D__law_cell : Dn K mg "_law_cell" s__law_cell ["_law_script", "_law_k"]) (m_len : mg "len" = none) :
    Cal P w K mg base (L2N.CX P w) 1 "_law_cell" ["_law_script", "_law_k"] (sp__law_cell K cs) := by
  refine cal_mk D__law_cell sc__law_cell (fun vs H Q E h => ?_) fun f cdv A outer s H vs Q E hr h => ⟨t__law_cell K cs E, ?_, pure__law_cell h⟩
  · unfold sp__law_cell at h
    first | (obtain ⟨rfl, _⟩ := h; rfl) | (obtain ⟨_, rfl, _⟩ := h; rfl) | (obtain ⟨_, _, rfl, _⟩ := h; rfl) | (obtain ⟨_, _, _, rfl, _⟩ := h; rfl) | (obtain ⟨_, _, _, _, rfl, _⟩ := h; rfl) | (obtain ⟨_, _, _, _, _, rfl, _⟩ := h; rfl) | (obtain ⟨_, _, _, _, _, _, rfl, _⟩ := h; rfl) | (obtain ⟨_, _, _, _, _, _, _, rfl, _⟩ := h; rfl) | (obtain ⟨_, _, _, _, _, _, _, _, rfl, _⟩ := h; rfl) | (obtain ⟨_, _, _, _, _, _, _, _, _, rfl, _⟩ := h; rfl) | (obtain ⟨_, _, _, _, _, _, _, _, _, _, rfl, _⟩ := h; rfl) | (obtain ⟨_, _, _, _, _, _, _, _, _, _, _, rfl, _⟩ := h; rfl) | (obtain ⟨_, _, _, _, _, _, _, _, _, _, _, _, rfl, _⟩ := h; rfl) | (obtain ⟨_, _, _, _, _, _, _, _, _, _, _, _, _, rfl, _⟩ := h; rfl) | (obtain ⟨_, _, _, _, _, _, _, _, _, _, _, _, _, _, rfl, _⟩ := h; rfl) | (obtain ⟨_, _, _, _, _, _, _, _, _, _, _, _, _, _, _, rfl, _⟩ := h; rfl)
  · exact (pss_cons (ps_if (pt_cmpR (op_eqD hr.units) (pv 0) (pe_lst pa_nil) (nomark _))
      (pss_one (ps_ret (pe_op op_mulX (pv 1) pe_int)))
      pss_nil)
      (pss_one (ps_ret (pe_op op_add (pe_ix ix_list (pv 0) (pe_op op_mod (pv 1) (pe_callB call_len_seq (by rfl) m_len (by decide +kernel) (pa_cons (pv 0) pa_nil))) (fun _ _ => rfl)) (pe_op op_mulX (pe_op op_fdivW (pv 1) (pe_callB call_len_seq (by rfl) m_len (by decide +kernel) (pa_cons (pv 0) pa_nil))) pe_int)))))
theorem sc__law_drawn : FnScope ["_law_cell_here", "_law_k", "_law_more"] ["_law_cell_here", "_law_k"] (defScope s__law_drawn) := ⟨rfl, rfl, rfl, by decide +kernel, rfl, by decide +kernel, by decide +kernel⟩
theorem sc__law_drawn_v0 : (defScope s__law_drawn).names.lookup ("_law_cell_here" : Str) = some .local := by decide +kernel
theorem sc__law_drawn_v1 : (defScope s__law_drawn).names.lookup ("_law_k" : Str) = some .local := by decide +kernel
theorem sc__law_drawn_v2 : (defScope s__law_drawn).names.lookup ("_law_more" : Str) = some .local := by decide +kernel
def t__law_drawn (K : PySem.W.Frag) (cs : Cs) (E : XK) : TS :=
  (tSeq (tAsg (tOp (rI (fun _ j => 0 < j) fun i j => .int (i % j)) (tOp (rI0 fun i j => .int (i + j)) (tOp (rI IntMulOk fun i j => .int (i * j)) (tVar 0) (tC (.int 6364136223846793005))) (tOp (rI IntMulOk fun i j => .int (i * j)) (tOp (rI0 fun i j => .int (i + j)) (tVar 1) (tC (.int 1))) (tC (.int 1442695040888963407)))) (tC (.int 340282366920938463463374607431768211507))) (gName 2))
  (tRet (tOp (rI (fun _ j => 0 < j) fun i j => .int (i % j)) (tOp (rI IntMulOk fun i j => .int (i * j)) (tVar 2) (tVar 2)) (tC (.int 340282366920938463463374607431768211297)))))
def sp__law_drawn (K : PySem.W.Frag) (_ : Cs) : Sp := fun vs H Q _ => ∃ (c k : Int), vs = [.int c, .int k] ∧ ∀ r : Nat, r < 2 ^ 128 → upR Q (.int (r : Int)) H
theorem c__law_drawn {K : PySem.W.Frag} {cs : Cs} {H : Hp} {c k : Int} {Q : PV} {E : XK} (q : ∀ r : Nat, r < 2 ^ 128 → Q (.int (r : Int)) H) : kC (fun ws H Q => sp__law_drawn K cs ws H Q E) [.int c, .int k] H Q :=
  fun H1 e _ qq => ⟨c, k, rfl, fun r hr H2 e2 => qq _ _ _ (q r hr) (e.tr e2)⟩
local macro_rules | `(tactic| k_places) => `(tactic| (with_reducible refine' c__law_drawn (fun _ _ => ?_)))
theorem pure__law_drawn {K : PySem.W.Frag} {cs : Cs} {H : Hp} {vs : List V} {Q : VK} {E : XK} (h : sp__law_drawn K cs vs H Q E) : t__law_drawn K cs E { nx := fun _ H' => Q .non H', rt := Q } (start ["_law_cell_here", "_law_k", "_law_more"] vs) H := by
  obtain ⟨c, k, rfl, q⟩ := h
  refine fin (σ := [some (.int c), some (.int k), none]) ?_
  unfold t__law_drawn
  k_clsL
  generalize c * 6364136223846793005 + (k + 1) * 1442695040888963407 = z
  have hz0 : 0 ≤ z % 340282366920938463463374607431768211507 := Int.emod_nonneg _ (by decide)
  have hz1 : z % 340282366920938463463374607431768211507 < 340282366920938463463374607431768211507 := Int.emod_lt_of_pos _ (by decide)
  generalize z % 340282366920938463463374607431768211507 = y at *
  have hm : IntMulOk y y := by
    obtain ⟨n, rfl⟩ := Int.eq_ofNat_of_zero_le hz0
    exact mulw (a := 129) (b := 129) (by omega) (by omega) (by decide) (by decide) (by decide)
  k_clsL
  have h0 : 0 ≤ y * y % 340282366920938463463374607431768211297 := Int.emod_nonneg _ (by decide)
  have h1 : y * y % 340282366920938463463374607431768211297 < 340282366920938463463374607431768211297 := Int.emod_lt_of_pos _ (by decide)
  obtain ⟨n, hn⟩ := Int.eq_ofNat_of_zero_le h0
  rw [hn]
  exact q n (by omega)
theorem ok__law_drawn {P : Program} {w : World} {K : PySem.W.Frag} {mg : Str → Option Value} {base : Heap} {cs : Cs} (D__law_drawn : Dn K mg "_law_drawn" s__law_drawn ["_law_cell_here", "_law_k"]) :
    Cal P w K mg base (L2N.CX P w) 1 "_law_drawn" ["_law_cell_here", "_law_k"] (sp__law_drawn K cs) := by
  refine cal_mk D__law_drawn sc__law_drawn (fun vs H Q E h => ?_) fun f cdv A outer s H vs Q E hr h => ⟨t__law_drawn K cs E, ?_, pure__law_drawn h⟩
  · unfold sp__law_drawn at h
    first | (obtain ⟨rfl, _⟩ := h; rfl) | (obtain ⟨_, rfl, _⟩ := h; rfl) | (obtain ⟨_, _, rfl, _⟩ := h; rfl) | (obtain ⟨_, _, _, rfl, _⟩ := h; rfl) | (obtain ⟨_, _, _, _, rfl, _⟩ := h; rfl) | (obtain ⟨_, _, _, _, _, rfl, _⟩ := h; rfl) | (obtain ⟨_, _, _, _, _, _, rfl, _⟩ := h; rfl) | (obtain ⟨_, _, _, _, _, _, _, rfl, _⟩ := h; rfl) | (obtain ⟨_, _, _, _, _, _, _, _, rfl, _⟩ := h; rfl) | (obtain ⟨_, _, _, _, _, _, _, _, _, rfl, _⟩ := h; rfl) | (obtain ⟨_, _, _, _, _, _, _, _, _, _, rfl, _⟩ := h; rfl) | (obtain ⟨_, _, _, _, _, _, _, _, _, _, _, rfl, _⟩ := h; rfl) | (obtain ⟨_, _, _, _, _, _, _, _, _, _, _, _, rfl, _⟩ := h; rfl) | (obtain ⟨_, _, _, _, _, _, _, _, _, _, _, _, _, rfl, _⟩ := h; rfl) | (obtain ⟨_, _, _, _, _, _, _, _, _, _, _, _, _, _, rfl, _⟩ := h; rfl) | (obtain ⟨_, _, _, _, _, _, _, _, _, _, _, _, _, _, _, rfl, _⟩ := h; rfl)
  · exact (pss_cons (ps_set (i := 2) sc__law_drawn.nd rfl (Or.inl sc__law_drawn_v2) (pe_op op_mod (pe_op op_add (pe_op op_mulX (pv 0) pe_int) (pe_op op_mulX (pe_op op_add (pv 1) pe_int) pe_int)) pe_int))
      (pss_one (ps_ret (pe_op op_mod (pe_op op_mulX (pv 2) (pv 2)) pe_int))))
theorem sc__law_rule : FnScope ["_law_more", "_law_a", "_law_many", "_law_j"] ["_law_more"] (defScope s__law_rule) := ⟨rfl, rfl, rfl, by decide +kernel, rfl, by decide +kernel, by decide +kernel⟩
theorem sc__law_rule_v0 : (defScope s__law_rule).names.lookup ("_law_more" : Str) = some .cell := by decide +kernel
theorem sc__law_rule_v1 : (defScope s__law_rule).names.lookup ("_law_a" : Str) = some .local := by decide +kernel
theorem sc__law_rule_v2 : (defScope s__law_rule).names.lookup ("_law_many" : Str) = some .local := by decide +kernel
def t__law_rule (K : PySem.W.Frag) (cs : Cs) (E : XK) : TS :=
  (tSeq (tAsg (tOp (rIxL K) (tLst (tCons (tC (.int 1)) (tCons (tC (.int 3)) (tCons (tC (.int 7)) (tCons (tC (.int 0)) (tCons (tC (.int 999999)) (tCons (tOp (rI (fun _ j => 0 < j) fun i j => .int (i % j)) (tOp (rI CDivW fun i j => .int (i / j)) (tVar 0) (tC (.int 64))) (tC (.int 1000000))) tNil))))))) (tOp (rI (fun _ j => 0 < j) fun i j => .int (i % j)) (tOp (rI CDivW fun i j => .int (i / j)) (tVar 0) (tC (.int 8))) (tC (.int 6)))) (gName 1))
  (tSeq (tIfS (tTest (tOp rEq (tOp (rI (fun _ j => 0 < j) fun i j => .int (i % j)) (tVar 0) (tC (.int 3))) (tC (.int 0))))
  (tRet (tTup (tCons (tC (.str "times")) (tCons (tVar 1) (tCons (tOp (rIxL K) (tLst (tCons (tC (.int 0)) (tCons (tC (.int 5)) (tCons (tC (.int 999999)) (tCons (tOp (rI (fun _ j => 0 < j) fun i j => .int (i % j)) (tOp (rI CDivW fun i j => .int (i / j)) (tVar 0) (tOp (rI CPow fun i j => .int (i ^ j.toNat)) (tC (.int 2)) (tC (.int 24)))) (tC (.int 1000))) tNil))))) (tOp (rI (fun _ j => 0 < j) fun i j => .int (i % j)) (tOp (rI CDivW fun i j => .int (i / j)) (tVar 0) (tOp (rI CPow fun i j => .int (i ^ j.toNat)) (tC (.int 2)) (tC (.int 20)))) (tC (.int 4)))) tNil)))))
  tNext)
  (tSeq (tIfS (tTest (tOp rEq (tOp (rI (fun _ j => 0 < j) fun i j => .int (i % j)) (tVar 0) (tC (.int 3))) (tC (.int 1))))
  (tRet (tTup (tCons (tC (.str "high")) (tCons (tVar 1) (tCons (tOp (rIxL K) (tLst (tCons (tC (.int 1)) (tCons (tC (.int 3)) (tCons (tC (.int 8)) (tCons (tC (.int 30)) (tCons (tOp (rI0 fun i j => .int (i + j)) (tC (.int 1)) (tOp (rI (fun _ j => 0 < j) fun i j => .int (i % j)) (tOp (rI CDivW fun i j => .int (i / j)) (tVar 0) (tOp (rI CPow fun i j => .int (i ^ j.toNat)) (tC (.int 2)) (tC (.int 24)))) (tC (.int 30)))) tNil)))))) (tOp (rI (fun _ j => 0 < j) fun i j => .int (i % j)) (tOp (rI CDivW fun i j => .int (i / j)) (tVar 0) (tOp (rI CPow fun i j => .int (i ^ j.toNat)) (tC (.int 2)) (tC (.int 20)))) (tC (.int 5)))) tNil)))))
  tNext)
  (tSeq (tAsg (tOp (rIxL K) (tLst (tCons (tC (.int 1)) (tCons (tC (.int 2)) (tCons (tC (.int 5)) (tCons (tC (.int 8)) (tCons (tC (.int 64)) tNil)))))) (tOp (rI (fun _ j => 0 < j) fun i j => .int (i % j)) (tOp (rI CDivW fun i j => .int (i / j)) (tVar 0) (tOp (rI CPow fun i j => .int (i ^ j.toNat)) (tC (.int 2)) (tC (.int 20)))) (tC (.int 5)))) (gName 2))
  (tRet (tTup (tCons (tC (.str "told")) (tCons (tCB (rTupOf K) (tCons (tLc (iRng1 (tCons (tVar 2) tNil)) (gName 3) tYes (tOp (rI (fun _ j => 0 < j) fun i j => .int (i % j)) (tOp (rI CDivW fun i j => .int (i / j)) (tVar 0) (tOp (rI CPow fun i j => .int (i * 2 ^ j.toNat)) (tC (.int 1)) (tVar 3))) (tOp (rIxL K) (tLst (tCons (tC (.int 2)) (tCons (tC (.int 4)) (tCons (tC (.int 1000)) tNil)))) (tOp (rI (fun _ j => 0 < j) fun i j => .int (i % j)) (tOp (rI CDivW fun i j => .int (i / j)) (tVar 0) (tOp (rI CPow fun i j => .int (i ^ j.toNat)) (tC (.int 2)) (tC (.int 30)))) (tC (.int 3))))) [3]) tNil)) tNil))))))))
def sp__law_rule (K : PySem.W.Frag) (_ : Cs) : Sp := fun vs H Q _ => ∃ m : Nat, vs = [.int (m : Int)] ∧ ∀ H', Ex H H' → ∀ v r, IsRl H' v r → r.ok → upR Q v H'
theorem c__law_rule {K : PySem.W.Frag} {cs : Cs} {H : Hp} {m : Nat} {i : Int} {Q : PV} {E : XK} (hi : i = m) (k : ∀ v r H', Ex H H' → IsRl H' v r → r.ok → Q v H') : kC (fun ws H Q => sp__law_rule K cs ws H Q E) [.int i] H Q := by
  subst hi
  exact fun H1 e _ q => ⟨m, rfl, fun H' e1 v r h ho H2 e2 => q _ _ _ (k v r H' (e.tr e1) h ho) e2⟩
local macro_rules | `(tactic| k_places) => `(tactic| (with_reducible refine' c__law_rule rfl (fun _ _ _ _ _ _ => ?_)))
theorem pure__law_rule {K : PySem.W.Frag} {cs : Cs} {H : Hp} {vs : List V} {Q : VK} {E : XK} (h : sp__law_rule K cs vs H Q E) : t__law_rule K cs E { nx := fun _ H' => Q .non H', rt := Q } (start ["_law_more", "_law_a", "_law_many", "_law_j"] vs) H := by
  obtain ⟨m, rfl, q⟩ := h
  refine fin (σ := [some (.int (m : Int)), none, none, none]) ?_
  unfold t__law_rule
  have p24 : (2 : Int) ^ (24 : Int).toNat = 16777216 := by decide
  have p20 : (2 : Int) ^ (20 : Int).toNat = 1048576 := by decide
  have p30 : (2 : Int) ^ (30 : Int).toNat = 1073741824 := by decide
  k_clsL
  rename_i p1 hp1
  obtain ⟨v, hv, a, rfl, ha⟩ := pick (z := (m : Int) / 8) (m := 6) (xs := [.int 1, .int 3, .int 7, .int 0, .int 999999, .int ((m : Int) / 64 % 1000000)]) (P := fun v => ∃ a : Nat, v = .int a ∧ a ≤ 999999) rfl (by decide) (by
    intro x hx
    simp only [List.mem_cons, List.not_mem_nil, or_false] at hx
    rcases hx with rfl | rfl | rfl | rfl | rfl | rfl
    · exact ⟨1, rfl, by decide⟩
    · exact ⟨3, rfl, by decide⟩
    · exact ⟨7, rfl, by decide⟩
    · exact ⟨0, rfl, by decide⟩
    · exact ⟨999999, rfl, by decide⟩
    · exact ⟨m / 64 % 1000000, rfl, by omega⟩)
  refine r_ixL (by k_memK) hv ?_
  k_clsL
  refine dec2 (fun h3 => ?_) (fun h3 => ?_)
  · k_clsL
    rename_i p2 hp2
    obtain ⟨v, hv, b, rfl, hb⟩ := pick (z := (m : Int) / 1048576) (m := 4) (xs := [.int 0, .int 5, .int 999999, .int ((m : Int) / 16777216 % 1000)]) (P := fun v => ∃ a : Nat, v = .int a ∧ a ≤ 999999) rfl (by decide) (by
      intro x hx
      simp only [List.mem_cons, List.not_mem_nil, or_false] at hx
      rcases hx with rfl | rfl | rfl | rfl
      · exact ⟨0, rfl, by decide⟩
      · exact ⟨5, rfl, by decide⟩
      · exact ⟨999999, rfl, by decide⟩
      · exact ⟨m / 16777216 % 1000, rfl, by omega⟩)
    refine r_ixL (by k_memK) hv ?_
    k_clsL
    exact q _ (by k_offL) _ (.times a b) ⟨_, rfl, upd_same⟩ ⟨ha, hb⟩
  · k_clsL
    refine dec2 (fun h4 => ?_) (fun h4 => ?_)
    · k_clsL
      rename_i p2 hp2
      obtain ⟨v, hv, b, rfl, hb1, hb⟩ := pick (z := (m : Int) / 1048576) (m := 5) (xs := [.int 1, .int 3, .int 8, .int 30, .int (1 + (m : Int) / 16777216 % 30)]) (P := fun v => ∃ a : Nat, v = .int a ∧ 1 ≤ a ∧ a ≤ 30) rfl (by decide) (by
        intro x hx
        simp only [List.mem_cons, List.not_mem_nil, or_false] at hx
        rcases hx with rfl | rfl | rfl | rfl | rfl
        · exact ⟨1, rfl, by decide, by decide⟩
        · exact ⟨3, rfl, by decide, by decide⟩
        · exact ⟨8, rfl, by decide, by decide⟩
        · exact ⟨30, rfl, by decide, by decide⟩
        · exact ⟨1 + m / 16777216 % 30, rfl, by omega, by omega⟩)
      refine r_ixL (by k_memK) hv ?_
      k_clsL
      exact q _ (by k_offL) _ (.high a b) ⟨_, rfl, upd_same⟩ ⟨ha, hb1, hb⟩
    · k_clsL
      rename_i p2 hp2
      obtain ⟨v, hv, n, rfl, hn1, hn⟩ := pick (z := (m : Int) / 1048576) (m := 5) (xs := [.int 1, .int 2, .int 5, .int 8, .int 64]) (P := fun v => ∃ a : Nat, v = .int a ∧ 1 ≤ a ∧ a ≤ 64) rfl (by decide) (by
        intro x hx
        simp only [List.mem_cons, List.not_mem_nil, or_false] at hx
        rcases hx with rfl | rfl | rfl | rfl | rfl
        · exact ⟨1, rfl, by decide, by decide⟩
        · exact ⟨2, rfl, by decide, by decide⟩
        · exact ⟨5, rfl, by decide, by decide⟩
        · exact ⟨8, rfl, by decide, by decide⟩
        · exact ⟨64, rfl, by decide, by decide⟩)
      refine r_ixL (by k_memK) hv ?_
      obtain ⟨v, hv2, c, rfl, hc1, hc2⟩ := pick (z := (m : Int) / 1073741824) (m := 3) (xs := [.int 2, .int 4, .int 1000]) (P := fun v => ∃ a : Nat, v = .int a ∧ 1 ≤ a ∧ a ≤ 1000) rfl (by decide) (by
        intro x hx
        simp only [List.mem_cons, List.not_mem_nil, or_false] at hx
        rcases hx with rfl | rfl | rfl
        · exact ⟨2, rfl, by decide, by decide⟩
        · exact ⟨4, rfl, by decide, by decide⟩
        · exact ⟨1000, rfl, by decide, by decide⟩)
      k_clsL
      refine e_lcZ ?_
      k_clsL
      refine ⟨by omega, trivial, by omega, (List.range n).map fun j => V.int ((m / 2 ^ j % c : Nat) : Int), by simp, fun D acc i hD hi => ?_, fun D hD => ?_⟩
      · refine g_name ⟨rfl, t_yes ⟨rfl, ?_⟩⟩
        have w0 : 0 < 2 ^ i := Nat.two_pow_pos i
        have w1 : 2 ^ i < 2 ^ 64 := Nat.pow_lt_pow_right (by decide) (by omega)
        have hc : CPow 1 (i : Nat) := ⟨by omega, by omega, by decide⟩
        have e1 : (1 : Int) * 2 ^ ((i : Int)).toNat = ((2 ^ i : Nat) : Int) := by
          rw [Int.toNat_natCast]
          push_cast
          omega
        k_clsL
        rw [e1]
        have e5 : ((List.range n).map fun j => V.int ((m / 2 ^ j % c : Nat) : Int))[i]? = some (.int ((m / 2 ^ i % c : Nat) : Int)) := by
          rw [List.getElem?_map, List.getElem?_range hi]
          rfl
        generalize 2 ^ i = W at *
        k_clsL
        refine r_ixL (by k_memK) hv2 ?_
        k_clsL
        refine ⟨e5.trans (congrArg (fun z => some (V.int z)) (by push_cast; rfl)), by k_offL⟩
      · k_clsL
        refine q _ (by k_offL) _ (.told ((List.range n).map fun j => m / 2 ^ j % c)) ⟨_, _, rfl, upd_same, ?_⟩ ⟨by simpa using hn1, by simpa using hn, ?_⟩
        · rw [List.map_map]
          show _ = some (HO.tup ((List.range n).map fun j => V.int ((m / 2 ^ j % c : Nat) : Int)))
          k_memK
        · intro x hx
          obtain ⟨j, _, rfl⟩ := List.mem_map.mp hx
          have := Nat.mod_lt (m / 2 ^ j) (show 0 < c by omega)
          omega
theorem ok__law_rule {P : Program} {w : World} {K : PySem.W.Frag} {mg : Str → Option Value} {base : Heap} {cs : Cs} (D__law_rule : Dn K mg "_law_rule" s__law_rule ["_law_more"]) (m_range : mg "range" = none) (m_tuple : mg "tuple" = none) :
    Cal P w K mg base (L2N.CX P w) 1 "_law_rule" ["_law_more"] (sp__law_rule K cs) := by
  refine cal_mk D__law_rule sc__law_rule (fun vs H Q E h => ?_) fun f cdv A outer s H vs Q E hr h => ⟨t__law_rule K cs E, ?_, pure__law_rule h⟩
  · unfold sp__law_rule at h
    first | (obtain ⟨rfl, _⟩ := h; rfl) | (obtain ⟨_, rfl, _⟩ := h; rfl) | (obtain ⟨_, _, rfl, _⟩ := h; rfl) | (obtain ⟨_, _, _, rfl, _⟩ := h; rfl) | (obtain ⟨_, _, _, _, rfl, _⟩ := h; rfl) | (obtain ⟨_, _, _, _, _, rfl, _⟩ := h; rfl) | (obtain ⟨_, _, _, _, _, _, rfl, _⟩ := h; rfl) | (obtain ⟨_, _, _, _, _, _, _, rfl, _⟩ := h; rfl) | (obtain ⟨_, _, _, _, _, _, _, _, rfl, _⟩ := h; rfl) | (obtain ⟨_, _, _, _, _, _, _, _, _, rfl, _⟩ := h; rfl) | (obtain ⟨_, _, _, _, _, _, _, _, _, _, rfl, _⟩ := h; rfl) | (obtain ⟨_, _, _, _, _, _, _, _, _, _, _, rfl, _⟩ := h; rfl) | (obtain ⟨_, _, _, _, _, _, _, _, _, _, _, _, rfl, _⟩ := h; rfl) | (obtain ⟨_, _, _, _, _, _, _, _, _, _, _, _, _, rfl, _⟩ := h; rfl) | (obtain ⟨_, _, _, _, _, _, _, _, _, _, _, _, _, _, rfl, _⟩ := h; rfl) | (obtain ⟨_, _, _, _, _, _, _, _, _, _, _, _, _, _, _, rfl, _⟩ := h; rfl)
  · exact (pss_cons (ps_set (i := 1) sc__law_rule.nd rfl (Or.inl sc__law_rule_v1) (pe_ix ix_list (pe_lst (pa_cons pe_int (pa_cons pe_int (pa_cons pe_int (pa_cons pe_int (pa_cons pe_int (pa_cons (pe_op op_mod (pe_op op_fdivW (pv 0) pe_int) pe_int) pa_nil))))))) (pe_op op_mod (pe_op op_fdivW (pv 0) pe_int) pe_int) (fun _ _ => rfl)))
      (pss_cons (ps_if (pt_cmpR op_eq (pe_op op_mod (pv 0) pe_int) pe_int (nomark _))
      (pss_one (ps_ret (pe_tup (pa_cons pe_str (pa_cons (pv 1) (pa_cons (pe_ix ix_list (pe_lst (pa_cons pe_int (pa_cons pe_int (pa_cons pe_int (pa_cons (pe_op op_mod (pe_op op_fdivW (pv 0) (pe_op op_pow pe_int pe_int)) pe_int) pa_nil))))) (pe_op op_mod (pe_op op_fdivW (pv 0) (pe_op op_pow pe_int pe_int)) pe_int) (fun _ _ => rfl)) pa_nil))))))
      pss_nil)
      (pss_cons (ps_if (pt_cmpR op_eq (pe_op op_mod (pv 0) pe_int) pe_int (nomark _))
      (pss_one (ps_ret (pe_tup (pa_cons pe_str (pa_cons (pv 1) (pa_cons (pe_ix ix_list (pe_lst (pa_cons pe_int (pa_cons pe_int (pa_cons pe_int (pa_cons pe_int (pa_cons (pe_op op_add pe_int (pe_op op_mod (pe_op op_fdivW (pv 0) (pe_op op_pow pe_int pe_int)) pe_int)) pa_nil)))))) (pe_op op_mod (pe_op op_fdivW (pv 0) (pe_op op_pow pe_int pe_int)) pe_int) (fun _ _ => rfl)) pa_nil))))))
      pss_nil)
      (pss_cons (ps_set (i := 2) sc__law_rule.nd rfl (Or.inl sc__law_rule_v2) (pe_ix ix_list (pe_lst (pa_cons pe_int (pa_cons pe_int (pa_cons pe_int (pa_cons pe_int (pa_cons pe_int pa_nil)))))) (pe_op op_mod (pe_op op_fdivW (pv 0) (pe_op op_pow pe_int pe_int)) pe_int) (fun _ _ => rfl)))
      (pss_one (ps_ret (pe_tup (pa_cons pe_str (pa_cons (pe_callTy call_tuple_of (by rfl) m_tuple (by decide +kernel) (pa_cons (pe_lc (own := [("_law_j", 3)]) (g := (gName 3)) (tt := tYes) (by rfl) sc__law_rule.nd (pi_range1 (by rfl) m_range (pa_cons (pv 2) pa_nil)) (blkOk_by (own := [("_law_j", 3)]) (N := ["_law_more", "_law_a", "_law_many", "_law_j"]) (sc := defScope s__law_rule) (by decide +kernel)) (fun _ _ _ _ _ => (pg_name (i := 3) sc__law_rule.nd rfl (Or.inl rfl))) (fun _ _ _ _ _ => pts_nil) (fun _ _ _ _ _ => (pe_op op_mod (pe_op op_fdivW (pv 0) (pe_op op_shl pe_int (pv 3))) (pe_ix ix_list (pe_lst (pa_cons pe_int (pa_cons pe_int (pa_cons pe_int pa_nil)))) (pe_op op_mod (pe_op op_fdivW (pv 0) (pe_op op_pow pe_int pe_int)) pe_int) (fun _ _ => rfl))))) pa_nil)) pa_nil)))))))))
theorem sc__law_keys : FnScope ["_law_more", "_law_many", "_law_found", "_law_j", "_law_key"] ["_law_more", "_law_many"] (defScope s__law_keys) := ⟨rfl, rfl, rfl, by decide +kernel, rfl, by decide +kernel, by decide +kernel⟩
theorem sc__law_keys_v0 : (defScope s__law_keys).names.lookup ("_law_more" : Str) = some .local := by decide +kernel
theorem sc__law_keys_v1 : (defScope s__law_keys).names.lookup ("_law_many" : Str) = some .local := by decide +kernel
theorem sc__law_keys_v2 : (defScope s__law_keys).names.lookup ("_law_found" : Str) = some .local := by decide +kernel
theorem sc__law_keys_v3 : (defScope s__law_keys).names.lookup ("_law_j" : Str) = some .local := by decide +kernel
theorem sc__law_keys_v4 : (defScope s__law_keys).names.lookup ("_law_key" : Str) = some .local := by decide +kernel
def t__law_keys (K : PySem.W.Frag) (cs : Cs) (E : XK) : TS :=
  (tSeq (tAsg (tLst tNil) (gName 2))
  (tSeq (tFor (iRng1 (tCons (tVar 1) tNil)) (gName 3)
  (tSeq (tAsg (tOp (rIxL K) (tLst (tCons (tOp (rI (fun _ j => 0 < j) fun i j => .int (i % j)) (tCall (sp__law_drawn K cs) [] E0 (tCons (tVar 0) (tCons (tVar 3) tNil))) (tC (.int 24))) (tCons (tOp (rI (fun _ j => 0 < j) fun i j => .int (i % j)) (tCall (sp__law_drawn K cs) [] E0 (tCons (tVar 0) (tCons (tVar 3) tNil))) (tC (.int 1000000))) (tCons (tOp (rI IntMulOk fun i j => .int (i * j)) (tC (.int 3)) (tVar 3)) tNil)))) (tOp (rI (fun _ j => 0 < j) fun i j => .int (i % j)) (tVar 0) (tC (.int 3)))) (gName 4))
  (tSeq (tWhile (tTest (tOp (rIn K false) (tVar 4) (tVar 2)))
  (tAsg (tOp (rI (fun _ j => 0 < j) fun i j => .int (i % j)) (tOp (rI0 fun i j => .int (i + j)) (tVar 4) (tC (.int 1))) (tC (.int 1000000))) (gName 4)))
  (tDrop (tBM K "list" rAppend (tVar 2) (tCons (tVar 4) tNil))))))
  (tRet (tVar 2))))
def sp__law_keys (K : PySem.W.Frag) (_ : Cs) : Sp := fun vs H Q _ => ∃ (m n : Nat), vs = [.int (m : Int), .int (n : Int)] ∧ n ≤ 1000 ∧ ∀ (H' : Hp) (p : Addr) (ns : List Nat), Ex H H' → H p = none → H' p = some (.lst (ns.map fun n : Nat => V.int (n : Int))) → ns.length = n → ns.Nodup → (∀ n ∈ ns, n ≤ 999999) → upR Q (.ref p) H'
theorem c__law_keys {K : PySem.W.Frag} {cs : Cs} {H : Hp} {m n : Nat} {i j : Int} {Q : PV} {E : XK} (hi : i = m) (hj : j = n) (hn : n ≤ 1000) (k : ∀ (H' : Hp) (p : Addr) (ns : List Nat), Ex H H' → H p = none → H' p = some (.lst (ns.map fun n : Nat => V.int (n : Int))) → ns.length = n → ns.Nodup → (∀ n ∈ ns, n ≤ 999999) → Q (.ref p) H') : kC (fun ws H Q => sp__law_keys K cs ws H Q E) [.int i, .int j] H Q := by
  subst hi hj
  exact fun H1 e _ q => ⟨m, n, rfl, hn, fun H' p ns e1 hp h1 h2 h3 h4 H2 e2 => q _ _ _ (k H' p ns (e.tr e1) (e.fresh hp) h1 h2 h3 h4) e2⟩
theorem pure__law_keys {K : PySem.W.Frag} {cs : Cs} {H : Hp} {vs : List V} {Q : VK} {E : XK} (h : sp__law_keys K cs vs H Q E) : t__law_keys K cs E { nx := fun _ H' => Q .non H', rt := Q } (start ["_law_more", "_law_many", "_law_found", "_law_j", "_law_key"] vs) H := by
  obtain ⟨m, n, rfl, hn, q⟩ := h
  refine fin (σ := [some (.int (m : Int)), some (.int (n : Int)), none, none, none]) ?_
  unfold t__law_keys
  k_clsL
  rename_i p hp
  refine s_for ?_
  k_clsL
  refine ⟨by omega, fun i s H1 => Ex H H1 ∧ ∃ ns z3 z4, s = [some (.int (m : Int)), some (.int (n : Int)), some (.ref p), z3, z4] ∧ H1 p = some (.lst (ns.map fun n : Nat => V.int (n : Int))) ∧ ns.length = i ∧ ns.Nodup ∧ ∀ n ∈ ns, n ≤ 999999,
    ⟨by k_offL, [], none, none, rfl, upd_same, rfl, List.nodup_nil, fun _ h => absurd h List.not_mem_nil⟩, fun _ _ _ _ _ => trivial, ?_, ?_⟩
  · rintro i s H1 hi ⟨e1, ns, z3, z4, rfl, hl, hlen, hnd, ha⟩
    refine g_name ?_
    k_clsL
    rename_i r1 hr1 r2 hr2 p3 hp3
    obtain ⟨v, hv, key, rfl, hk⟩ := pick (z := (m : Int)) (m := 3) (xs := [.int ((r1 : Int) % 24), .int ((r2 : Int) % 1000000), .int (3 * (i : Int))]) (P := fun v => ∃ a : Nat, v = .int a ∧ a < 1000000) rfl (by decide) (by
      intro x hx
      simp only [List.mem_cons, List.not_mem_nil, or_false] at hx
      rcases hx with rfl | rfl | rfl
      · exact ⟨r1 % 24, rfl, by omega⟩
      · exact ⟨r2 % 1000000, rfl, by omega⟩
      · exact ⟨3 * i, rfl, by omega⟩)
    refine r_ixL (by k_memK) hv ?_
    obtain ⟨d, hd, hfree⟩ := free_at ns key 1000000 (by omega)
    refine s_seq ?_
    refine s_while (fun k s' H2 => Ex H1 H2 ∧ ∃ key : Nat, key < 1000000 ∧ (key + k) % 1000000 ∉ ns ∧ s' = [some (.int (m : Int)), some (.int (n : Int)), some (.ref p), some (.int (i : Int)), some (.int (key : Int))]) d ⟨by k_offL, key, hk, hfree, rfl⟩ ?_
    rintro k s' H2 ⟨e2, key', hk', hf', rfl⟩
    have hl2 := e2 _ _ hl
    have fl : (ns.map fun n : Nat => V.int (n : Int)).all flatV = true := List.all_eq_true.mpr fun x hx => by
      obtain ⟨a, _, rfl⟩ := List.mem_map.mp hx
      rfl
    k_clsL
    refine r_inL (SqL.of hl2) rfl fl ?_
    rw [inV_ints]
    k_clsL
    refine dec2 (fun hin => ?_) (fun hin => ?_)
    · have hk0 : k ≠ 0 := by
        rintro rfl
        rw [Nat.add_zero, Nat.mod_eq_of_lt hk'] at hf'
        exact hf' hin
      k_clsL
      refine ⟨k - 1, _, by omega, ⟨e2, (key' + 1) % 1000000, by omega, ?_, ?_⟩, Ex.rf⟩
      · rw [Nat.mod_add_mod, show key' + 1 + (k - 1) = key' + k by omega]
        exact hf'
      · simp only [List.set]
        congr 5
    · k_clsL
      refine m_append hl2 (by rw [List.length_map]; omega) ?_
      refine ⟨_, ⟨(e1.tr e2).mutr hp, ns ++ [key'], _, _, rfl, ?_, by rw [List.length_append, hlen]; rfl, ?_, ?_⟩, Ex.rf⟩
      · rw [List.map_append]
        exact upd_same
      · exact List.nodup_append.mpr ⟨hnd, by simp, fun a ha b hb e => hin (by rw [List.mem_singleton.mp hb] at e; rw [← e]; exact ha)⟩
      · intro x hx
        rcases List.mem_append.mp hx with hx | hx
        · exact ha x hx
        · rw [List.mem_singleton.mp hx]
          omega
  · rintro s H1 ⟨e1, ns, z3, z4, rfl, hl, hlen, hnd, ha⟩
    k_clsL
    exact q H1 p ns e1 hp hl hlen hnd ha
theorem ok__law_keys {P : Program} {w : World} {K : PySem.W.Frag} {mg : Str → Option Value} {base : Heap} {cs : Cs} (D__law_keys : Dn K mg "_law_keys" s__law_keys ["_law_more", "_law_many"]) (cal__law_drawn : Cal P w K mg base (L2N.CX P w) 1 "_law_drawn" ["_law_cell_here", "_law_k"] (sp__law_drawn K cs)) (m_range : mg "range" = none) :
    Cal P w K mg base (L2N.CX P w) 2 "_law_keys" ["_law_more", "_law_many"] (sp__law_keys K cs) := by
  refine cal_mk D__law_keys sc__law_keys (fun vs H Q E h => ?_) fun f cdv A outer s H vs Q E hr h => ⟨t__law_keys K cs E, ?_, pure__law_keys h⟩
  · unfold sp__law_keys at h
    first | (obtain ⟨rfl, _⟩ := h; rfl) | (obtain ⟨_, rfl, _⟩ := h; rfl) | (obtain ⟨_, _, rfl, _⟩ := h; rfl) | (obtain ⟨_, _, _, rfl, _⟩ := h; rfl) | (obtain ⟨_, _, _, _, rfl, _⟩ := h; rfl) | (obtain ⟨_, _, _, _, _, rfl, _⟩ := h; rfl) | (obtain ⟨_, _, _, _, _, _, rfl, _⟩ := h; rfl) | (obtain ⟨_, _, _, _, _, _, _, rfl, _⟩ := h; rfl) | (obtain ⟨_, _, _, _, _, _, _, _, rfl, _⟩ := h; rfl) | (obtain ⟨_, _, _, _, _, _, _, _, _, rfl, _⟩ := h; rfl) | (obtain ⟨_, _, _, _, _, _, _, _, _, _, rfl, _⟩ := h; rfl) | (obtain ⟨_, _, _, _, _, _, _, _, _, _, _, rfl, _⟩ := h; rfl) | (obtain ⟨_, _, _, _, _, _, _, _, _, _, _, _, rfl, _⟩ := h; rfl) | (obtain ⟨_, _, _, _, _, _, _, _, _, _, _, _, _, rfl, _⟩ := h; rfl) | (obtain ⟨_, _, _, _, _, _, _, _, _, _, _, _, _, _, rfl, _⟩ := h; rfl) | (obtain ⟨_, _, _, _, _, _, _, _, _, _, _, _, _, _, _, rfl, _⟩ := h; rfl)
  · exact (pss_cons (ps_set (i := 2) sc__law_keys.nd rfl (Or.inl sc__law_keys_v2) (pe_lst pa_nil))
      (pss_cons (ps_for (passes_of rfl) rfl (pi_range1 (by rfl) m_range (pa_cons (pv 1) pa_nil)) (pg_name (i := 3) sc__law_keys.nd rfl (Or.inl sc__law_keys_v3))
      (pss_cons (ps_set (i := 4) sc__law_keys.nd rfl (Or.inl sc__law_keys_v4) (pe_ix ix_list (pe_lst (pa_cons (pe_op op_mod (pe_cal cal__law_drawn hr (by decide) (by rfl) passN (pa_cons (pv 0) (pa_cons (pv 3) pa_nil))) pe_int) (pa_cons (pe_op op_mod (pe_cal cal__law_drawn hr (by decide) (by rfl) passN (pa_cons (pv 0) (pa_cons (pv 3) pa_nil))) pe_int) (pa_cons (pe_op op_mulX pe_int (pv 3)) pa_nil)))) (pe_op op_mod (pv 0) pe_int) (fun _ _ => rfl)))
      (pss_cons (ps_while (passes_of rfl) (pt_cmpR op_in_seq (pv 4) (pv 2) (by rfl))
      (pss_one (ps_set (i := 4) sc__law_keys.nd rfl (Or.inl sc__law_keys_v4) (pe_op op_mod (pe_op op_add (pv 4) pe_int) pe_int))))
      (pss_one (ps_expr (pe_bm PySem.F.plainAttrs_list PySem.F.slot_list_append PySem.F.type_list_append mt_append (pv 2) (pa_cons (pv 4) pa_nil)))))))
      (pss_one (ps_ret (pv 2)))))
theorem sc__law_home : FnScope ["_law_rule_here", "_law_key", "_law_size", "_law_whole", "_law_turn"] ["_law_rule_here", "_law_key", "_law_size"] (defScope s__law_home) := ⟨rfl, rfl, rfl, by decide +kernel, rfl, by decide +kernel, by decide +kernel⟩
theorem sc__law_home_v0 : (defScope s__law_home).names.lookup ("_law_rule_here" : Str) = some .local := by decide +kernel
theorem sc__law_home_v1 : (defScope s__law_home).names.lookup ("_law_key" : Str) = some .local := by decide +kernel
theorem sc__law_home_v2 : (defScope s__law_home).names.lookup ("_law_size" : Str) = some .local := by decide +kernel
theorem sc__law_home_v3 : (defScope s__law_home).names.lookup ("_law_whole" : Str) = some .local := by decide +kernel
theorem sc__law_home_v4 : (defScope s__law_home).names.lookup ("_law_turn" : Str) = some .local := by decide +kernel
def t__law_home (K : PySem.W.Frag) (cs : Cs) (E : XK) : TS :=
  (tSeq (tIfS (tTest (tOp rEq (tOp (rIxT K) (tVar 0) (tC (.int 0))) (tC (.str "times"))))
  (tRet (tOp (rI (fun _ j => 0 < j) fun i j => .int (i % j)) (tOp (rI0 fun i j => .int (i + j)) (tOp (rI IntMulOk fun i j => .int (i * j)) (tOp (rIxT K) (tVar 0) (tC (.int 1))) (tVar 1)) (tOp (rIxT K) (tVar 0) (tC (.int 2)))) (tVar 2)))
  tNext)
  (tSeq (tIfS (tTest (tOp rEq (tOp (rIxT K) (tVar 0) (tC (.int 0))) (tC (.str "told"))))
  (tRet (tOp (rI (fun _ j => 0 < j) fun i j => .int (i % j)) (tOp (rIxT K) (tOp (rIxT K) (tVar 0) (tC (.int 1))) (tOp (rI (fun _ j => 0 < j) fun i j => .int (i % j)) (tVar 1) (tCB (fun xs H Q => ∃ p ys, xs = [V.ref p] ∧ (SqL K H p ys ∨ SqT K H p ys) ∧ Q (.int ys.length) H) (tCons (tOp (rIxT K) (tVar 0) (tC (.int 1))) tNil)))) (tVar 2)))
  tNext)
  (tSeq (tAsg (tC (.int 2)) (gName 3))
  (tSeq (tFor (iRng1 (tCons (tOp (rI0 fun i j => .int (i - j)) (tOp (rIxT K) (tVar 0) (tC (.int 2))) (tC (.int 1))) tNil)) (gName 4)
  (tAsg (tOp (rI IntMulOk fun i j => .int (i * j)) (tVar 3) (tC (.int 2))) (gName 3)))
  (tRet (tOp (rI CDivW fun i j => .int (i / j)) (tOp (rI IntMulOk fun i j => .int (i * j)) (tOp (rI (fun _ j => 0 < j) fun i j => .int (i % j)) (tOp (rI IntMulOk fun i j => .int (i * j)) (tOp (rIxT K) (tVar 0) (tC (.int 1))) (tVar 1)) (tVar 3)) (tVar 2)) (tVar 3)))))))
def sp__law_home (K : PySem.W.Frag) (_ : Cs) : Sp := fun vs H Q _ => ∃ (v : V) (r : Rl) (key size : Nat), vs = [v, .int (key : Int), .int (size : Int)] ∧ IsRl H v r ∧ r.ok ∧ key ≤ 999999 ∧ 2 ≤ size ∧ size ≤ 64 ∧ upR Q (.int (homeN r key size : Nat)) H
theorem c__law_home {K : PySem.W.Frag} {cs : Cs} {H : Hp} {v : V} {r : Rl} {key size : Nat} {i j : Int} {Q : PV} {E : XK} (hi : i = key) (hj : j = size) (h : IsRl H v r) (ho : r.ok) (hk : key ≤ 999999) (h2 : 2 ≤ size) (h6 : size ≤ 64) (k : Q (.int (homeN r key size : Nat)) H) : kC (fun ws H Q => sp__law_home K cs ws H Q E) [v, .int i, .int j] H Q := by
  subst hi hj
  exact fun H1 e _ q => ⟨v, r, key, size, rfl, h.up e, ho, hk, h2, h6, fun H2 e2 => q _ _ _ k (e.tr e2)⟩
theorem pure__law_home {K : PySem.W.Frag} {cs : Cs} {H : Hp} {vs : List V} {Q : VK} {E : XK} (h : sp__law_home K cs vs H Q E) : t__law_home K cs E { nx := fun _ H' => Q .non H', rt := Q } (start ["_law_rule_here", "_law_key", "_law_size", "_law_whole", "_law_turn"] vs) H := by
  obtain ⟨v, r, key, size, rfl, h, ho, hk, h2, h6, q⟩ := h
  refine fin (σ := [some v, some (.int (key : Int)), some (.int (size : Int)), none, none]) ?_
  unfold t__law_home
  cases r with
  | times a b =>
    obtain ⟨p, rfl, hp⟩ := h
    obtain ⟨ha, hb⟩ := ho
    k_clsL
    exact upE q (by rw [homeN]; exact congrArg V.int (by push_cast; rfl))
  | high a b =>
    obtain ⟨p, rfl, hp⟩ := h
    obtain ⟨ha, hb1, hb⟩ := ho
    have w1 : 2 ^ b < 2 ^ 31 := pow_lt30 hb
    have e2 : homeN (.high a b) key size = a * key % 2 ^ b * size / 2 ^ b := rfl
    rw [e2] at q
    k_clsL
    refine s_for ?_
    k_clsL
    refine ⟨b - 1, by congr 2; omega, by omega, fun i s H1 => H1 = H ∧ ∃ z, s = [some (.ref p), some (.int (key : Int)), some (.int (size : Int)), some (.int ((2 ^ (i + 1) : Nat) : Int)), z], ⟨rfl, none, rfl⟩, fun _ _ _ _ _ => trivial, ?_, ?_⟩
    · rintro i s H1 hi ⟨rfl, z, rfl⟩
      refine g_name ?_
      k_clsL
      refine ⟨_, ⟨rfl, some (.int (i : Nat)), ?_⟩, by k_offL⟩
      have e3 : ((2 ^ (i + 1) : Nat) : Int) * 2 = ((2 ^ (i + 1 + 1) : Nat) : Int) := by
        push_cast
        rw [Int.pow_succ (2 : Int) (i + 1)]
      rw [e3]
      rfl
    · rintro s H1 ⟨rfl, z, rfl⟩
      have e4 : b - 1 + 1 = b := by omega
      rw [e4]
      have w0 : 0 < 2 ^ b := Nat.two_pow_pos b
      generalize 2 ^ b = W at *
      k_clsL
      exact upE q (congrArg V.int (by push_cast; rfl))
  | told ns =>
    obtain ⟨p, l, rfl, hp, hl⟩ := h
    obtain ⟨ha, hb, hn⟩ := ho
    k_clsL
    rw [List.length_map]
    k_clsL
    have hi : key % ns.length < ns.length := Nat.mod_lt _ (by omega)
    refine r_ixT (v := .int ((ns[key % ns.length] : Nat) : Int)) (SqT.of hl) (atI_mod (by rw [List.getElem?_map, List.getElem?_eq_getElem hi]; rfl)) ?_
    k_clsL
    refine upE q (congrArg V.int ?_)
    rw [homeN, List.getD_eq_getElem?_getD, List.getElem?_eq_getElem hi]
    push_cast
    rfl
theorem ok__law_home {P : Program} {w : World} {K : PySem.W.Frag} {mg : Str → Option Value} {base : Heap} {cs : Cs} (D__law_home : Dn K mg "_law_home" s__law_home ["_law_rule_here", "_law_key", "_law_size"]) (m_len : mg "len" = none) (m_range : mg "range" = none) :
    Cal P w K mg base (L2N.CX P w) 1 "_law_home" ["_law_rule_here", "_law_key", "_law_size"] (sp__law_home K cs) := by
  refine cal_mk D__law_home sc__law_home (fun vs H Q E h => ?_) fun f cdv A outer s H vs Q E hr h => ⟨t__law_home K cs E, ?_, pure__law_home h⟩
  · unfold sp__law_home at h
    first | (obtain ⟨rfl, _⟩ := h; rfl) | (obtain ⟨_, rfl, _⟩ := h; rfl) | (obtain ⟨_, _, rfl, _⟩ := h; rfl) | (obtain ⟨_, _, _, rfl, _⟩ := h; rfl) | (obtain ⟨_, _, _, _, rfl, _⟩ := h; rfl) | (obtain ⟨_, _, _, _, _, rfl, _⟩ := h; rfl) | (obtain ⟨_, _, _, _, _, _, rfl, _⟩ := h; rfl) | (obtain ⟨_, _, _, _, _, _, _, rfl, _⟩ := h; rfl) | (obtain ⟨_, _, _, _, _, _, _, _, rfl, _⟩ := h; rfl) | (obtain ⟨_, _, _, _, _, _, _, _, _, rfl, _⟩ := h; rfl) | (obtain ⟨_, _, _, _, _, _, _, _, _, _, rfl, _⟩ := h; rfl) | (obtain ⟨_, _, _, _, _, _, _, _, _, _, _, rfl, _⟩ := h; rfl) | (obtain ⟨_, _, _, _, _, _, _, _, _, _, _, _, rfl, _⟩ := h; rfl) | (obtain ⟨_, _, _, _, _, _, _, _, _, _, _, _, _, rfl, _⟩ := h; rfl) | (obtain ⟨_, _, _, _, _, _, _, _, _, _, _, _, _, _, rfl, _⟩ := h; rfl) | (obtain ⟨_, _, _, _, _, _, _, _, _, _, _, _, _, _, _, rfl, _⟩ := h; rfl)
  · exact (pss_cons (ps_if (pt_cmpR op_eq (pe_ix ix_tup (pv 0) pe_int (fun _ _ => rfl)) pe_str (nomark _))
      (pss_one (ps_ret (pe_op op_mod (pe_op op_add (pe_op op_mulX (pe_ix ix_tup (pv 0) pe_int (fun _ _ => rfl)) (pv 1)) (pe_ix ix_tup (pv 0) pe_int (fun _ _ => rfl))) (pv 2))))
      pss_nil)
      (pss_cons (ps_if (pt_cmpR op_eq (pe_ix ix_tup (pv 0) pe_int (fun _ _ => rfl)) pe_str (nomark _))
      (pss_one (ps_ret (pe_op op_mod (pe_ix ix_tup (pe_ix ix_tup (pv 0) pe_int (fun _ _ => rfl)) (pe_op op_mod (pv 1) (pe_callB call_len_seq (by rfl) m_len (by decide +kernel) (pa_cons (pe_ix ix_tup (pv 0) pe_int (fun _ _ => rfl)) pa_nil))) (fun _ _ => rfl)) (pv 2))))
      pss_nil)
      (pss_cons (ps_set (i := 3) sc__law_home.nd rfl (Or.inl sc__law_home_v3) pe_int)
      (pss_cons (ps_for (passes_of rfl) rfl (pi_range1 (by rfl) m_range (pa_cons (pe_op op_sub (pe_ix ix_tup (pv 0) pe_int (fun _ _ => rfl)) pe_int) pa_nil)) (pg_name (i := 4) sc__law_home.nd rfl (Or.inl sc__law_home_v4))
      (pss_one (ps_set (i := 3) sc__law_home.nd rfl (Or.inl sc__law_home_v3) (pe_op op_mulX (pv 3) pe_int))))
      (pss_one (ps_ret (pe_op op_fdivW (pe_op op_mulX (pe_op op_mod (pe_op op_mulX (pe_ix ix_tup (pv 0) pe_int (fun _ _ => rfl)) (pv 1)) (pv 3)) (pv 2)) (pv 3))))))))
theorem sc__law_word : FnScope ["_law_e", "_law_flags", "_law_flag"] ["_law_e"] (defScope s__law_word) := ⟨rfl, rfl, rfl, by decide +kernel, rfl, by decide +kernel, by decide +kernel⟩
theorem sc__law_word_v0 : (defScope s__law_word).names.lookup ("_law_e" : Str) = some .local := by decide +kernel
theorem sc__law_word_v1 : (defScope s__law_word).names.lookup ("_law_flags" : Str) = some .local := by decide +kernel
def t__law_word (K : PySem.W.Frag) (cs : Cs) (D a : Addr) : TS :=
  (tSeq (tAsg (tLst (tCons (tCB (rIsE K D a) (tCons (tVar 0) (tCons (tC (.ref cs.BadRule)) tNil))) (tCons (tCB (rIsE K D a) (tCons (tVar 0) (tCons (tC (.ref cs.BadKey)) tNil))) (tCons (tCB (rIsE K D a) (tCons (tVar 0) (tCons (tC (.ref cs.BadSize)) tNil))) tNil)))) (gName 1))
  (tSeq (tAsg (tOp rCat (tVar 1) (tLst (tCons (tCB (rIsE K D a) (tCons (tVar 0) (tCons (tC (.ref cs.Full)) tNil))) tNil))) (gName 1))
  (tSeq (tDrop (tBM K "list" rAppend (tVar 1) (tCons (tCB (rIsE K D a) (tCons (tVar 0) (tCons (tC (.ref cs.TooMany)) tNil))) tNil)))
  (tSeq (tIfS (tOr (tTest (tOp rNe (tCB (rSum K) (tCons (tHotInts K (tVar 1)) tNil)) (tC (.int 1)))) (tNot (tB (tCB (rIsE K D a) (tCons (tVar 0) (tCons (tC (.ty "ValueError")) tNil))))))
  (tRet (tC (.str "other")))
  tNext)
  (tRet (tOp (rIxL K) (tLst (tCons (tC (.str "BadRule")) (tCons (tC (.str "BadKey")) (tCons (tC (.str "BadSize")) (tCons (tC (.str "Full")) (tCons (tC (.str "TooMany")) tNil)))))) (tBM K "list" (rIndex K) (tVar 1) (tCons (tC (.bl true)) tNil))))))))
local macro_rules | `(tactic| k_places) => `(tactic| first
  | ((with_reducible refine' c_isHr ?k1 ?_); (case k1 => assumption)) | ((with_reducible refine' c_isHt ?k1 ?_); (case k1 => assumption)) | (with_reducible refine' e_hot ?_))
theorem pure__law_word {K : PySem.W.Frag} {cs : Cs} {H : Hp} {c a : Addr} {nm : Str} {Q : VK} (kw : KitW K cs) (hw : wordOf cs c nm) (q : upR Q (.str nm) H) : t__law_word K cs c a { nx := fun _ H' => Q .non H', rt := Q } (start ["_law_e", "_law_flags", "_law_flag"] [.ref a]) H := by
  refine fin (σ := [some (.ref a), none, none]) ?_
  unfold t__law_word
  rcases hw with ⟨rfl, rfl⟩ | ⟨rfl, rfl⟩ | ⟨rfl, rfl⟩ | ⟨rfl, rfl⟩ | ⟨rfl, rfl⟩
  · obtain ⟨_, k1, k2, k3, k4, k5, kv⟩ := kw.r
    k_clsL
    refine ⟨_, [true, false, false, false, false], rfl, SqL.of upd_same, by decide, fun _ _ => ?_⟩
    k_clsL
    refine c_sum (ns := [1, 0, 0, 0, 0]) (SqL.of upd_same) ?_
    k_clsL
    refine m_index (j := 0) (z := .bl true) (by k_memK) rfl rfl rfl rfl (fun m z' hm hz => ?_) ?_
    · match m, hm with
      | m, hm => exact absurd hm (Nat.not_lt_zero m)
    k_clsL
    exact upX q (by k_offL)
  · obtain ⟨_, k1, k2, k3, k4, k5, kv⟩ := kw.k
    k_clsL
    refine ⟨_, [false, true, false, false, false], rfl, SqL.of upd_same, by decide, fun _ _ => ?_⟩
    k_clsL
    refine c_sum (ns := [0, 1, 0, 0, 0]) (SqL.of upd_same) ?_
    k_clsL
    refine m_index (j := 1) (z := .bl true) (by k_memK) rfl rfl rfl rfl (fun m z' hm hz => ?_) ?_
    · match m, hm with
      | 0, _ => cases hz; rfl
    k_clsL
    exact upX q (by k_offL)
  · obtain ⟨_, k1, k2, k3, k4, k5, kv⟩ := kw.s
    k_clsL
    refine ⟨_, [false, false, true, false, false], rfl, SqL.of upd_same, by decide, fun _ _ => ?_⟩
    k_clsL
    refine c_sum (ns := [0, 0, 1, 0, 0]) (SqL.of upd_same) ?_
    k_clsL
    refine m_index (j := 2) (z := .bl true) (by k_memK) rfl rfl rfl rfl (fun m z' hm hz => ?_) ?_
    · match m, hm with
      | 0, _ => cases hz; rfl
      | 1, _ => cases hz; rfl
    k_clsL
    exact upX q (by k_offL)
  · obtain ⟨_, k1, k2, k3, k4, k5, kv⟩ := kw.f
    k_clsL
    refine ⟨_, [false, false, false, true, false], rfl, SqL.of upd_same, by decide, fun _ _ => ?_⟩
    k_clsL
    refine c_sum (ns := [0, 0, 0, 1, 0]) (SqL.of upd_same) ?_
    k_clsL
    refine m_index (j := 3) (z := .bl true) (by k_memK) rfl rfl rfl rfl (fun m z' hm hz => ?_) ?_
    · match m, hm with
      | 0, _ => cases hz; rfl
      | 1, _ => cases hz; rfl
      | 2, _ => cases hz; rfl
    k_clsL
    exact upX q (by k_offL)
  · obtain ⟨_, k1, k2, k3, k4, k5, kv⟩ := kw.m
    k_clsL
    refine ⟨_, [false, false, false, false, true], rfl, SqL.of upd_same, by decide, fun _ _ => ?_⟩
    k_clsL
    refine c_sum (ns := [0, 0, 0, 0, 1]) (SqL.of upd_same) ?_
    k_clsL
    refine m_index (j := 4) (z := .bl true) (by k_memK) rfl rfl rfl rfl (fun m z' hm hz => ?_) ?_
    · match m, hm with
      | 0, _ => cases hz; rfl
      | 1, _ => cases hz; rfl
      | 2, _ => cases hz; rfl
      | 3, _ => cases hz; rfl
    k_clsL
    exact upX q (by k_offL)
theorem ok__law_word {P : Program} {w : World} {K : PySem.W.Frag} {mg : Str → Option Value} {base : Heap} {cs : Cs} (D__law_word : Dn K mg "_law_word" s__law_word ["_law_e"]) (kw : KitW K cs) (m_isinstance : mg "isinstance" = none) (m_int : mg "int" = none) (m_sum : mg "sum" = none) (m_ValueError : mg "ValueError" = none) (x_BadRule : ExcT K mg "BadRule" cs.BadRule) (x_BadKey : ExcT K mg "BadKey" cs.BadKey) (x_BadSize : ExcT K mg "BadSize" cs.BadSize) (x_Full : ExcT K mg "Full" cs.Full) (x_TooMany : ExcT K mg "TooMany" cs.TooMany) :
    CalX P w K mg base 1 "_law_word" ["_law_e"] (sp_word cs) := by
  refine calX_mk D__law_word sc__law_word fun f cdv A outer s H vs Q E p hot hr h => ?_
  obtain ⟨c, nm, rfl, h1, h2, hw, q⟩ := h
  have ex : ExcC K c := kw.exc hw
  obtain ⟨hh, vs, hd, hn⟩ := id hot
  have hfl : ∃ vs, p.2.data = .fields vs := ⟨vs, hd⟩
  have hc : HotC (cxH (L2N.CX P w) P w K mg base ["_law_e", "_law_flags", "_law_flag"] "_law_word" (defScope s__law_word) f cdv A outer s H E p) := ⟨p, hot, List.mem_cons_self⟩
  refine ⟨t__law_word K cs c p.1, ?_, pure__law_word kw hw q⟩
  exact (pss_cons (ps_set (i := 1) sc__law_word.nd rfl (Or.inl sc__law_word_v1) (pe_lst (pa_cons (pe_callB (call_isH ex h1 h2 hfl List.mem_cons_self) (by rfl) m_isinstance (by decide +kernel) (pa_cons (pv 0) (pa_cons (pe_glob (by rfl) x_BadRule.g rfl) pa_nil))) (pa_cons (pe_callB (call_isH ex h1 h2 hfl List.mem_cons_self) (by rfl) m_isinstance (by decide +kernel) (pa_cons (pv 0) (pa_cons (pe_glob (by rfl) x_BadKey.g rfl) pa_nil))) (pa_cons (pe_callB (call_isH ex h1 h2 hfl List.mem_cons_self) (by rfl) m_isinstance (by decide +kernel) (pa_cons (pv 0) (pa_cons (pe_glob (by rfl) x_BadSize.g rfl) pa_nil))) pa_nil)))))
      (pss_cons (ps_set (i := 1) sc__law_word.nd rfl (Or.inl sc__law_word_v1) (pe_op op_cat (pv 1) (pe_lst (pa_cons (pe_callB (call_isH ex h1 h2 hfl List.mem_cons_self) (by rfl) m_isinstance (by decide +kernel) (pa_cons (pv 0) (pa_cons (pe_glob (by rfl) x_Full.g rfl) pa_nil))) pa_nil))))
      (pss_cons (ps_expr (pe_bm PySem.F.plainAttrs_list PySem.F.slot_list_append PySem.F.type_list_append mt_append (pv 1) (pa_cons (pe_callB (call_isH ex h1 h2 hfl List.mem_cons_self) (by rfl) m_isinstance (by decide +kernel) (pa_cons (pv 0) (pa_cons (pe_glob (by rfl) x_TooMany.g rfl) pa_nil))) pa_nil)))
      (pss_cons (ps_if (PW.pt (pw_or (pt_cmpR op_ne (pe_callB (cr_sumH hc) (by rfl) m_sum (by decide +kernel) (pa_cons (pe_hotInts hc (pv 1) m_int (by decide +kernel) (by decide +kernel) rfl (by decide +kernel) (by decide +kernel) (by decide +kernel) (by decide) (fun _ => rfl)) pa_nil)) pe_int (nomark _)) (pw_or1 (pt_not (pt_val (pe_callB (call_isH ex h1 h2 hfl List.mem_cons_self) (by rfl) m_isinstance (by decide +kernel) (pa_cons (pv 0) (pa_cons (pe_bltn (v := .ty "ValueError") (by rfl) m_ValueError (by decide +kernel) rfl) pa_nil))))))))
      (pss_one (ps_ret pe_str))
      pss_nil)
      (pss_one (ps_ret (pe_ix ix_list (pe_lst (pa_cons pe_str (pa_cons pe_str (pa_cons pe_str (pa_cons pe_str (pa_cons pe_str pa_nil)))))) (pe_bm PySem.F.plainAttrs_list PySem.F.slot_list_index PySem.F.type_list_index mt_index (pv 1) (pa_cons pe_bl pa_nil)) (fun _ _ => rfl))))))))
theorem sc_is_count : FnScope ["thing", "least", "most"] ["thing", "least", "most"] (defScope s_is_count) := ⟨rfl, rfl, rfl, by decide +kernel, rfl, by decide +kernel, by decide +kernel⟩
theorem sc_is_count_v0 : (defScope s_is_count).names.lookup ("thing" : Str) = some .local := by decide +kernel
theorem sc_is_count_v1 : (defScope s_is_count).names.lookup ("least" : Str) = some .local := by decide +kernel
theorem sc_is_count_v2 : (defScope s_is_count).names.lookup ("most" : Str) = some .local := by decide +kernel
def t_is_count (K : PySem.W.Frag) (cs : Cs) (E : XK) : TS :=
  (tRet (tAndV (tCB (rIsi K) (tCons (tVar 0) (tCons (tC (.ty "int")) tNil))) (tAndV (tNotV (tCB (rIsi K) (tCons (tVar 0) (tCons (tC (.ty "bool")) tNil)))) (tChain (rI0 fun i j => .bl (decide (i ≤ j))) (rI0 fun i j => .bl (decide (i ≤ j))) (tVar 1) (tVar 0) (tVar 2)))))
def sp_is_count (K : PySem.W.Frag) (_ : Cs) : Sp := fun vs H Q _ => ∃ x T lo hi, vs = [x, .int lo, .int hi] ∧ Ty5 K H x T ∧ upR Q (.bl (cnt x lo hi)) H
theorem c_is_count {K : PySem.W.Frag} {cs : Cs} {H : Hp} {x : V} {T : String} {lo hi : Int} {Q : PV} {E : XK} (h : Ty5 K H x T) (k : Q (.bl (cnt x lo hi)) H) : kC (fun ws H Q => sp_is_count K cs ws H Q E) [x, .int lo, .int hi] H Q :=
  fun H1 e _ q => ⟨x, T, lo, hi, rfl, h.up e, fun H2 e2 => q _ _ _ k (e.tr e2)⟩
local macro_rules | `(tactic| k_places) => `(tactic| ((with_reducible refine' c_is_count ?k1 ?_); (case k1 => k_ownIn)))
theorem pure_is_count {K : PySem.W.Frag} {cs : Cs} {H : Hp} {vs : List V} {Q : VK} {E : XK} (h : sp_is_count K cs vs H Q E) : t_is_count K cs E { nx := fun _ H' => Q .non H', rt := Q } (start ["thing", "least", "most"] vs) H := by
  obtain ⟨x, T, lo, hi, rfl, h, q⟩ := h
  refine fin (σ := [some x, some (.int lo), some (.int hi)]) ?_
  unfold t_is_count
  cases h with
  | int i =>
    k_clsL
    refine ⟨fun h1 => ?_, fun h1 => ?_⟩
    · k_clsL
      exact upE q (by simp [cnt, h1])
    · k_clsL
      exact upE q (by simp [cnt, h1])
  | _ => k_clsL; exact q
theorem ok_is_count {P : Program} {w : World} {K : PySem.W.Frag} {mg : Str → Option Value} {base : Heap} {cs : Cs} (D_is_count : Dn K mg "is_count" s_is_count ["thing", "least", "most"]) (m_int : mg "int" = none) (m_isinstance : mg "isinstance" = none) (m_bool : mg "bool" = none) :
    Cal P w K mg base (L2N.CX P w) 1 "is_count" ["thing", "least", "most"] (sp_is_count K cs) := by
  refine cal_mk D_is_count sc_is_count (fun vs H Q E h => ?_) fun f cdv A outer s H vs Q E hr h => ⟨t_is_count K cs E, ?_, pure_is_count h⟩
  · unfold sp_is_count at h
    first | (obtain ⟨rfl, _⟩ := h; rfl) | (obtain ⟨_, rfl, _⟩ := h; rfl) | (obtain ⟨_, _, rfl, _⟩ := h; rfl) | (obtain ⟨_, _, _, rfl, _⟩ := h; rfl) | (obtain ⟨_, _, _, _, rfl, _⟩ := h; rfl) | (obtain ⟨_, _, _, _, _, rfl, _⟩ := h; rfl) | (obtain ⟨_, _, _, _, _, _, rfl, _⟩ := h; rfl) | (obtain ⟨_, _, _, _, _, _, _, rfl, _⟩ := h; rfl) | (obtain ⟨_, _, _, _, _, _, _, _, rfl, _⟩ := h; rfl) | (obtain ⟨_, _, _, _, _, _, _, _, _, rfl, _⟩ := h; rfl) | (obtain ⟨_, _, _, _, _, _, _, _, _, _, rfl, _⟩ := h; rfl) | (obtain ⟨_, _, _, _, _, _, _, _, _, _, _, rfl, _⟩ := h; rfl) | (obtain ⟨_, _, _, _, _, _, _, _, _, _, _, _, rfl, _⟩ := h; rfl) | (obtain ⟨_, _, _, _, _, _, _, _, _, _, _, _, _, rfl, _⟩ := h; rfl) | (obtain ⟨_, _, _, _, _, _, _, _, _, _, _, _, _, _, rfl, _⟩ := h; rfl) | (obtain ⟨_, _, _, _, _, _, _, _, _, _, _, _, _, _, _, rfl, _⟩ := h; rfl)
  · exact (pss_one (ps_ret (pe_and (pe_callB call_isi (by rfl) m_isinstance (by decide +kernel) (pa_cons (pv 0) (pa_cons (pe_bltn (v := .ty "int") (by rfl) m_int (by decide +kernel) rfl) pa_nil))) (pe_and (pe_not (pe_callB call_isi (by rfl) m_isinstance (by decide +kernel) (pa_cons (pv 0) (pa_cons (pe_bltn (v := .ty "bool") (by rfl) m_bool (by decide +kernel) rfl) pa_nil)))) (pe_one (pe_chain op_le op_le (pv 1) (pv 0) (pv 2)))))))
theorem sc_is_numbers : FnScope ["thing", "one"] ["thing"] (defScope s_is_numbers) := ⟨rfl, rfl, rfl, by decide +kernel, rfl, by decide +kernel, by decide +kernel⟩
theorem sc_is_numbers_v0 : (defScope s_is_numbers).names.lookup ("thing" : Str) = some .local := by decide +kernel
def t_is_numbers (K : PySem.W.Frag) (cs : Cs) (E : XK) : TS :=
  (tSeq (tIfS (tOr (tNot (tB (tCB (rIsi K) (tCons (tVar 0) (tCons (tC (.ty "tuple")) tNil))))) (tNot (tTest (tChain (rI0 fun i j => .bl (decide (i ≤ j))) (rI0 fun i j => .bl (decide (i ≤ j))) (tC (.int 1)) (tCB (fun xs H Q => ∃ p ys, xs = [V.ref p] ∧ (SqL K H p ys ∨ SqT K H p ys) ∧ Q (.int ys.length) H) (tCons (tVar 0) tNil)) (tC (.int 64))))))
  (tRet (tC (.bl false)))
  tNext)
  (tRet (tCB (rAll K) (tCons (tLc (iTup K (tVar 0)) (gName 1) tYes (tCall (sp_is_count K cs) [] E0 (tCons (tVar 1) (tCons (tC (.int 0)) (tCons (tC (.int 999)) tNil)))) [1]) tNil))))
def sp_is_numbers (K : PySem.W.Frag) (_ : Cs) : Sp := fun vs H Q _ => ∃ v t, vs = [v] ∧ IsT H v t ∧ upR Q (.bl (thNums t)) H
theorem c_is_numbers {K : PySem.W.Frag} {cs : Cs} {H : Hp} {v : V} {t : Th} {Q : PV} {E : XK} (h : IsT H v t) (k : Q (.bl (thNums t)) H) : kC (fun ws H Q => sp_is_numbers K cs ws H Q E) [v] H Q :=
  fun H1 e _ q => ⟨v, t, rfl, h.up e, fun H2 e2 => q _ _ _ k (e.tr e2)⟩
local macro_rules | `(tactic| k_places) => `(tactic| ((with_reducible refine' c_is_numbers ?k1 ?_); (case k1 => k_ownIn)))
theorem pure_is_numbers {K : PySem.W.Frag} {cs : Cs} {H : Hp} {vs : List V} {Q : VK} {E : XK} (h : sp_is_numbers K cs vs H Q E) : t_is_numbers K cs E { nx := fun _ H' => Q .non H', rt := Q } (start ["thing", "one"] vs) H := by
  obtain ⟨v, t, rfl, h, q⟩ := h
  refine fin (σ := [some v, none]) ?_
  unfold t_is_numbers
  cases h with
  | tup h all =>
    rename_i a vs ts
    have hl := all.len
    k_clsL
    refine dec2 (fun h1 => ?_) (fun h1 => ?_)
    · k_clsL
      refine ndec2 (fun h2 => ?_) (fun h2 => ?_)
      · k_clsL
        refine upE q ?_
        have h5 : ¬ ts.length ≤ 64 := by omega
        simp [thNums, h5]
      · k_clsL
        refine e_lcZ ?_
        k_clsL
        refine ⟨SqT.of h, by omega, (ts.map fun t => thCnt t 0 999).map V.bl, by simp [hl], fun D acc i hD hi x hx => ?_, fun D hD => ?_⟩
        · obtain ⟨t, ht, hxt⟩ := all.at hx
          have ty := (hxt.up (Ex.news (o := .lst acc) hD)).ty (K := K)
          refine g_name ⟨rfl, t_yes ⟨rfl, ?_⟩⟩
          k_clsL
          refine ⟨?_, by k_offL⟩
          rw [List.getElem?_map, List.getElem?_map, ht, hxt.cnt]
          rfl
        · refine a_nil (c_all (bs := ts.map fun t => thCnt t 0 999) (by k_memK) ?_)
          refine upX (upE q ?_) (by k_offL)
          have h3 : (1 : Int) ≤ (ts.length : Int) ∧ (ts.length : Int) ≤ 64 := by omega
          have h4 : 1 ≤ ts.length := by omega
          have h5 : ts.length ≤ 64 := by omega
          simp [thNums, h4, h5, List.all_map]
    · k_clsL
      refine upE q ?_
      have h5 : ¬ 1 ≤ ts.length := by omega
      simp [thNums, h5]
  | _ => k_clsL; exact q
theorem ok_is_numbers {P : Program} {w : World} {K : PySem.W.Frag} {mg : Str → Option Value} {base : Heap} {cs : Cs} (D_is_numbers : Dn K mg "is_numbers" s_is_numbers ["thing"]) (cal_is_count : Cal P w K mg base (L2N.CX P w) 1 "is_count" ["thing", "least", "most"] (sp_is_count K cs)) (m_tuple : mg "tuple" = none) (m_isinstance : mg "isinstance" = none) (m_len : mg "len" = none) (m_all : mg "all" = none) (k_MOST_NUMBERS : ∃ t, mg "MOST_NUMBERS" = some (.int 64 t)) (k_MOST_TOLD : ∃ t, mg "MOST_TOLD" = some (.int 999 t)) :
    Cal P w K mg base (L2N.CX P w) 2 "is_numbers" ["thing"] (sp_is_numbers K cs) := by
  refine cal_mk D_is_numbers sc_is_numbers (fun vs H Q E h => ?_) fun f cdv A outer s H vs Q E hr h => ⟨t_is_numbers K cs E, ?_, pure_is_numbers h⟩
  · unfold sp_is_numbers at h
    first | (obtain ⟨rfl, _⟩ := h; rfl) | (obtain ⟨_, rfl, _⟩ := h; rfl) | (obtain ⟨_, _, rfl, _⟩ := h; rfl) | (obtain ⟨_, _, _, rfl, _⟩ := h; rfl) | (obtain ⟨_, _, _, _, rfl, _⟩ := h; rfl) | (obtain ⟨_, _, _, _, _, rfl, _⟩ := h; rfl) | (obtain ⟨_, _, _, _, _, _, rfl, _⟩ := h; rfl) | (obtain ⟨_, _, _, _, _, _, _, rfl, _⟩ := h; rfl) | (obtain ⟨_, _, _, _, _, _, _, _, rfl, _⟩ := h; rfl) | (obtain ⟨_, _, _, _, _, _, _, _, _, rfl, _⟩ := h; rfl) | (obtain ⟨_, _, _, _, _, _, _, _, _, _, rfl, _⟩ := h; rfl) | (obtain ⟨_, _, _, _, _, _, _, _, _, _, _, rfl, _⟩ := h; rfl) | (obtain ⟨_, _, _, _, _, _, _, _, _, _, _, _, rfl, _⟩ := h; rfl) | (obtain ⟨_, _, _, _, _, _, _, _, _, _, _, _, _, rfl, _⟩ := h; rfl) | (obtain ⟨_, _, _, _, _, _, _, _, _, _, _, _, _, _, rfl, _⟩ := h; rfl) | (obtain ⟨_, _, _, _, _, _, _, _, _, _, _, _, _, _, _, rfl, _⟩ := h; rfl)
  · exact (pss_cons (ps_if (PW.pt (pw_or (pt_not (pt_val (pe_callB call_isi (by rfl) m_isinstance (by decide +kernel) (pa_cons (pv 0) (pa_cons (pe_bltn (v := .ty "tuple") (by rfl) m_tuple (by decide +kernel) rfl) pa_nil))))) (pw_or1 (pt_not (pt_chain op_le op_le pe_int (pe_callB call_len_seq (by rfl) m_len (by decide +kernel) (pa_cons (pv 0) pa_nil)) (pe_gI (n := 64) (by rfl) k_MOST_NUMBERS))))))
      (pss_one (ps_ret pe_bl))
      pss_nil)
      (pss_one (ps_ret (pe_callB (cr_all rfl) (by rfl) m_all (by decide +kernel) (pa_cons (pe_lc (own := [("one", 1)]) (g := (gName 1)) (tt := tYes) (by rfl) sc_is_numbers.nd (pi_tup (pv 0)) (blkOk_by (own := [("one", 1)]) (N := ["thing", "one"]) (sc := defScope s_is_numbers) (by decide +kernel)) (fun _ _ _ _ _ => (pg_name (i := 1) sc_is_numbers.nd rfl (Or.inl rfl))) (fun _ _ _ _ _ => pts_nil) (fun _ _ _ _ _ => (pe_cal cal_is_count hr (by decide) (by rfl) passN (pa_cons (pv 1) (pa_cons pe_int (pa_cons (pe_gI (n := 999) (by rfl) k_MOST_TOLD) pa_nil)))))) pa_nil)))))
theorem sc_is_rule : FnScope ["thing", "most"] ["thing"] (defScope s_is_rule) := ⟨rfl, rfl, rfl, by decide +kernel, rfl, by decide +kernel, by decide +kernel⟩
theorem sc_is_rule_v0 : (defScope s_is_rule).names.lookup ("thing" : Str) = some .local := by decide +kernel
theorem sc_is_rule_v1 : (defScope s_is_rule).names.lookup ("most" : Str) = some .local := by decide +kernel
def t_is_rule (K : PySem.W.Frag) (cs : Cs) (E : XK) : TS :=
  (tSeq (tIfS (tOr (tNot (tB (tCB (rIsi K) (tCons (tVar 0) (tCons (tC (.ty "tuple")) tNil))))) (tTest (tOp (rIn K true) (tCB (fun xs H Q => ∃ p ys, xs = [V.ref p] ∧ (SqL K H p ys ∨ SqT K H p ys) ∧ Q (.int ys.length) H) (tCons (tVar 0) tNil)) (tTup (tCons (tC (.int 2)) (tCons (tC (.int 3)) tNil))))))
  (tRet (tC (.bl false)))
  tNext)
  (tSeq (tIfS (tTest (tOp rEq (tCB (fun xs H Q => ∃ p ys, xs = [V.ref p] ∧ (SqL K H p ys ∨ SqT K H p ys) ∧ Q (.int ys.length) H) (tCons (tVar 0) tNil)) (tC (.int 2))))
  (tRet (tAndV (tOp rEq (tOp (rIxT K) (tVar 0) (tC (.int 0))) (tC (.str "told"))) (tCall (sp_is_numbers K cs) [] E0 (tCons (tOp (rIxT K) (tVar 0) (tC (.int 1))) tNil))))
  tNext)
  (tSeq (tAsg (tIf (tTest (tOp rEq (tOp (rIxT K) (tVar 0) (tC (.int 0))) (tC (.str "times")))) (tC (.int 999999)) (tC (.int 30))) (gName 1))
  (tSeq (tIfS (tOr (tTest (tOp (rIn K true) (tOp (rIxT K) (tVar 0) (tC (.int 0))) (tTup (tCons (tC (.str "times")) (tCons (tC (.str "high")) tNil))))) (tNot (tB (tCall (sp_is_count K cs) [] E0 (tCons (tOp (rIxT K) (tVar 0) (tC (.int 1))) (tCons (tC (.int 0)) (tCons (tC (.int 999999)) tNil)))))))
  (tRet (tC (.bl false)))
  tNext)
  (tRet (tCall (sp_is_count K cs) [] E0 (tCons (tOp (rIxT K) (tVar 0) (tC (.int 2))) (tCons (tCB rInt1 (tCons (tOp rEq (tOp (rIxT K) (tVar 0) (tC (.int 0))) (tC (.str "high"))) tNil)) (tCons (tVar 1) tNil)))))))))
def sp_is_rule (K : PySem.W.Frag) (_ : Cs) : Sp := fun vs H Q _ => ∃ v t, vs = [v] ∧ IsT H v t ∧ thOk t = true ∧ upR Q (.bl (thRule t)) H
theorem c_is_rule {K : PySem.W.Frag} {cs : Cs} {H : Hp} {v : V} {t : Th} {Q : PV} {E : XK} (h : IsT H v t) (ho : thOk t = true) (k : Q (.bl (thRule t)) H) : kC (fun ws H Q => sp_is_rule K cs ws H Q E) [v] H Q :=
  fun H1 e _ q => ⟨v, t, rfl, h.up e, ho, fun H2 e2 => q _ _ _ k (e.tr e2)⟩
local macro_rules | `(tactic| k_places) => `(tactic| ((with_reducible refine' c_is_rule ?k1 ?k2 ?_); (case k1 => k_ownIn); (case k2 => first | with_reducible assumption | rfl)))
theorem pure_is_rule {K : PySem.W.Frag} {cs : Cs} {H : Hp} {vs : List V} {Q : VK} {E : XK} (h : sp_is_rule K cs vs H Q E) : t_is_rule K cs E { nx := fun _ H' => Q .non H', rt := Q } (start ["thing", "most"] vs) H := by
  have nth : ¬ (Str.ofString "times" = Str.ofString "high") := by decide
  have nht : ¬ (Str.ofString "high" = Str.ofString "times") := by decide
  obtain ⟨v, t, rfl, h, ho, q⟩ := h
  refine fin (σ := [some v, none]) ?_
  unfold t_is_rule
  cases h with
  | tup h all =>
    rename_i a vs ts
    match ts, all with
    | [], .nil => k_clsL; exact upX q (by k_offL)
    | [hd], .cons _ .nil => k_clsL; exact upX (upE q (by cases hd <;> rfl)) (by k_offL)
    | [hd, t], .cons h1 (.cons h2 .nil) =>
      k_clsL
      cases h1 with
      | int i =>
        k_clsL
        exact upX q (by k_offL)
      | str z =>
        k_clsL
        by_cases hz : z = ("told" : Str)
        · subst hz
          refine bT (by decide) ?_
          k_clsL
          exact upX q (by k_offL)
        · refine bF (by simpa using hz) ?_
          exact upX (upE q (by simp [thRule, hz])) (by k_offL)
      | _ => cases ho
    | [hd, x, y], .cons h1 (.cons h2 (.cons h3 .nil)) =>
      k_clsL
      cases h1 with
      | int i =>
        k_clsL
        exact upX q (by k_offL)
      | str z =>
        by_cases hz : z = ("times" : Str)
        · subst hz
          k_clsL
          refine ⟨fun hb => ?_, fun hb => ?_⟩
          · k_clsL
            rw [h2.cnt] at hb
            exact upX (upE q (by simp at hb; simp [thRule, hb, nth, nht])) (by k_offL)
          · k_clsL
            rw [h2.cnt] at hb
            rw [h3.cnt]
            exact upX (upE q (by simp at hb; simp [thRule, hb, nth, nht])) (by k_offL)
        · refine r_eq rfl ?_
          refine ⟨_, rfl, bF (by simpa using hz) ?_⟩
          by_cases hh : z = ("high" : Str)
          · subst hh
            k_clsL
            refine ⟨fun hb => ?_, fun hb => ?_⟩
            · k_clsL
              rw [h2.cnt] at hb
              exact upX (upE q (by simp at hb; simp [thRule, hb, nth, nht])) (by k_offL)
            · k_clsL
              rw [h2.cnt] at hb
              rw [h3.cnt]
              exact upX (upE q (by simp at hb; simp [thRule, hb, nth, nht])) (by k_offL)
          · k_clsL
            refine bT (by simp [inV, eqV, Ne.symm hz, Ne.symm hh]) ?_
            k_clsL
            exact upX (upE q (by simp [thRule, hz, hh])) (by k_offL)
      | _ => cases ho
    | _ :: _ :: _ :: _ :: ts, .cons h1 (.cons h2 (.cons h3 (.cons h4 r))) =>
      k_clsL
      exact upX (upE q (by simp [thRule])) (by k_offL)
  | _ => k_clsL; exact q
theorem ok_is_rule {P : Program} {w : World} {K : PySem.W.Frag} {mg : Str → Option Value} {base : Heap} {cs : Cs} (D_is_rule : Dn K mg "is_rule" s_is_rule ["thing"]) (cal_is_numbers : Cal P w K mg base (L2N.CX P w) 2 "is_numbers" ["thing"] (sp_is_numbers K cs)) (cal_is_count : Cal P w K mg base (L2N.CX P w) 1 "is_count" ["thing", "least", "most"] (sp_is_count K cs)) (m_tuple : mg "tuple" = none) (m_isinstance : mg "isinstance" = none) (m_len : mg "len" = none) (m_int : mg "int" = none) (k_MOST_NUMBER : ∃ t, mg "MOST_NUMBER" = some (.int 999999 t)) (k_MOST_BITS : ∃ t, mg "MOST_BITS" = some (.int 30 t)) :
    Cal P w K mg base (L2N.CX P w) 3 "is_rule" ["thing"] (sp_is_rule K cs) := by
  refine cal_mk D_is_rule sc_is_rule (fun vs H Q E h => ?_) fun f cdv A outer s H vs Q E hr h => ⟨t_is_rule K cs E, ?_, pure_is_rule h⟩
  · unfold sp_is_rule at h
    first | (obtain ⟨rfl, _⟩ := h; rfl) | (obtain ⟨_, rfl, _⟩ := h; rfl) | (obtain ⟨_, _, rfl, _⟩ := h; rfl) | (obtain ⟨_, _, _, rfl, _⟩ := h; rfl) | (obtain ⟨_, _, _, _, rfl, _⟩ := h; rfl) | (obtain ⟨_, _, _, _, _, rfl, _⟩ := h; rfl) | (obtain ⟨_, _, _, _, _, _, rfl, _⟩ := h; rfl) | (obtain ⟨_, _, _, _, _, _, _, rfl, _⟩ := h; rfl) | (obtain ⟨_, _, _, _, _, _, _, _, rfl, _⟩ := h; rfl) | (obtain ⟨_, _, _, _, _, _, _, _, _, rfl, _⟩ := h; rfl) | (obtain ⟨_, _, _, _, _, _, _, _, _, _, rfl, _⟩ := h; rfl) | (obtain ⟨_, _, _, _, _, _, _, _, _, _, _, rfl, _⟩ := h; rfl) | (obtain ⟨_, _, _, _, _, _, _, _, _, _, _, _, rfl, _⟩ := h; rfl) | (obtain ⟨_, _, _, _, _, _, _, _, _, _, _, _, _, rfl, _⟩ := h; rfl) | (obtain ⟨_, _, _, _, _, _, _, _, _, _, _, _, _, _, rfl, _⟩ := h; rfl) | (obtain ⟨_, _, _, _, _, _, _, _, _, _, _, _, _, _, _, rfl, _⟩ := h; rfl)
  · exact (pss_cons (ps_if (PW.pt (pw_or (pt_not (pt_val (pe_callB call_isi (by rfl) m_isinstance (by decide +kernel) (pa_cons (pv 0) (pa_cons (pe_bltn (v := .ty "tuple") (by rfl) m_tuple (by decide +kernel) rfl) pa_nil))))) (pw_or1 (pt_cmpR op_notIn_seq (pe_callB call_len_seq (by rfl) m_len (by decide +kernel) (pa_cons (pv 0) pa_nil)) (pe_tup (pa_cons pe_int (pa_cons pe_int pa_nil))) (by rfl)))))
      (pss_one (ps_ret pe_bl))
      pss_nil)
      (pss_cons (ps_if (pt_cmpR op_eq (pe_callB call_len_seq (by rfl) m_len (by decide +kernel) (pa_cons (pv 0) pa_nil)) pe_int (nomark _))
      (pss_one (ps_ret (pe_and (pe_cmpR op_eq (pe_ix ix_tup (pv 0) pe_int (fun _ _ => rfl)) pe_str (nomark _)) (pe_one (pe_cal cal_is_numbers hr (by decide) (by rfl) passN (pa_cons (pe_ix ix_tup (pv 0) pe_int (fun _ _ => rfl)) pa_nil))))))
      pss_nil)
      (pss_cons (ps_set (i := 1) sc_is_rule.nd rfl (Or.inl sc_is_rule_v1) (pe_ifExp (pt_cmpR op_eq (pe_ix ix_tup (pv 0) pe_int (fun _ _ => rfl)) pe_str (nomark _)) (pe_gI (n := 999999) (by rfl) k_MOST_NUMBER) (pe_gI (n := 30) (by rfl) k_MOST_BITS)))
      (pss_cons (ps_if (PW.pt (pw_or (pt_cmpR op_notIn_seq (pe_ix ix_tup (pv 0) pe_int (fun _ _ => rfl)) (pe_tup (pa_cons pe_str (pa_cons pe_str pa_nil))) (by rfl)) (pw_or1 (pt_not (pt_val (pe_cal cal_is_count hr (by decide) (by rfl) passN (pa_cons (pe_ix ix_tup (pv 0) pe_int (fun _ _ => rfl)) (pa_cons pe_int (pa_cons (pe_gI (n := 999999) (by rfl) k_MOST_NUMBER) pa_nil)))))))))
      (pss_one (ps_ret pe_bl))
      pss_nil)
      (pss_one (ps_ret (pe_cal cal_is_count hr (by decide) (by rfl) passN (pa_cons (pe_ix ix_tup (pv 0) pe_int (fun _ _ => rfl)) (pa_cons (pe_callTy call_int1 (by rfl) m_int (by decide +kernel) (pa_cons (pe_cmpR op_eq (pe_ix ix_tup (pv 0) pe_int (fun _ _ => rfl)) pe_str (nomark _)) pa_nil)) (pa_cons (pv 1) pa_nil))))))))))
theorem sc_need_rule : FnScope ["rule"] ["rule"] (defScope s_need_rule) := ⟨rfl, rfl, rfl, by decide +kernel, rfl, by decide +kernel, by decide +kernel⟩
theorem sc_need_rule_v0 : (defScope s_need_rule).names.lookup ("rule" : Str) = some .local := by decide +kernel
def t_need_rule (K : PySem.W.Frag) (cs : Cs) (E : XK) : TS :=
  (tIfS (tNot (tB (tCall (sp_is_rule K cs) [] E0 (tCons (tVar 0) tNil))))
  (tRaise E cs.BadRule)
  tNext)
/-- a rule, or what is none -/
def NoRl (H : Hp) (v : V) : Prop := ∃ t, IsT H v t ∧ thOk t = true ∧ thRule t = false
theorem NoRl.up {H H' : Hp} {v : V} (h : NoRl H v) (e : Ex H H') : NoRl H' v := by
  obtain ⟨t, a, b, c⟩ := h
  exact ⟨t, a.up e, b, c⟩
def sp_need_rule (K : PySem.W.Frag) (cs : Cs) : Sp := fun vs H Q E => ∃ v, vs = [v] ∧ ((∃ r, IsRl H v r ∧ r.ok ∧ upR Q .non H) ∨ (NoRl H v ∧ ∀ H2, Ex H H2 → E (.ref cs.BadRule) none H2))
theorem c_need_rule {K : PySem.W.Frag} {cs : Cs} {H : Hp} {v : V} {r : Rl} {Q : PV} {E : XK} (h : IsRl H v r) (ho : r.ok) (k : Q .non H) : kC (fun ws H Q => sp_need_rule K cs ws H Q E) [v] H Q :=
  fun H1 e _ q => ⟨v, rfl, .inl ⟨r, h.up e, ho, fun H2 e2 => q _ _ _ k (e.tr e2)⟩⟩
theorem cE_need_rule {K : PySem.W.Frag} {cs : Cs} {H : Hp} {v : V} {Q : PV} {E : XK} (h : NoRl H v) (k : ∀ H2, Ex H H2 → E (.ref cs.BadRule) none H2) : kC (fun ws H Q => sp_need_rule K cs ws H Q E) [v] H Q :=
  fun H1 e _ q => ⟨v, rfl, .inr ⟨h.up e, fun H2 e2 => k H2 (e.tr e2)⟩⟩
theorem pure_need_rule {K : PySem.W.Frag} {cs : Cs} {H : Hp} {vs : List V} {Q : VK} {E : XK} (h : sp_need_rule K cs vs H Q E) : t_need_rule K cs E { nx := fun _ H' => Q .non H', rt := Q } (start ["rule"] vs) H := by
  obtain ⟨v, rfl, h⟩ := h
  refine fin (σ := [some v]) ?_
  unfold t_need_rule
  rcases h with ⟨r, h, ho, q⟩ | ⟨⟨t, h, ho, hr⟩, q⟩
  · have hx := Rl.ok_th ho
    have ht := h.th
    have ho2 := hx.2
    k_clsL
    rw [hx.1]
    refine bF rfl ?_
    k_clsL
    exact q
  · k_clsL
    rw [hr]
    refine bT rfl ?_
    exact s_raise q
theorem ok_need_rule {P : Program} {w : World} {K : PySem.W.Frag} {mg : Str → Option Value} {base : Heap} {cs : Cs} (D_need_rule : Dn K mg "need_rule" s_need_rule ["rule"]) (cal_is_rule : Cal P w K mg base (L2N.CX P w) 3 "is_rule" ["thing"] (sp_is_rule K cs)) (x_BadRule : ExcT K mg "BadRule" cs.BadRule) :
    Cal P w K mg base (L2N.CX P w) 4 "need_rule" ["rule"] (sp_need_rule K cs) := by
  refine cal_mk D_need_rule sc_need_rule (fun vs H Q E h => ?_) fun f cdv A outer s H vs Q E hr h => ⟨t_need_rule K cs E, ?_, pure_need_rule h⟩
  · unfold sp_need_rule at h
    first | (obtain ⟨rfl, _⟩ := h; rfl) | (obtain ⟨_, rfl, _⟩ := h; rfl) | (obtain ⟨_, _, rfl, _⟩ := h; rfl) | (obtain ⟨_, _, _, rfl, _⟩ := h; rfl) | (obtain ⟨_, _, _, _, rfl, _⟩ := h; rfl) | (obtain ⟨_, _, _, _, _, rfl, _⟩ := h; rfl) | (obtain ⟨_, _, _, _, _, _, rfl, _⟩ := h; rfl) | (obtain ⟨_, _, _, _, _, _, _, rfl, _⟩ := h; rfl) | (obtain ⟨_, _, _, _, _, _, _, _, rfl, _⟩ := h; rfl) | (obtain ⟨_, _, _, _, _, _, _, _, _, rfl, _⟩ := h; rfl) | (obtain ⟨_, _, _, _, _, _, _, _, _, _, rfl, _⟩ := h; rfl) | (obtain ⟨_, _, _, _, _, _, _, _, _, _, _, rfl, _⟩ := h; rfl) | (obtain ⟨_, _, _, _, _, _, _, _, _, _, _, _, rfl, _⟩ := h; rfl) | (obtain ⟨_, _, _, _, _, _, _, _, _, _, _, _, _, rfl, _⟩ := h; rfl) | (obtain ⟨_, _, _, _, _, _, _, _, _, _, _, _, _, _, rfl, _⟩ := h; rfl) | (obtain ⟨_, _, _, _, _, _, _, _, _, _, _, _, _, _, _, rfl, _⟩ := h; rfl)
  · exact (pss_one (ps_if (pt_not (pt_val (pe_cal cal_is_rule hr (by decide) (by rfl) passN (pa_cons (pv 0) pa_nil))))
      (pss_one (ps_raiseT x_BadRule rfl (L2N.takes_of (E := E) rfl rfl rfl rfl) (by rfl)))
      pss_nil))
theorem sc_need_size : FnScope ["size"] ["size"] (defScope s_need_size) := ⟨rfl, rfl, rfl, by decide +kernel, rfl, by decide +kernel, by decide +kernel⟩
theorem sc_need_size_v0 : (defScope s_need_size).names.lookup ("size" : Str) = some .local := by decide +kernel
def t_need_size (K : PySem.W.Frag) (cs : Cs) (E : XK) : TS :=
  (tIfS (tNot (tB (tCall (sp_is_count K cs) [] E0 (tCons (tVar 0) (tCons (tC (.int 2)) (tCons (tC (.int 64)) tNil))))))
  (tRaise E cs.BadSize)
  tNext)
def sp_need_size (K : PySem.W.Frag) (cs : Cs) : Sp := fun vs H Q E => ∃ x T, vs = [x] ∧ Ty5 K H x T ∧ (cnt x 2 64 = true → upR Q .non H) ∧ (cnt x 2 64 = false → ∀ H2, Ex H H2 → E (.ref cs.BadSize) none H2)
theorem c_need_size {K : PySem.W.Frag} {cs : Cs} {H : Hp} {x : V} {T : String} {Q : PV} {E : XK} (h : Ty5 K H x T) (k : (cnt x 2 64 = true → Q .non H) ∧ (cnt x 2 64 = false → ∀ H2, Ex H H2 → E (.ref cs.BadSize) none H2)) : kC (fun ws H Q => sp_need_size K cs ws H Q E) [x] H Q :=
  fun H1 e _ q => ⟨x, T, rfl, h.up e, fun c H2 e2 => q _ _ _ (k.1 c) (e.tr e2), fun c H2 e2 => k.2 c H2 (e.tr e2)⟩
local macro_rules | `(tactic| k_places) => `(tactic| ((with_reducible refine' c_need_size ?k1 ?_); (case k1 => k_ownIn)))
theorem pure_need_size {K : PySem.W.Frag} {cs : Cs} {H : Hp} {vs : List V} {Q : VK} {E : XK} (h : sp_need_size K cs vs H Q E) : t_need_size K cs E { nx := fun _ H' => Q .non H', rt := Q } (start ["size"] vs) H := by
  obtain ⟨x, T, rfl, h, q, r⟩ := h
  refine fin (σ := [some x]) ?_
  unfold t_need_size
  k_clsL
  refine ⟨fun h1 => ?_, fun h1 => ?_⟩
  · exact s_raise (r (by simpa using h1))
  · k_clsL
    exact q (by simpa using h1)
theorem ok_need_size {P : Program} {w : World} {K : PySem.W.Frag} {mg : Str → Option Value} {base : Heap} {cs : Cs} (D_need_size : Dn K mg "need_size" s_need_size ["size"]) (cal_is_count : Cal P w K mg base (L2N.CX P w) 1 "is_count" ["thing", "least", "most"] (sp_is_count K cs)) (k_LEAST_SIZE : ∃ t, mg "LEAST_SIZE" = some (.int 2 t)) (k_MOST_SIZE : ∃ t, mg "MOST_SIZE" = some (.int 64 t)) (x_BadSize : ExcT K mg "BadSize" cs.BadSize) :
    Cal P w K mg base (L2N.CX P w) 2 "need_size" ["size"] (sp_need_size K cs) := by
  refine cal_mk D_need_size sc_need_size (fun vs H Q E h => ?_) fun f cdv A outer s H vs Q E hr h => ⟨t_need_size K cs E, ?_, pure_need_size h⟩
  · unfold sp_need_size at h
    first | (obtain ⟨rfl, _⟩ := h; rfl) | (obtain ⟨_, rfl, _⟩ := h; rfl) | (obtain ⟨_, _, rfl, _⟩ := h; rfl) | (obtain ⟨_, _, _, rfl, _⟩ := h; rfl) | (obtain ⟨_, _, _, _, rfl, _⟩ := h; rfl) | (obtain ⟨_, _, _, _, _, rfl, _⟩ := h; rfl) | (obtain ⟨_, _, _, _, _, _, rfl, _⟩ := h; rfl) | (obtain ⟨_, _, _, _, _, _, _, rfl, _⟩ := h; rfl) | (obtain ⟨_, _, _, _, _, _, _, _, rfl, _⟩ := h; rfl) | (obtain ⟨_, _, _, _, _, _, _, _, _, rfl, _⟩ := h; rfl) | (obtain ⟨_, _, _, _, _, _, _, _, _, _, rfl, _⟩ := h; rfl) | (obtain ⟨_, _, _, _, _, _, _, _, _, _, _, rfl, _⟩ := h; rfl) | (obtain ⟨_, _, _, _, _, _, _, _, _, _, _, _, rfl, _⟩ := h; rfl) | (obtain ⟨_, _, _, _, _, _, _, _, _, _, _, _, _, rfl, _⟩ := h; rfl) | (obtain ⟨_, _, _, _, _, _, _, _, _, _, _, _, _, _, rfl, _⟩ := h; rfl) | (obtain ⟨_, _, _, _, _, _, _, _, _, _, _, _, _, _, _, rfl, _⟩ := h; rfl)
  · exact (pss_one (ps_if (pt_not (pt_val (pe_cal cal_is_count hr (by decide) (by rfl) passN (pa_cons (pv 0) (pa_cons (pe_gI (n := 2) (by rfl) k_LEAST_SIZE) (pa_cons (pe_gI (n := 64) (by rfl) k_MOST_SIZE) pa_nil))))))
      (pss_one (ps_raiseT x_BadSize rfl (L2N.takes_of (E := E) rfl rfl rfl rfl) (by rfl)))
      pss_nil))
theorem sc_need_key : FnScope ["key"] ["key"] (defScope s_need_key) := ⟨rfl, rfl, rfl, by decide +kernel, rfl, by decide +kernel, by decide +kernel⟩
theorem sc_need_key_v0 : (defScope s_need_key).names.lookup ("key" : Str) = some .local := by decide +kernel
def t_need_key (K : PySem.W.Frag) (cs : Cs) (E : XK) : TS :=
  (tIfS (tNot (tB (tCall (sp_is_count K cs) [] E0 (tCons (tVar 0) (tCons (tC (.int 0)) (tCons (tC (.int 999999)) tNil))))))
  (tRaise E cs.BadKey)
  tNext)
def sp_need_key (K : PySem.W.Frag) (cs : Cs) : Sp := fun vs H Q E => ∃ x T, vs = [x] ∧ Ty5 K H x T ∧ (cnt x 0 999999 = true → upR Q .non H) ∧ (cnt x 0 999999 = false → ∀ H2, Ex H H2 → E (.ref cs.BadKey) none H2)
theorem c_need_key {K : PySem.W.Frag} {cs : Cs} {H : Hp} {x : V} {T : String} {Q : PV} {E : XK} (h : Ty5 K H x T) (k : (cnt x 0 999999 = true → Q .non H) ∧ (cnt x 0 999999 = false → ∀ H2, Ex H H2 → E (.ref cs.BadKey) none H2)) : kC (fun ws H Q => sp_need_key K cs ws H Q E) [x] H Q :=
  fun H1 e _ q => ⟨x, T, rfl, h.up e, fun c H2 e2 => q _ _ _ (k.1 c) (e.tr e2), fun c H2 e2 => k.2 c H2 (e.tr e2)⟩
local macro_rules | `(tactic| k_places) => `(tactic| ((with_reducible refine' c_need_key ?k1 ?_); (case k1 => k_ownIn)))
theorem pure_need_key {K : PySem.W.Frag} {cs : Cs} {H : Hp} {vs : List V} {Q : VK} {E : XK} (h : sp_need_key K cs vs H Q E) : t_need_key K cs E { nx := fun _ H' => Q .non H', rt := Q } (start ["key"] vs) H := by
  obtain ⟨x, T, rfl, h, q, r⟩ := h
  refine fin (σ := [some x]) ?_
  unfold t_need_key
  k_clsL
  refine ⟨fun h1 => ?_, fun h1 => ?_⟩
  · exact s_raise (r (by simpa using h1))
  · k_clsL
    exact q (by simpa using h1)
theorem ok_need_key {P : Program} {w : World} {K : PySem.W.Frag} {mg : Str → Option Value} {base : Heap} {cs : Cs} (D_need_key : Dn K mg "need_key" s_need_key ["key"]) (cal_is_count : Cal P w K mg base (L2N.CX P w) 1 "is_count" ["thing", "least", "most"] (sp_is_count K cs)) (k_MOST_NUMBER : ∃ t, mg "MOST_NUMBER" = some (.int 999999 t)) (x_BadKey : ExcT K mg "BadKey" cs.BadKey) :
    Cal P w K mg base (L2N.CX P w) 2 "need_key" ["key"] (sp_need_key K cs) := by
  refine cal_mk D_need_key sc_need_key (fun vs H Q E h => ?_) fun f cdv A outer s H vs Q E hr h => ⟨t_need_key K cs E, ?_, pure_need_key h⟩
  · unfold sp_need_key at h
    first | (obtain ⟨rfl, _⟩ := h; rfl) | (obtain ⟨_, rfl, _⟩ := h; rfl) | (obtain ⟨_, _, rfl, _⟩ := h; rfl) | (obtain ⟨_, _, _, rfl, _⟩ := h; rfl) | (obtain ⟨_, _, _, _, rfl, _⟩ := h; rfl) | (obtain ⟨_, _, _, _, _, rfl, _⟩ := h; rfl) | (obtain ⟨_, _, _, _, _, _, rfl, _⟩ := h; rfl) | (obtain ⟨_, _, _, _, _, _, _, rfl, _⟩ := h; rfl) | (obtain ⟨_, _, _, _, _, _, _, _, rfl, _⟩ := h; rfl) | (obtain ⟨_, _, _, _, _, _, _, _, _, rfl, _⟩ := h; rfl) | (obtain ⟨_, _, _, _, _, _, _, _, _, _, rfl, _⟩ := h; rfl) | (obtain ⟨_, _, _, _, _, _, _, _, _, _, _, rfl, _⟩ := h; rfl) | (obtain ⟨_, _, _, _, _, _, _, _, _, _, _, _, rfl, _⟩ := h; rfl) | (obtain ⟨_, _, _, _, _, _, _, _, _, _, _, _, _, rfl, _⟩ := h; rfl) | (obtain ⟨_, _, _, _, _, _, _, _, _, _, _, _, _, _, rfl, _⟩ := h; rfl) | (obtain ⟨_, _, _, _, _, _, _, _, _, _, _, _, _, _, _, rfl, _⟩ := h; rfl)
  · exact (pss_one (ps_if (pt_not (pt_val (pe_cal cal_is_count hr (by decide) (by rfl) passN (pa_cons (pv 0) (pa_cons pe_int (pa_cons (pe_gI (n := 999999) (by rfl) k_MOST_NUMBER) pa_nil))))))
      (pss_one (ps_raiseT x_BadKey rfl (L2N.takes_of (E := E) rfl rfl rfl rfl) (by rfl)))
      pss_nil))
theorem sc_need_keys : FnScope ["keys", "key"] ["keys"] (defScope s_need_keys) := ⟨rfl, rfl, rfl, by decide +kernel, rfl, by decide +kernel, by decide +kernel⟩
theorem sc_need_keys_v0 : (defScope s_need_keys).names.lookup ("keys" : Str) = some .local := by decide +kernel
theorem sc_need_keys_v1 : (defScope s_need_keys).names.lookup ("key" : Str) = some .local := by decide +kernel
def t_need_keys (K : PySem.W.Frag) (cs : Cs) (E : XK) : TS :=
  (tSeq (tFor (iList K (tVar 0)) (gName 1)
  (tDrop (tCall (sp_need_key K cs) [] E (tCons (tVar 1) tNil))))
  (tIfS (tTest (tOp (rI0 fun i j => .bl (decide (i < j))) (tLenSet K (tVar 0)) (tCB (fun xs H Q => ∃ p ys, xs = [V.ref p] ∧ (SqL K H p ys ∨ SqT K H p ys) ∧ Q (.int ys.length) H) (tCons (tVar 0) tNil))))
  (tRaise E cs.BadKey)
  tNext))
def GoodKeys (xs : List V) (ns : List Nat) : Prop := xs = (ns.map fun n : Nat => V.int (n : Int)) ∧ ns.Nodup ∧ ∀ n ∈ ns, n ≤ 999999
def nI (ns : List Nat) : List Int := ns.map fun n : Nat => (n : Int)
theorem nI_v {ns : List Nat} : (nI ns).map V.int = ns.map fun n : Nat => V.int (n : Int) := by
  unfold nI
  rw [List.map_map]
  rfl
theorem nI_nodup {ns : List Nat} : (nI ns).Nodup ↔ ns.Nodup := by
  unfold nI
  constructor
  · intro h
    exact (List.pairwise_map.mp h).imp fun h e => h (by rw [e])
  · intro h
    exact List.pairwise_map.mpr (h.imp fun h e => h (by omega))
theorem map_int_inj : ∀ {a b : List Int}, a.map V.int = b.map V.int → a = b
  | [], [], _ => rfl
  | [], _ :: _, h => by simp at h
  | _ :: _, [], h => by simp at h
  | x :: a, y :: b, h => by
    simp only [List.map_cons, List.cons.injEq, V.int.injEq] at h
    rw [h.1, map_int_inj h.2]
theorem cnt_key {x : V} (h : cnt x 0 999999 = true) : ∃ n : Nat, x = .int (n : Int) ∧ n ≤ 999999 := by
  cases x with
  | int i =>
    simp only [cnt, Bool.and_eq_true, decide_eq_true_eq] at h
    exact ⟨i.toNat, by congr 1; omega, by omega⟩
  | _ => simp [cnt] at h
theorem cnt_keys : ∀ {xs : List V}, (∀ x ∈ xs, cnt x 0 999999 = true) → ∃ ns : List Nat, xs = (ns.map fun n : Nat => V.int (n : Int)) ∧ ∀ n ∈ ns, n ≤ 999999
  | [], _ => ⟨[], rfl, fun _ h => absurd h List.not_mem_nil⟩
  | x :: xs, h => by
    obtain ⟨n, hx, hn⟩ := cnt_key (h x List.mem_cons_self)
    obtain ⟨ns, hs, ha⟩ := cnt_keys fun y hy => h y (List.mem_cons_of_mem _ hy)
    exact ⟨n :: ns, by rw [hx, hs]; rfl, List.forall_mem_cons.mpr ⟨hn, ha⟩⟩
theorem good_cnt {xs : List V} {ns : List Nat} (g : GoodKeys xs ns) {x : V} (h : x ∈ xs) : cnt x 0 999999 = true := by
  obtain ⟨rfl, _, hn⟩ := g
  obtain ⟨n, h1, rfl⟩ := List.mem_map.mp h
  have := hn n h1
  exact cnt_ok (by omega) (by omega)
def sp_need_keys (K : PySem.W.Frag) (cs : Cs) : Sp := fun vs H Q E => ∃ l xs, vs = [.ref l] ∧ H l = some (.lst xs) ∧ xs.length ≤ 4000 ∧ (∀ x ∈ xs, ∃ T, Ty5 K H x T) ∧
  ((∃ ns, GoodKeys xs ns ∧ upR Q .non H) ∨ ((∀ ns, ¬ GoodKeys xs ns) ∧ ∀ H2, Ex H H2 → E (.ref cs.BadKey) none H2))
theorem good_ty {K : PySem.W.Frag} {H : Hp} {xs : List V} {ns : List Nat} (g : GoodKeys xs ns) : ∀ x ∈ xs, ∃ T, Ty5 K H x T := fun x h => by
  obtain ⟨rfl, _, hn⟩ := g
  obtain ⟨n, h1, rfl⟩ := List.mem_map.mp h
  exact ⟨_, .int _⟩
theorem c_need_keys {K : PySem.W.Frag} {cs : Cs} {H : Hp} {l : Addr} {xs : List V} {ns : List Nat} {Q : PV} {E : XK} (h : H l = some (.lst xs)) (hl : xs.length ≤ 4000) (g : GoodKeys xs ns) (k : Q .non H) : kC (fun ws H Q => sp_need_keys K cs ws H Q E) [.ref l] H Q :=
  fun H1 e _ q => ⟨l, xs, rfl, e _ _ h, hl, good_ty g, .inl ⟨ns, g, fun H2 e2 => q _ _ _ k (e.tr e2)⟩⟩
theorem cE_need_keys {K : PySem.W.Frag} {cs : Cs} {H : Hp} {l : Addr} {xs : List V} {Q : PV} {E : XK} (h : H l = some (.lst xs)) (hl : xs.length ≤ 4000) (ty : ∀ x ∈ xs, ∃ T, Ty5 K H x T) (g : ∀ ns, ¬ GoodKeys xs ns) (k : ∀ H2, Ex H H2 → E (.ref cs.BadKey) none H2) : kC (fun ws H Q => sp_need_keys K cs ws H Q E) [.ref l] H Q :=
  fun H1 e _ q => ⟨l, xs, rfl, e _ _ h, hl, fun x hx => (ty x hx).imp fun T t => t.up e, .inr ⟨g, fun H2 e2 => k H2 (e.tr e2)⟩⟩
theorem pure_need_keys {K : PySem.W.Frag} {cs : Cs} {H : Hp} {vs : List V} {Q : VK} {E : XK} (h : sp_need_keys K cs vs H Q E) : t_need_keys K cs E { nx := fun _ H' => Q .non H', rt := Q } (start ["keys", "key"] vs) H := by
  obtain ⟨l, xs, rfl, h, hl, ty, w⟩ := h
  refine fin (σ := [some (.ref l), none]) ?_
  unfold t_need_keys
  k_clsL
  refine s_for ?_
  k_clsL
  refine ⟨fun i s H1 => H1 = H ∧ (∃ z, s = [some (.ref l), z]) ∧ ∀ x ∈ xs.take i, cnt x 0 999999 = true, ⟨rfl, ⟨none, rfl⟩, by simp⟩, fun i s H1 _ hw => by rw [hw.1]; exact SqL.of h, ?_, ?_⟩
  · rintro i s H1 hi ⟨rfl, ⟨z, rfl⟩, ha⟩ x hx
    have hm : x ∈ xs := List.mem_of_getElem? hx
    obtain ⟨T, t⟩ := ty x hm
    refine g_name ?_
    k_clsL
    refine ⟨fun hc => ?_, fun hc => ?_⟩
    · refine ⟨_, ⟨rfl, ⟨some x, rfl⟩, fun y hy => ?_⟩, Ex.rf⟩
      rw [List.take_succ, hx] at hy
      rcases List.mem_append.mp hy with hy | hy
      · exact ha y hy
      · rw [List.mem_singleton.mp hy]
        exact hc
    · rcases w with ⟨ns, g, _⟩ | ⟨_, r⟩
      · rw [good_cnt g hm] at hc
        cases hc
      · exact r
  · rintro s H1 ⟨rfl, ⟨z, rfl⟩, ha⟩
    rw [List.take_length] at ha
    obtain ⟨ns, hx, hn⟩ := cnt_keys ha
    k_clsL
    refine e_lenSet ?_
    k_clsL
    refine ⟨l, nI ns, rfl, by rw [nI_v, ← hx]; exact SqL.of h, by simpa [nI, hx] using hl, fun m h1 h2 => ?_⟩
    k_clsL
    have e1 : (nI ns).length = ns.length := by simp [nI]
    have e2 : xs.length = ns.length := by rw [hx, List.length_map]
    rcases w with ⟨ns', g, q⟩ | ⟨g, r⟩
    · have hnd : ns.Nodup := by
        obtain ⟨e, hnd, _⟩ := g
        have : nI ns = nI ns' := by
          have : (nI ns).map V.int = (nI ns').map V.int := by rw [nI_v, nI_v, ← hx, e]
          exact map_int_inj this
        exact nI_nodup.mp (this ▸ nI_nodup.mpr hnd)
      have := h1 (nI_nodup.mpr hnd)
      refine bF (by simp; omega) ?_
      k_clsL
      exact q
    · have hnd : ¬ ns.Nodup := fun hnd => g ns ⟨hx, hnd, hn⟩
      have := h2 (fun z => hnd (nI_nodup.mp z))
      refine bT (by simp; omega) ?_
      exact s_raise r
theorem ok_need_keys {P : Program} {w : World} {K : PySem.W.Frag} {mg : Str → Option Value} {base : Heap} {cs : Cs} (D_need_keys : Dn K mg "need_keys" s_need_keys ["keys"]) (cal_need_key : Cal P w K mg base (L2N.CX P w) 2 "need_key" ["key"] (sp_need_key K cs)) (m_len : mg "len" = none) (m_set : mg "set" = none) (x_BadKey : ExcT K mg "BadKey" cs.BadKey) :
    Cal P w K mg base (L2N.CX P w) 3 "need_keys" ["keys"] (sp_need_keys K cs) := by
  refine cal_mk D_need_keys sc_need_keys (fun vs H Q E h => ?_) fun f cdv A outer s H vs Q E hr h => ⟨t_need_keys K cs E, ?_, pure_need_keys h⟩
  · unfold sp_need_keys at h
    first | (obtain ⟨rfl, _⟩ := h; rfl) | (obtain ⟨_, rfl, _⟩ := h; rfl) | (obtain ⟨_, _, rfl, _⟩ := h; rfl) | (obtain ⟨_, _, _, rfl, _⟩ := h; rfl) | (obtain ⟨_, _, _, _, rfl, _⟩ := h; rfl) | (obtain ⟨_, _, _, _, _, rfl, _⟩ := h; rfl) | (obtain ⟨_, _, _, _, _, _, rfl, _⟩ := h; rfl) | (obtain ⟨_, _, _, _, _, _, _, rfl, _⟩ := h; rfl) | (obtain ⟨_, _, _, _, _, _, _, _, rfl, _⟩ := h; rfl) | (obtain ⟨_, _, _, _, _, _, _, _, _, rfl, _⟩ := h; rfl) | (obtain ⟨_, _, _, _, _, _, _, _, _, _, rfl, _⟩ := h; rfl) | (obtain ⟨_, _, _, _, _, _, _, _, _, _, _, rfl, _⟩ := h; rfl) | (obtain ⟨_, _, _, _, _, _, _, _, _, _, _, _, rfl, _⟩ := h; rfl) | (obtain ⟨_, _, _, _, _, _, _, _, _, _, _, _, _, rfl, _⟩ := h; rfl) | (obtain ⟨_, _, _, _, _, _, _, _, _, _, _, _, _, _, rfl, _⟩ := h; rfl) | (obtain ⟨_, _, _, _, _, _, _, _, _, _, _, _, _, _, _, rfl, _⟩ := h; rfl)
  · exact (pss_cons (ps_for (passes_of rfl) rfl (pi_list (pv 0)) (pg_name (i := 1) sc_need_keys.nd rfl (Or.inl sc_need_keys_v1))
      (pss_one (ps_expr (pe_cal cal_need_key hr (by decide) (by rfl) (L2N.passes_call (L2N.takes_of (E := E) rfl rfl rfl rfl) fun _ _ _ _ h => h) (pa_cons (pv 1) pa_nil)))))
      (pss_one (ps_if (pt_cmpR op_lt (pe_lenSetG (by rfl) (by rfl) m_len m_set (pv 0)) (pe_callB call_len_seq (by rfl) m_len (by decide +kernel) (pa_cons (pv 0) pa_nil)) (nomark _))
      (pss_one (ps_raiseT x_BadKey rfl (L2N.takes_of (E := E) rfl rfl rfl rfl) (by rfl)))
      pss_nil)))
theorem sc_home_of : FnScope ["rule", "key", "size", "whole"] ["rule", "key", "size"] (defScope s_home_of) := ⟨rfl, rfl, rfl, by decide +kernel, rfl, by decide +kernel, by decide +kernel⟩
theorem sc_home_of_v0 : (defScope s_home_of).names.lookup ("rule" : Str) = some .local := by decide +kernel
theorem sc_home_of_v1 : (defScope s_home_of).names.lookup ("key" : Str) = some .local := by decide +kernel
theorem sc_home_of_v2 : (defScope s_home_of).names.lookup ("size" : Str) = some .local := by decide +kernel
theorem sc_home_of_v3 : (defScope s_home_of).names.lookup ("whole" : Str) = some .local := by decide +kernel
def t_home_of (K : PySem.W.Frag) (cs : Cs) (E : XK) : TS :=
  (tSeq (tIfS (tTest (tOp rEq (tOp (rIxT K) (tVar 0) (tC (.int 0))) (tC (.str "times"))))
  (tRet (tOp (rI (fun _ j => 0 < j) fun i j => .int (i % j)) (tOp (rI0 fun i j => .int (i + j)) (tOp (rI IntMulOk fun i j => .int (i * j)) (tOp (rIxT K) (tVar 0) (tC (.int 1))) (tVar 1)) (tOp (rIxT K) (tVar 0) (tC (.int 2)))) (tVar 2)))
  tNext)
  (tSeq (tIfS (tTest (tOp rEq (tOp (rIxT K) (tVar 0) (tC (.int 0))) (tC (.str "high"))))
  (tSeq (tAsg (tOp (rI CPow fun i j => .int (i * 2 ^ j.toNat)) (tC (.int 1)) (tOp (rIxT K) (tVar 0) (tC (.int 2)))) (gName 3))
  (tRet (tOp (rI CDivW fun i j => .int (i / j)) (tOp (rI IntMulOk fun i j => .int (i * j)) (tOp (rI (fun _ j => 0 < j) fun i j => .int (i % j)) (tOp (rI IntMulOk fun i j => .int (i * j)) (tOp (rIxT K) (tVar 0) (tC (.int 1))) (tVar 1)) (tVar 3)) (tVar 2)) (tVar 3))))
  tNext)
  (tRet (tOp (rI (fun _ j => 0 < j) fun i j => .int (i % j)) (tOp (rIxT K) (tOp (rIxT K) (tVar 0) (tC (.int 1))) (tOp (rI (fun _ j => 0 < j) fun i j => .int (i % j)) (tVar 1) (tCB (fun xs H Q => ∃ p ys, xs = [V.ref p] ∧ (SqL K H p ys ∨ SqT K H p ys) ∧ Q (.int ys.length) H) (tCons (tOp (rIxT K) (tVar 0) (tC (.int 1))) tNil)))) (tVar 2)))))
def sp_home_of (K : PySem.W.Frag) (_ : Cs) : Sp := fun vs H Q _ => ∃ (v : V) (r : Rl) (key size : Nat), vs = [v, .int (key : Int), .int (size : Int)] ∧ IsRl H v r ∧ r.ok ∧ key ≤ 999999 ∧ 2 ≤ size ∧ size ≤ 64 ∧ upR Q (.int (homeN r key size : Nat)) H
theorem c_home_of {K : PySem.W.Frag} {cs : Cs} {H : Hp} {v : V} {r : Rl} {key size : Nat} {i j : Int} {Q : PV} {E : XK} (hi : i = key) (hj : j = size) (h : IsRl H v r) (ho : r.ok) (hk : key ≤ 999999) (h2 : 2 ≤ size) (h6 : size ≤ 64) (k : Q (.int (homeN r key size : Nat)) H) : kC (fun ws H Q => sp_home_of K cs ws H Q E) [v, .int i, .int j] H Q := by
  subst hi hj
  exact fun H1 e _ q => ⟨v, r, key, size, rfl, h.up e, ho, hk, h2, h6, fun H2 e2 => q _ _ _ k (e.tr e2)⟩
theorem pure_home_of {K : PySem.W.Frag} {cs : Cs} {H : Hp} {vs : List V} {Q : VK} {E : XK} (h : sp_home_of K cs vs H Q E) : t_home_of K cs E { nx := fun _ H' => Q .non H', rt := Q } (start ["rule", "key", "size", "whole"] vs) H := by
  obtain ⟨v, r, key, size, rfl, h, ho, hk, h2, h6, q⟩ := h
  refine fin (σ := [some v, some (.int (key : Int)), some (.int (size : Int)), none]) ?_
  unfold t_home_of
  cases r with
  | times a b =>
    obtain ⟨p, rfl, hp⟩ := h
    obtain ⟨ha, hb⟩ := ho
    k_clsL
    exact upE q (by rw [homeN]; exact congrArg V.int (by push_cast; rfl))
  | high a b =>
    obtain ⟨p, rfl, hp⟩ := h
    obtain ⟨ha, hb1, hb⟩ := ho
    have hc : CPow 1 (b : Int) := ⟨by omega, by omega, by decide⟩
    have e1 : (1 : Int) * 2 ^ ((b : Int)).toNat = ((2 ^ b : Nat) : Int) := by
      rw [Int.toNat_natCast]
      push_cast
      omega
    have w0 : 0 < 2 ^ b := Nat.two_pow_pos b
    have w1 : 2 ^ b < 2 ^ 31 := pow_lt30 hb
    have e2 : homeN (.high a b) key size = a * key % 2 ^ b * size / 2 ^ b := rfl
    rw [e2] at q
    k_clsL
    rw [e1]
    generalize 2 ^ b = W at *
    k_clsL
    exact upE q (congrArg V.int (by push_cast; rfl))
  | told ns =>
    obtain ⟨p, l, rfl, hp, hl⟩ := h
    obtain ⟨ha, hb, hn⟩ := ho
    k_clsL
    rw [List.length_map]
    k_clsL
    have hi : key % ns.length < ns.length := Nat.mod_lt _ (by omega)
    refine r_ixT (v := .int ((ns[key % ns.length] : Nat) : Int)) (SqT.of hl) (atI_mod (by rw [List.getElem?_map, List.getElem?_eq_getElem hi]; rfl)) ?_
    k_clsL
    refine upE q (congrArg V.int ?_)
    rw [homeN, List.getD_eq_getElem?_getD, List.getElem?_eq_getElem hi]
    push_cast
    rfl
theorem ok_home_of {P : Program} {w : World} {K : PySem.W.Frag} {mg : Str → Option Value} {base : Heap} {cs : Cs} (D_home_of : Dn K mg "home_of" s_home_of ["rule", "key", "size"]) (m_len : mg "len" = none) :
    Cal P w K mg base (L2N.CX P w) 1 "home_of" ["rule", "key", "size"] (sp_home_of K cs) := by
  refine cal_mk D_home_of sc_home_of (fun vs H Q E h => ?_) fun f cdv A outer s H vs Q E hr h => ⟨t_home_of K cs E, ?_, pure_home_of h⟩
  · unfold sp_home_of at h
    first | (obtain ⟨rfl, _⟩ := h; rfl) | (obtain ⟨_, rfl, _⟩ := h; rfl) | (obtain ⟨_, _, rfl, _⟩ := h; rfl) | (obtain ⟨_, _, _, rfl, _⟩ := h; rfl) | (obtain ⟨_, _, _, _, rfl, _⟩ := h; rfl) | (obtain ⟨_, _, _, _, _, rfl, _⟩ := h; rfl) | (obtain ⟨_, _, _, _, _, _, rfl, _⟩ := h; rfl) | (obtain ⟨_, _, _, _, _, _, _, rfl, _⟩ := h; rfl) | (obtain ⟨_, _, _, _, _, _, _, _, rfl, _⟩ := h; rfl) | (obtain ⟨_, _, _, _, _, _, _, _, _, rfl, _⟩ := h; rfl) | (obtain ⟨_, _, _, _, _, _, _, _, _, _, rfl, _⟩ := h; rfl) | (obtain ⟨_, _, _, _, _, _, _, _, _, _, _, rfl, _⟩ := h; rfl) | (obtain ⟨_, _, _, _, _, _, _, _, _, _, _, _, rfl, _⟩ := h; rfl) | (obtain ⟨_, _, _, _, _, _, _, _, _, _, _, _, _, rfl, _⟩ := h; rfl) | (obtain ⟨_, _, _, _, _, _, _, _, _, _, _, _, _, _, rfl, _⟩ := h; rfl) | (obtain ⟨_, _, _, _, _, _, _, _, _, _, _, _, _, _, _, rfl, _⟩ := h; rfl)
  · exact (pss_cons (ps_if (pt_cmpR op_eq (pe_ix ix_tup (pv 0) pe_int (fun _ _ => rfl)) pe_str (nomark _))
      (pss_one (ps_ret (pe_op op_mod (pe_op op_add (pe_op op_mulX (pe_ix ix_tup (pv 0) pe_int (fun _ _ => rfl)) (pv 1)) (pe_ix ix_tup (pv 0) pe_int (fun _ _ => rfl))) (pv 2))))
      pss_nil)
      (pss_cons (ps_if (pt_cmpR op_eq (pe_ix ix_tup (pv 0) pe_int (fun _ _ => rfl)) pe_str (nomark _))
      (pss_cons (ps_set (i := 3) sc_home_of.nd rfl (Or.inl sc_home_of_v3) (pe_op op_shl pe_int (pe_ix ix_tup (pv 0) pe_int (fun _ _ => rfl))))
      (pss_one (ps_ret (pe_op op_fdivW (pe_op op_mulX (pe_op op_mod (pe_op op_mulX (pe_ix ix_tup (pv 0) pe_int (fun _ _ => rfl)) (pv 1)) (pv 3)) (pv 2)) (pv 3)))))
      pss_nil)
      (pss_one (ps_ret (pe_op op_mod (pe_ix ix_tup (pe_ix ix_tup (pv 0) pe_int (fun _ _ => rfl)) (pe_op op_mod (pv 1) (pe_callB call_len_seq (by rfl) m_len (by decide +kernel) (pa_cons (pe_ix ix_tup (pv 0) pe_int (fun _ _ => rfl)) pa_nil))) (fun _ _ => rfl)) (pv 2))))))
theorem sc_chains : FnScope ["rule", "size", "keys", "found", "key", "place"] ["rule", "size", "keys"] (defScope s_chains) := ⟨rfl, rfl, rfl, by decide +kernel, rfl, by decide +kernel, by decide +kernel⟩
theorem sc_chains_v0 : (defScope s_chains).names.lookup ("rule" : Str) = some .local := by decide +kernel
theorem sc_chains_v1 : (defScope s_chains).names.lookup ("size" : Str) = some .local := by decide +kernel
theorem sc_chains_v2 : (defScope s_chains).names.lookup ("keys" : Str) = some .local := by decide +kernel
theorem sc_chains_v3 : (defScope s_chains).names.lookup ("found" : Str) = some .local := by decide +kernel
theorem sc_chains_v4 : (defScope s_chains).names.lookup ("key" : Str) = some .local := by decide +kernel
def t_chains (K : PySem.W.Frag) (cs : Cs) (E : XK) : TS :=
  (tSeq (tDrop (tCall (sp_need_rule K cs) [] E (tCons (tVar 0) tNil)))
  (tSeq (tDrop (tCall (sp_need_size K cs) [] E (tCons (tVar 1) tNil)))
  (tSeq (tDrop (tCall (sp_need_keys K cs) [] E (tCons (tVar 2) tNil)))
  (tSeq (tAsg (tLc (iRng1 (tCons (tVar 1) tNil)) (gName 5) tYes (tLst tNil) [5]) (gName 3))
  (tSeq (tFor (iList K (tCB (rSortedI K) (tCons (tVar 2) tNil))) (gName 4)
  (tDrop (tBM K "list" rAppend (tOp (rIxL K) (tVar 3) (tCall (sp_home_of K cs) [] E0 (tCons (tVar 0) (tCons (tVar 4) (tCons (tVar 1) tNil))))) (tCons (tVar 4) tNil))))
  (tRet (tVar 3)))))))
theorem nodup_inj {α : Type} {l : List α} (h : l.Nodup) {i j : Nat} (hi : i < l.length) (hj : j < l.length) (e : l[i] = l[j]) : i = j := by
  rcases Nat.lt_trichotomy i j with z | z | z
  · exact absurd e (List.pairwise_iff_getElem.mp h i j hi hj z)
  · exact z
  · exact absurd e.symm (List.pairwise_iff_getElem.mp h j i hj hi z)
def buck (r : Rl) (size : Nat) (ms : List Int) : List (List Int) := (List.range size).map fun p => ms.filter fun k => homeN r k.toNat size == p
theorem buck_at {r : Rl} {size : Nat} {ms : List Int} {j : Nat} (h : j < (buck r size ms).length) : (buck r size ms)[j] = ms.filter fun k => homeN r k.toNat size == j := by
  simp [buck]
/-- what chains answers: sorted keys by their homes, in lists that are new -/
def ChainW (H : Hp) (cs : Cs) (v x : V) (kl : Addr) (xs : List V) (G : Hp → Addr → Prop) (B : Addr → Str → Prop) : Prop :=
  (NoRl H v ∧ B cs.BadRule "BadRule") ∨ ∃ r, IsRl H v r ∧ r.ok ∧ ((cnt x 2 64 = false ∧ B cs.BadSize "BadSize") ∨ ∃ size : Nat, x = .int (size : Int) ∧ 2 ≤ size ∧ size ≤ 64 ∧
    (((∀ ns, ¬ GoodKeys xs ns) ∧ B cs.BadKey "BadKey") ∨ ∃ ns, GoodKeys xs ns ∧ ∀ (H' : Hp) (p : Addr) (ps : List Addr) (ms : List Int), Ex H H' → ms.Perm (nI ns) → ms.Pairwise (· ≤ ·) → H p = none → (∀ q ∈ ps, H q = none) → H' p = some (.lst (ps.map V.ref)) → LLs H' ps (buck r size ms) → G H' p))
theorem ChainW.up {H H' : Hp} {cs : Cs} {v x : V} {kl : Addr} {xs : List V} {G G' : Hp → Addr → Prop} {B B' : Addr → Str → Prop} (e : Ex H H') (g : ∀ H n, G H n → G' H n) (b : ∀ c nm, wordOf cs c nm → B c nm → B' c nm) (h : ChainW H cs v x kl xs G B) : ChainW H' cs v x kl xs G' B' := by
  rcases h with ⟨h, k⟩ | ⟨r, hr, ho, h | ⟨size, hx, h2, h6, h | ⟨ns, gd, k⟩⟩⟩
  · exact .inl ⟨h.up e, b _ _ w_rule k⟩
  · exact .inr ⟨r, hr.up e, ho, .inl ⟨h.1, b _ _ w_size h.2⟩⟩
  · exact .inr ⟨r, hr.up e, ho, .inr ⟨size, hx, h2, h6, .inl ⟨h.1, b _ _ w_key h.2⟩⟩⟩
  · exact .inr ⟨r, hr.up e, ho, .inr ⟨size, hx, h2, h6, .inr ⟨ns, gd, fun H2 p ps ms e2 h1 h2 h3 h4 h5 h6 => g _ _ (k H2 p ps ms (e.tr e2) h1 h2 (e.fresh h3) (fun q hq => e.fresh (h4 q hq)) h5 h6)⟩⟩⟩
def sp_chains (K : PySem.W.Frag) (cs : Cs) : Sp := fun vs H Q E => ∃ v x T kl xs, vs = [v, x, .ref kl] ∧ Ty5 K H x T ∧ H kl = some (.lst xs) ∧ xs.length ≤ 4000 ∧ (∀ x ∈ xs, ∃ T, Ty5 K H x T) ∧
  ChainW H cs v x kl xs (fun H' p => upR Q (.ref p) H') (fun c _ => ∀ H2, Ex H H2 → E (.ref c) none H2)
theorem c_chains {K : PySem.W.Frag} {cs : Cs} {H : Hp} {v x : V} {T : String} {kl : Addr} {xs : List V} {Q : PV} {E : XK} (hx : Ty5 K H x T) (hl : H kl = some (.lst xs)) (hn : xs.length ≤ 4000) (ty : ∀ x ∈ xs, ∃ T, Ty5 K H x T)
    (h : ChainW H cs v x kl xs (fun H' p => Q (.ref p) H') (fun c _ => ∀ H2, Ex H H2 → E (.ref c) none H2)) : kC (fun ws H Q => sp_chains K cs ws H Q E) [v, x, .ref kl] H Q :=
  fun H1 e _ q => ⟨v, x, T, kl, xs, rfl, hx.up e, e _ _ hl, hn, fun x hx => (ty x hx).imp fun T t => t.up e, h.up e (fun H' n k H2 e2 => q _ _ _ k e2) fun c nm _ k H2 e2 => k H2 (e.tr e2)⟩
theorem pure_chains {K : PySem.W.Frag} {cs : Cs} {H : Hp} {vs : List V} {Q : VK} {E : XK} (h : sp_chains K cs vs H Q E) : t_chains K cs E { nx := fun _ H' => Q .non H', rt := Q } (start ["rule", "size", "keys", "found", "key", "place"] vs) H := by
  obtain ⟨v, x, T, kl, xs, rfl, hx, hl, hn, ty, h⟩ := h
  refine fin (σ := [some v, some x, some (.ref kl), none, none, none]) ?_
  unfold t_chains
  rcases h with ⟨h, k⟩ | ⟨r, hr, ho, h | ⟨size, rfl, h2, h6, h | ⟨ns, gd, k⟩⟩⟩
  · k_clsL
    exact cE_need_rule h k
  · k_clsL
    refine c_need_rule hr ho ?_
    k_clsL
    exact bF h.1 h.2
  · k_clsL
    refine c_need_rule hr ho ?_
    k_clsL
    refine bT (cnt_ok (by omega) (by omega)) ?_
    k_clsL
    exact cE_need_keys hl hn ty h.1 h.2
  · k_clsL
    refine c_need_rule hr ho ?_
    k_clsL
    refine bT (cnt_ok (by omega) (by omega)) ?_
    k_clsL
    refine c_need_keys hl hn gd ?_
    k_clsL
    refine e_lc ?_
    k_clsL
    refine ⟨by omega, fun D hD => ⟨fun i H1 => Ex H H1 ∧ ∃ ps : List Addr, ps.length = i ∧ ps.Nodup ∧ (∀ q ∈ ps, H q = none ∧ q ≠ D ∧ H1 q = some (.lst [])) ∧ H1 D = some (.lst (ps.map V.ref)), ?_, fun _ _ _ _ => trivial, ?_, ?_⟩⟩
    · exact ⟨by k_offL, [], rfl, List.nodup_nil, fun _ h => absurd h List.not_mem_nil, upd_same⟩
    · rintro i H1 hi ⟨e1, ps, hlen, hnd, hps, hDl⟩
      refine g_name ⟨rfl, t_yes ⟨fun _ => ?_, fun h => by cases h⟩⟩
      k_clsL
      rename_i p hp
      have hpD : p ≠ D := fun e => by rw [e, hDl] at hp; cases hp
      refine ⟨ps.map V.ref, _, ?_, ?_, ⟨?_, ps ++ [p], ?_, ?_, ?_, ?_⟩, Ex.rf⟩
      · rw [upd_ne (Ne.symm hpD)]
        exact hDl
      · rw [List.length_map]
        exact Nat.lt_of_le_of_lt (by omega : ps.length ≤ 100) (by decide)
      · exact (Ex.newr e1 hp).mutr hD
      · rw [List.length_append, hlen]
        rfl
      · refine List.nodup_append.mpr ⟨hnd, by simp, fun a ha b hb e => ?_⟩
        rw [List.mem_singleton.mp hb] at e
        have := (hps a ha).2.2
        rw [e, hp] at this
        cases this
      · intro q hq
        rcases List.mem_append.mp hq with hq | hq
        · obtain ⟨a1, a2, a3⟩ := hps q hq
          have : q ≠ p := fun e => by rw [e, hp] at a3; cases a3
          exact ⟨a1, a2, by rw [upd_ne a2, upd_ne this]; exact a3⟩
        · rw [List.mem_singleton.mp hq]
          exact ⟨e1.fresh hp, hpD, by rw [upd_ne hpD, upd_same]⟩
      · rw [List.map_append]
        exact upd_same
    · rintro H1 ⟨e1, ps, hlen, hnd, hps, hDl⟩
      k_clsL
      refine s_for ?_
      k_clsL
      refine c_sorted (ns := nI ns) (by rw [nI_v, ← gd.1]; exact SqL.of (e1 _ _ hl)) fun ms l hperm hsort hl2 => ?_
      have hmem : ∀ x ∈ ms, ∃ n : Nat, x = (n : Int) ∧ n ≤ 999999 := fun x hx => by
        obtain ⟨n, h1, h2⟩ := List.mem_map.mp (hperm.mem_iff.mp hx)
        exact ⟨n, h2.symm, gd.2.2 n h1⟩
      refine ⟨l, ms.map V.int, rfl, SqL.of upd_same, fun i s H2 => Ex H H2 ∧ (∃ z4, s = [some v, some (.int (size : Int)), some (.ref kl), some (.ref D), z4, none]) ∧ H2 l = some (.lst (ms.map V.int)) ∧ H2 D = some (.lst (ps.map V.ref)) ∧ LLs H2 ps (buck r size (ms.take i)), ?_, fun i s H2 _ h => SqL.of h.2.2.1, ?_, ?_⟩
      · refine ⟨Ex.newr e1 hl2, ⟨none, rfl⟩, upd_same, by k_memK, LLs.of (by simp [buck, hlen]) fun j hj => ?_⟩
        have hj2 : j < ps.length := by simpa [buck, hlen] using hj
        rw [buck_at]
        have := (hps ps[j] (List.getElem_mem hj2)).2.2
        have ne : ps[j] ≠ l := fun e => by rw [e, hl2] at this; cases this
        rw [upd_ne ne, this]
        simp
      · rintro i s H2 hi ⟨e2, ⟨z4, rfl⟩, hl3, hD3, hL⟩ x hx
        rw [List.getElem?_map] at hx
        have hi2 : i < ms.length := by simpa using hi
        rw [List.getElem?_eq_getElem hi2] at hx
        have hx : V.int ms[i] = x := Option.some.inj hx
        subst hx
        obtain ⟨n, hn1, hn2⟩ := hmem _ (List.getElem_mem hi2)
        have hh : homeN r n size < ps.length := by
          rw [hlen]
          exact homeN_lt (by omega)
        have hbl : ps.length = (buck r size (ms.take i)).length := hL.len
        refine g_name ?_
        k_clsL
        refine c_home_of hn1 rfl (hr.up e2) ho hn2 h2 h6 ?_
        refine r_ixL (v := .ref ps[homeN r n size]) (SqL.of hD3) (atI_nat (by rw [List.getElem?_map, List.getElem?_eq_getElem hh]; rfl)) ?_
        have hb := hL.at (homeN r n size) hh (by omega)
        rw [buck_at] at hb
        refine ⟨_, _, rfl, SqL.of hb, ?_⟩
        k_clsL
        refine m_append hb ?_ ?_
        · rw [List.length_map]
          refine Nat.le_trans (List.length_filter_le _ _) (Nat.le_trans (List.length_take_le _ _) ?_)
          have := hperm.length_eq
          have e5 : (nI ns).length = xs.length := by rw [gd.1]; simp [nI]
          omega
        · have hq := hps ps[homeN r n size] (List.getElem_mem hh)
          have hql : ps[homeN r n size] ≠ l := fun e => by
            have := hq.2.2
            rw [e, hl2] at this
            cases this
          refine ⟨_, ⟨e2.mutr hq.1, ⟨some (.int ms[i]), rfl⟩, ?_, ?_, LLs.of (by simp [buck, hlen]) fun j hj => ?_⟩, Ex.rf⟩
          · rw [upd_ne (Ne.symm hql)]
            exact hl3
          · rw [upd_ne (Ne.symm hq.2.1)]
            exact hD3
          · have hj2 : j < ps.length := by simpa [buck, hlen] using hj
            rw [buck_at]
            have et : ms.take (i + 1) = ms.take i ++ [ms[i]] := by rw [List.take_succ, List.getElem?_eq_getElem hi2]; rfl
            have en : (ms[i]).toNat = n := by omega
            have ef : (ms.take (i + 1)).filter (fun k => homeN r k.toNat size == j) = (ms.take i).filter (fun k => homeN r k.toNat size == j) ++ [ms[i]].filter (fun k => homeN r k.toNat size == j) := by rw [et, List.filter_append]
            refine Eq.trans ?_ (congrArg (fun z => some (HO.lst (z.map V.int))) ef.symm)
            by_cases hjh : j = homeN r n size
            · subst hjh
              rw [upd_same]
              simp [en]
            · have ne : ps[j] ≠ ps[homeN r n size] := fun e => hjh (nodup_inj hnd _ _ e)
              have hj3 := hL.at j hj2 (by omega)
              rw [buck_at] at hj3
              rw [upd_ne ne, hj3]
              simp [en, Ne.symm hjh]
      · rintro s H2 ⟨e2, ⟨z4, rfl⟩, hl3, hD3, hL⟩
        rw [List.length_map, List.take_length] at hL
        k_clsL
        exact k H2 D ps ms e2 hperm hsort hD (fun q hq => (hps q hq).1) hD3 hL
theorem ok_chains {P : Program} {w : World} {K : PySem.W.Frag} {mg : Str → Option Value} {base : Heap} {cs : Cs} (D_chains : Dn K mg "chains" s_chains ["rule", "size", "keys"]) (cal_need_rule : Cal P w K mg base (L2N.CX P w) 4 "need_rule" ["rule"] (sp_need_rule K cs)) (cal_need_size : Cal P w K mg base (L2N.CX P w) 2 "need_size" ["size"] (sp_need_size K cs)) (cal_need_keys : Cal P w K mg base (L2N.CX P w) 3 "need_keys" ["keys"] (sp_need_keys K cs)) (cal_home_of : Cal P w K mg base (L2N.CX P w) 1 "home_of" ["rule", "key", "size"] (sp_home_of K cs)) (m_range : mg "range" = none) (m_sorted : mg "sorted" = none) :
    Cal P w K mg base (L2N.CX P w) 5 "chains" ["rule", "size", "keys"] (sp_chains K cs) := by
  refine cal_mk D_chains sc_chains (fun vs H Q E h => ?_) fun f cdv A outer s H vs Q E hr h => ⟨t_chains K cs E, ?_, pure_chains h⟩
  · unfold sp_chains at h
    first | (obtain ⟨rfl, _⟩ := h; rfl) | (obtain ⟨_, rfl, _⟩ := h; rfl) | (obtain ⟨_, _, rfl, _⟩ := h; rfl) | (obtain ⟨_, _, _, rfl, _⟩ := h; rfl) | (obtain ⟨_, _, _, _, rfl, _⟩ := h; rfl) | (obtain ⟨_, _, _, _, _, rfl, _⟩ := h; rfl) | (obtain ⟨_, _, _, _, _, _, rfl, _⟩ := h; rfl) | (obtain ⟨_, _, _, _, _, _, _, rfl, _⟩ := h; rfl) | (obtain ⟨_, _, _, _, _, _, _, _, rfl, _⟩ := h; rfl) | (obtain ⟨_, _, _, _, _, _, _, _, _, rfl, _⟩ := h; rfl) | (obtain ⟨_, _, _, _, _, _, _, _, _, _, rfl, _⟩ := h; rfl) | (obtain ⟨_, _, _, _, _, _, _, _, _, _, _, rfl, _⟩ := h; rfl) | (obtain ⟨_, _, _, _, _, _, _, _, _, _, _, _, rfl, _⟩ := h; rfl) | (obtain ⟨_, _, _, _, _, _, _, _, _, _, _, _, _, rfl, _⟩ := h; rfl) | (obtain ⟨_, _, _, _, _, _, _, _, _, _, _, _, _, _, rfl, _⟩ := h; rfl) | (obtain ⟨_, _, _, _, _, _, _, _, _, _, _, _, _, _, _, rfl, _⟩ := h; rfl)
  · exact (pss_cons (ps_expr (pe_cal cal_need_rule hr (by decide) (by rfl) (L2N.passes_call (L2N.takes_of (E := E) rfl rfl rfl rfl) fun _ _ _ _ h => h) (pa_cons (pv 0) pa_nil)))
      (pss_cons (ps_expr (pe_cal cal_need_size hr (by decide) (by rfl) (L2N.passes_call (L2N.takes_of (E := E) rfl rfl rfl rfl) fun _ _ _ _ h => h) (pa_cons (pv 1) pa_nil)))
      (pss_cons (ps_expr (pe_cal cal_need_keys hr (by decide) (by rfl) (L2N.passes_call (L2N.takes_of (E := E) rfl rfl rfl rfl) fun _ _ _ _ h => h) (pa_cons (pv 2) pa_nil)))
      (pss_cons (ps_setLc (i := 3) (own := [("place", 5)]) (g := (gName 5)) (tt := tYes) (by rfl) sc_chains.nd rfl rfl (sw_true rfl rfl rfl (by decide +kernel)) (pi_range1 (by rfl) m_range (pa_cons (pv 1) pa_nil)) (blkOk_by (own := [("place", 5)]) (N := ["rule", "size", "keys", "found", "key", "place"]) (sc := defScope s_chains) (by decide +kernel)) (fun _ _ _ _ _ => (pg_name (i := 5) sc_chains.nd rfl (Or.inl rfl))) (fun _ _ _ _ _ => pts_nil) (fun _ _ _ _ _ => (pe_lst pa_nil)))
      (pss_cons (ps_for (passes_of rfl) rfl (pi_list (pe_callB cr_sortedI (by rfl) m_sorted (by decide +kernel) (pa_cons (pv 2) pa_nil))) (pg_name (i := 4) sc_chains.nd rfl (Or.inl sc_chains_v4))
      (pss_one (ps_expr (pe_bm PySem.F.plainAttrs_list PySem.F.slot_list_append PySem.F.type_list_append mt_append (pe_ix ix_list (pv 3) (pe_cal cal_home_of hr (by decide) (by rfl) passN (pa_cons (pv 0) (pa_cons (pv 4) (pa_cons (pv 1) pa_nil)))) (fun _ _ => rfl)) (pa_cons (pv 4) pa_nil)))))
      (pss_one (ps_ret (pv 3))))))))
theorem sc__law_told : FnScope ["_law_rule_here", "_law_size", "_law_keys_here", "_law_e"] ["_law_rule_here", "_law_size", "_law_keys_here"] (defScope s__law_told) := ⟨rfl, rfl, rfl, by decide +kernel, rfl, by decide +kernel, by decide +kernel⟩
theorem sc__law_told_v0 : (defScope s__law_told).names.lookup ("_law_rule_here" : Str) = some .local := by decide +kernel
theorem sc__law_told_v1 : (defScope s__law_told).names.lookup ("_law_size" : Str) = some .local := by decide +kernel
theorem sc__law_told_v2 : (defScope s__law_told).names.lookup ("_law_keys_here" : Str) = some .local := by decide +kernel
theorem sc__law_told_v3 : (defScope s__law_told).names.lookup ("_law_e" : Str) = some .local := by decide +kernel
def t__law_told (K : PySem.W.Frag) (cs : Cs) (E : XK) : TS :=
  (tTry K cs (.ref cs.StrewError) 3 fun W => (tRet (tCallS (sp_chains K cs) (WE W) (tCons (tVar 0) (tCons (tVar 1) (tCons (tVar 2) tNil))))))
def sp__law_told (K : PySem.W.Frag) (cs : Cs) : Sp := fun vs H Q E => ∃ v x T kl xs, vs = [v, x, .ref kl] ∧ Ty5 K H x T ∧ H kl = some (.lst xs) ∧ xs.length ≤ 4000 ∧ (∀ x ∈ xs, ∃ T, Ty5 K H x T) ∧
  ChainW H cs v x kl xs (fun H' p => upR Q (.ref p) H') (fun _ nm => upR Q (.str nm) H)
theorem c__law_told {K : PySem.W.Frag} {cs : Cs} {H : Hp} {v x : V} {T : String} {kl : Addr} {xs : List V} {Q : PV} {E : XK} (hx : Ty5 K H x T) (hl : H kl = some (.lst xs)) (hn : xs.length ≤ 4000) (ty : ∀ x ∈ xs, ∃ T, Ty5 K H x T)
    (h : ChainW H cs v x kl xs (fun H' p => Q (.ref p) H') (fun _ nm => Q (.str nm) H)) : kC (fun ws H Q => sp__law_told K cs ws H Q E) [v, x, .ref kl] H Q :=
  fun H1 e _ q => ⟨v, x, T, kl, xs, rfl, hx.up e, e _ _ hl, hn, fun x hx => (ty x hx).imp fun T t => t.up e, h.up e (fun H' n k H2 e2 => q _ _ _ k e2) fun c nm _ k H2 e2 => q _ _ _ k (e.tr e2)⟩
theorem pure__law_told {K : PySem.W.Frag} {cs : Cs} {H : Hp} {vs : List V} {Q : VK} {E : XK} (kx : ExmW K cs) (h : sp__law_told K cs vs H Q E) : t__law_told K cs E { nx := fun _ H' => Q .non H', rt := Q } (start ["_law_rule_here", "_law_size", "_law_keys_here", "_law_e"] vs) H := by
  obtain ⟨v, x, T, kl, xs, rfl, hx, hl, hn, ty, h⟩ := h
  refine fin (σ := [some v, some x, some (.ref kl), none]) ?_
  unfold t__law_told
  refine s_try kx fun W hW => ?_
  refine s_ret (e_callS ?_)
  k_clsL
  exact c_chains hx hl hn ty (h.up Ex.rf (fun _ _ k => k) fun c nm hw k H2 e2 => by
    show W (.ref c) none [some v, some x, some (.ref kl), none] H2
    exact hW c nm _ H hw (Nat.lt_succ_self _) k H2 e2)
theorem ok__law_told {P : Program} {w : World} {K : PySem.W.Frag} {mg : Str → Option Value} {base : Heap} {cs : Cs} (D__law_told : Dn K mg "_law_told" s__law_told ["_law_rule_here", "_law_size", "_law_keys_here"]) (cal__law_word : CalX P w K mg base 1 "_law_word" ["_law_e"] (sp_word cs)) (cal_chains : Cal P w K mg base (L2N.CX P w) 5 "chains" ["rule", "size", "keys"] (sp_chains K cs)) (kx : ExmW K cs) (x_StrewError : ExcT K mg "StrewError" cs.StrewError) :
    Cal P w K mg base (L2N.CX P w) 6 "_law_told" ["_law_rule_here", "_law_size", "_law_keys_here"] (sp__law_told K cs) := by
  refine cal_mk D__law_told sc__law_told (fun vs H Q E h => ?_) fun f cdv A outer s H vs Q E hr h => ⟨t__law_told K cs E, ?_, pure__law_told kx h⟩
  · unfold sp__law_told at h
    first | (obtain ⟨rfl, _⟩ := h; rfl) | (obtain ⟨_, rfl, _⟩ := h; rfl) | (obtain ⟨_, _, rfl, _⟩ := h; rfl) | (obtain ⟨_, _, _, rfl, _⟩ := h; rfl) | (obtain ⟨_, _, _, _, rfl, _⟩ := h; rfl) | (obtain ⟨_, _, _, _, _, rfl, _⟩ := h; rfl) | (obtain ⟨_, _, _, _, _, _, rfl, _⟩ := h; rfl) | (obtain ⟨_, _, _, _, _, _, _, rfl, _⟩ := h; rfl) | (obtain ⟨_, _, _, _, _, _, _, _, rfl, _⟩ := h; rfl) | (obtain ⟨_, _, _, _, _, _, _, _, _, rfl, _⟩ := h; rfl) | (obtain ⟨_, _, _, _, _, _, _, _, _, _, rfl, _⟩ := h; rfl) | (obtain ⟨_, _, _, _, _, _, _, _, _, _, _, rfl, _⟩ := h; rfl) | (obtain ⟨_, _, _, _, _, _, _, _, _, _, _, _, rfl, _⟩ := h; rfl) | (obtain ⟨_, _, _, _, _, _, _, _, _, _, _, _, _, rfl, _⟩ := h; rfl) | (obtain ⟨_, _, _, _, _, _, _, _, _, _, _, _, _, _, rfl, _⟩ := h; rfl) | (obtain ⟨_, _, _, _, _, _, _, _, _, _, _, _, _, _, _, rfl, _⟩ := h; rfl)
  · exact (pss_one (ps_tryT (i := 3) rfl rfl sc__law_told.nd rfl sc__law_told_v3 (by rfl) x_StrewError.g cal__law_word hr (by decide) (by rfl) (fun W pn xe tk => (pss_one (ps_ret (pe_calS cal_chains hr (by decide) (by rfl) (fun σ => L2N.passAt tk σ) (pa_cons (pv 0) (pa_cons (pv 1) (pa_cons (pv 2) pa_nil))))))) (fun _ _ => pv 3)))
theorem sc_law : FnScope ["_law_script", "_law_k", "_law_more", "_law_rule_here", "_law_size", "_law_keys_here", "_law_handed", "_law_due", "_law_found", "_law_odd", "_law_some", "_law_place", "_law_key"] ["_law_script"] (defScope s_law) := ⟨rfl, rfl, rfl, by decide +kernel, rfl, by decide +kernel, by decide +kernel⟩
theorem sc_law_v0 : (defScope s_law).names.lookup ("_law_script" : Str) = some .local := by decide +kernel
theorem sc_law_v1 : (defScope s_law).names.lookup ("_law_k" : Str) = some .local := by decide +kernel
theorem sc_law_v2 : (defScope s_law).names.lookup ("_law_more" : Str) = some .local := by decide +kernel
theorem sc_law_v3 : (defScope s_law).names.lookup ("_law_rule_here" : Str) = some .cell := by decide +kernel
theorem sc_law_v4 : (defScope s_law).names.lookup ("_law_size" : Str) = some .cell := by decide +kernel
theorem sc_law_v5 : (defScope s_law).names.lookup ("_law_keys_here" : Str) = some .cell := by decide +kernel
theorem sc_law_v6 : (defScope s_law).names.lookup ("_law_handed" : Str) = some .local := by decide +kernel
theorem sc_law_v7 : (defScope s_law).names.lookup ("_law_due" : Str) = some .local := by decide +kernel
theorem sc_law_v8 : (defScope s_law).names.lookup ("_law_found" : Str) = some .local := by decide +kernel
theorem sc_law_v9 : (defScope s_law).names.lookup ("_law_odd" : Str) = some .local := by decide +kernel
theorem sc_law_v10 : (defScope s_law).names.lookup ("_law_some" : Str) = some .local := by decide +kernel
def cs_law_1 : Scope := { kind := PySem.ScopeKind.function, names := [ (PySem.Str.ofString ".0", PySem.NameKind.local), (PySem.Str.ofString "_law_place", PySem.NameKind.cell), (PySem.Str.ofString "sorted", PySem.NameKind.globalImplicit), (PySem.Str.ofString "_law_keys_here", PySem.NameKind.cell), (PySem.Str.ofString "_law_rule_here", PySem.NameKind.cell), (PySem.Str.ofString "_law_size", PySem.NameKind.cell)], isGenerator := false, isCoroutine := false, more := [] : PySem.Scope }
def t_law_c6 (K : PySem.W.Frag) (cs : Cs) (E : XK) : TS :=
  (tSeq (tAsg (tOp rCat (tVar 10) (tLst (tCons (tCall (sp__law_told K cs) [] E0 (tCons (tVar 3) (tCons (tVar 4) (tCons (tOp rCat (tVar 5) (tLst (tCons (tVar 9) tNil))) tNil)))) tNil))) (gName 10))
  (tIfS (tTest (tOp (rNeD K) (tOp rCat (tVar 10) (tLst (tCons (tCall (sp__law_told K cs) [] E0 (tCons (tVar 3) (tCons (tVar 4) (tCons (tOp rCat (tLst (tCons (tC (.int 4)) tNil)) (tLst (tCons (tC (.int 5)) (tCons (tC (.int 4)) tNil)))) tNil)))) tNil))) (tLst (tCons (tC (.str "BadRule")) (tCons (tC (.str "BadSize")) (tCons (tC (.str "BadKey")) (tCons (tC (.str "BadKey")) tNil)))))))
  (tRet (tC (.bl false)))
  tNext))
def t_law_c5 (K : PySem.W.Frag) (cs : Cs) (E : XK) : TS :=
  (tSeq (tAsg (tLst (tCons (tCall (sp__law_told K cs) [] E0 (tCons (tLst tNil) (tCons (tC (.int 1)) (tCons (tLst (tCons (tVar 9) tNil)) tNil)))) (tCons (tCall (sp__law_told K cs) [] E0 (tCons (tVar 3) (tCons (tC (.int 65)) (tCons (tLst (tCons (tVar 9) tNil)) tNil)))) tNil))) (gName 10))
  (t_law_c6 K cs E))
def t_law_c4 (K : PySem.W.Frag) (cs : Cs) (E : XK) : TS :=
  (tSeq (tAsg (tOp (rIxL K) (tLst (tCons (tUn (rU fun i => .int (-i)) (tC (.int 1))) (tCons (tC (.int 1000000)) (tCons (tC .non) (tCons (tC (.str "a")) tNil))))) (tOp (rI (fun _ j => 0 < j) fun i j => .int (i % j)) (tOp (rI CDivW fun i j => .int (i / j)) (tVar 2) (tOp (rI CPow fun i j => .int (i ^ j.toNat)) (tC (.int 2)) (tC (.int 20)))) (tC (.int 4)))) (gName 9))
  (t_law_c5 K cs E))
def t_law_c3 (K : PySem.W.Frag) (cs : Cs) (E : XK) : TS :=
  (tSeq (tDrop (tBM K "list" rAppend (tOp (rIxL K) (tVar 8) (tC (.int 0))) (tCons (tC .non) tNil)))
  (tSeq (tIfS (tTest (tOp (rNeD K) (tCall (sp__law_told K cs) [] E0 (tCons (tVar 3) (tCons (tVar 4) (tCons (tVar 6) tNil)))) (tVar 7)))
  (tRet (tC (.bl false)))
  tNext)
  (t_law_c4 K cs E)))
def t_law_c2 (K : PySem.W.Frag) (cs : Cs) (E : XK) : TS :=
  (tSeq (tAsg (tCall (sp__law_told K cs) [] E0 (tCons (tVar 3) (tCons (tVar 4) (tCons (tVar 6) tNil)))) (gName 8))
  (tSeq (tIfS (tOr (tNot (tB (tCB (rIsi K) (tCons (tVar 8) (tCons (tC (.ty "list")) tNil))))) (tOr (tTest (tOp (rNeD K) (tVar 8) (tVar 7))) (tTest (tOp (rNeD K) (tVar 6) (tVar 5)))))
  (tRet (tC (.bl false)))
  tNext)
  (t_law_c3 K cs E)))
def t_law_c1 (K : PySem.W.Frag) (cs : Cs) (E : XK) : TS :=
  (tSeq (tAsg (tCB (rListOf K) (tCons (tVar 5) tNil)) (gName 6))
  (tSeq (tAsg (tLc (iRng1 (tCons (tVar 4) tNil)) (gName 11) tYes (tLc (iList K (tCB (rSortedI K) (tCons (tVar 5) tNil))) (gName 12) (tTest (tOp rEq (tCall (sp__law_home K cs) [] E0 (tCons (tVar 3) (tCons (tVar 12) (tCons (tVar 4) tNil)))) (tVar 11))) (tVar 12) [12]) [11]) (gName 7))
  (t_law_c2 K cs E)))
def t_law (K : PySem.W.Frag) (cs : Cs) (E : XK) : TS :=
  (tSeq (tFor (iRng1 (tCons (tCB (fun xs H Q => ∃ i j, xs = [V.int i, .int j] ∧ Q (.int (if j > i then j else i)) H) (tCons (tC (.int 1)) (tCons (tCB (fun xs H Q => ∃ i j, xs = [V.int i, .int j] ∧ Q (.int (if j < i then j else i)) H) (tCons (tC (.int 4)) (tCons (tCB (fun xs H Q => ∃ p ys, xs = [V.ref p] ∧ (SqL K H p ys ∨ SqT K H p ys) ∧ Q (.int ys.length) H) (tCons (tVar 0) tNil)) tNil))) tNil))) tNil)) (gName 1)
  (tSeq (tAsg (tCall (sp__law_drawn K cs) [] E0 (tCons (tCall (sp__law_cell K cs) [] E0 (tCons (tVar 0) (tCons (tVar 1) tNil))) (tCons (tVar 1) tNil))) (gName 2))
  (tSeq (tAsg (tCall (sp__law_rule K cs) [] E0 (tCons (tVar 2) tNil)) (gName 3))
  (tSeq (tAsg (tOp (rI0 fun i j => .int (i + j)) (tC (.int 2)) (tOp (rI (fun _ j => 0 < j) fun i j => .int (i % j)) (tOp (rI CDivW fun i j => .int (i / j)) (tVar 2) (tC (.int 64))) (tC (.int 63)))) (gName 4))
  (tSeq (tAsg (tCall (sp__law_keys K cs) [] E0 (tCons (tOp (rI CDivW fun i j => .int (i / j)) (tVar 2) (tC (.int 16))) (tCons (tOp (rI (fun _ j => 0 < j) fun i j => .int (i % j)) (tOp (rI CDivW fun i j => .int (i / j)) (tVar 2) (tC (.int 4096))) (tC (.int 21))) tNil))) (gName 5))
  (t_law_c1 K cs E))))))
  (tRet (tC (.bl true))))
def sp_law (K : PySem.W.Frag) (_ : Cs) : Sp := spLaw K
theorem pure_law {K : PySem.W.Frag} {cs : Cs} {H : Hp} {vs : List V} {Q : VK} {E : XK} (h : sp_law K cs vs H Q E) : t_law K cs E { nx := fun _ H' => Q .non H', rt := Q } (start ["_law_script", "_law_k", "_law_more", "_law_rule_here", "_law_size", "_law_keys_here", "_law_handed", "_law_due", "_law_found", "_law_odd", "_law_some", "_law_place", "_law_key"] vs) H := by
  obtain ⟨a, ns, rfl, hS, hl, q⟩ := h
  refine fin (σ := [some (.ref a), none, none, none, none, none, none, none, none, none, none, none, none]) ?_
  unfold t_law
  obtain ⟨n, hn, hn63⟩ : ∃ n : Nat, (if (if (((ns.map V.int).length : Nat) : Int) < 4 then (((ns.map V.int).length : Nat) : Int) else 4) > 1 then (if (((ns.map V.int).length : Nat) : Int) < 4 then (((ns.map V.int).length : Nat) : Int) else 4) else 1) = (n : Int) ∧ n ≤ 63 :=
    nat_of (by split <;> split <;> omega) (by split <;> split <;> omega)
  k_clsL
  refine s_for1 n (fun i σ H1 => H1 = H ∧ ∃ y1 y2 y3 y4 y5 y6 y7 y8 y9 y10 y11 y12, σ = [some (.ref a), y1, y2, y3, y4, y5, y6, y7, y8, y9, y10, y11, y12]) ?_
  k_clsL
  refine ⟨by rw [hn], by omega, ⟨rfl, none, none, none, none, none, none, none, none, none, none, none, none, rfl⟩, ?_, ?_⟩
  · rintro i σ H1 hi ⟨rfl, y1, y2, y3, y4, y5, y6, y7, y8, y9, y10, y11, y12, rfl⟩
    k_clsL
    rename_i m hm v r H2 e2 hr ho
    refine c__law_keys (m := m / 16) (n := m / 4096 % 21) rfl rfl (by omega) fun H3 pk ks e3 hpk hk1 hk2 hk3 hk4 => ?_
    have hsz : (2 + (m : Int) / 64 % 63) = ((2 + m / 64 % 63 : Nat) : Int) := rfl
    rw [hsz]
    have h2 : 2 ≤ 2 + m / 64 % 63 := by omega
    have h6 : 2 + m / 64 % 63 ≤ 64 := by omega
    generalize 2 + m / 64 % 63 = size at *
    unfold t_law_c1
    k_clsL
    rename_i ph hph
    have hkl : ks.length ≤ 20 := by omega
    refine e_lc ?_
    k_clsL
    refine ⟨by omega, fun D hD => ⟨fun i H4 => Ex (upd H3 ph (.lst (ks.map fun n : Nat => V.int (n : Int)))) H4 ∧ ∃ ps : List Addr, ps.length = i ∧ (∀ q ∈ ps, q ≠ D) ∧ H4 D = some (.lst (ps.map V.ref)) ∧
      ∀ ms : List Int, ms.Perm (nI ks) → ms.Pairwise (· ≤ ·) → LLs H4 ps ((List.range i).map fun p => ms.filter fun k => homeN r k.toNat size == p), ?_, fun _ _ _ _ => trivial, ?_, ?_⟩⟩
    · exact ⟨by k_offL, [], rfl, fun _ h => absurd h List.not_mem_nil, upd_same, fun ms _ _ => .nil⟩
    · rintro j H4 hj ⟨e4, ps, hlen, hps, hDl, hLL⟩
      have e34 : Ex H3 H4 := (Ex.news hph).tr e4
      have hr4 : IsRl H4 v r := (hr.up e3).up e34
      refine g_name ⟨rfl, t_yes ⟨fun _ => ?_, fun h => by cases h⟩⟩
      refine e_lcF ?_
      k_clsL
      refine c_sorted (ns := nI ks) (by rw [nI_v]; exact SqL.of (e4 _ _ (by k_memK))) fun ms l hperm hsort hl => ?_
      have hmem : ∀ x ∈ ms, ∃ n : Nat, x = (n : Int) ∧ n ≤ 999999 := fun x hx => by
        obtain ⟨n, h1, h2⟩ := List.mem_map.mp (hperm.mem_iff.mp hx)
        exact ⟨n, h2.symm, hk4 n h1⟩
      have hml : ms.length ≤ 20 := by
        have := hperm.length_eq
        rw [this]
        simp [nI, hkl]
      refine ⟨l, ms.map V.int, rfl, SqL.of upd_same, SqL.of upd_same, by rw [List.length_map]; omega, fun i => (ms[i]?).bind fun k => if (homeN r k.toNat size == j) = true then some (V.int k) else none, fun D2 acc i2 hD2 hi2 x hx => ?_, fun D2 hD2 => ?_⟩
      · rw [List.getElem?_map] at hx
        have hi3 : i2 < ms.length := by simpa using hi2
        rw [List.getElem?_eq_getElem hi3] at hx
        have hx : V.int ms[i2] = x := Option.some.inj hx
        subst hx
        obtain ⟨n, hn1, hn2⟩ := hmem _ (List.getElem_mem hi3)
        refine g_name ⟨rfl, ?_⟩
        k_clsL
        refine c__law_home hn1 rfl (hr4.up (by k_offL)) ho hn2 h2 h6 ?_
        k_clsL
        have ef : ((ms[i2]?).bind fun k => if (homeN r k.toNat size == j) = true then some (V.int k) else none) = if homeN r n size = j then some (V.int (n : Int)) else none := by
          rw [List.getElem?_eq_getElem hi3, hn1]
          simp
        refine ⟨fun hb => ?_, fun hb => ?_⟩
        · have : homeN r n size = j := by
            have := of_decide_eq_true hb
            omega
          k_clsL
          exact ⟨ef.trans (by rw [if_pos this, hn1]), by k_offL⟩
        · have : ¬ homeN r n size = j := fun e => of_decide_eq_false hb (by rw [e])
          exact ⟨ef.trans (by rw [if_neg this]), by k_offL⟩
      · have em : (List.range (ms.map V.int).length).filterMap (fun i => (ms[i]?).bind fun k => if (homeN r k.toNat size == j) = true then some (V.int k) else none) = (ms.filter fun k => homeN r k.toNat size == j).map V.int := by
          rw [List.length_map, filterMap_idx _ (Nat.le_refl _), List.take_length]
          exact filterMap_if
        rw [em]
        have hDD : D2 ≠ D := fun e => by
          rw [e, L2.upd_ne (fun e => by rw [← e, hDl] at hl; cases hl), hDl] at hD2
          cases hD2
        refine ⟨ps.map V.ref, _, ?_, ?_, ⟨?_, ps ++ [D2], by rw [List.length_append, hlen]; rfl, ?_, ?_, ?_⟩, Ex.rf⟩
        · have hlD : D ≠ l := fun e => by rw [← e, hDl] at hl; cases hl
          rw [L2.upd_ne (Ne.symm hDD), L2.upd_ne hlD]
          exact hDl
        · rw [List.length_map]
          exact Nat.lt_of_le_of_lt (by omega : ps.length ≤ 100) (by decide)
        · exact (Ex.newr (Ex.newr e4 hl) hD2).mutr hD
        · intro q hq
          rcases List.mem_append.mp hq with hq | hq
          · exact hps q hq
          · rw [List.mem_singleton.mp hq]
            exact hDD
        · rw [List.map_append]
          exact upd_same
        · intro ms2 hp2 hs2
          have : ms2 = ms := sorted_one (hp2.trans hperm.symm) hs2 hsort
          subst this
          rw [List.range_succ, List.map_append]
          refine LLs.snoc ?_ ((LLs.up ?_ (hLL ms2 hp2 hs2)).upd_ne hps)
          · rw [L2.upd_ne hDD]
            exact upd_same
          · exact Ex.newr (Ex.newr Ex.rf hl) hD2
    · rintro H4 ⟨e4, dps, dlen, _, hDl, hdue⟩
      have hr4 : IsRl H4 v r := hr.up (((e3.tr (Ex.news hph)).tr e4))
      have hk4' : H4 pk = some (.lst (ks.map fun n : Nat => V.int (n : Int))) := e4 _ _ (by k_memK)
      have hh4 : H4 ph = some (.lst (ks.map fun n : Nat => V.int (n : Int))) := e4 _ _ upd_same
      have e14 : Ex H1 H4 := ((e2.tr e3).tr (Ex.news hph)).tr e4
      unfold t_law_c2
      k_clsL
      refine c__law_told (.int _) hh4 (by rw [List.length_map]; omega) (good_ty ⟨rfl, hk3, hk4⟩) (.inr ⟨r, hr4, ho, .inr ⟨size, rfl, h2, h6, .inr ⟨ks, ⟨rfl, hk3, hk4⟩, fun H5 pf ps ms e5 hperm hsort hpf hpsn hpl hLL => ?_⟩⟩⟩)
      k_clsL
      refine r_neLL (SqL.of hpl) hLL (SqL.of (e5 _ _ hDl)) ((hdue ms hperm hsort).up e5) ?_
      refine ⟨_, rfl, bF (by simp [buck]) ?_⟩
      k_clsL
      refine r_neIs (ns := nI ks) (ms := nI ks) (by rw [nI_v]; exact SqL.of (e5 _ _ hh4)) (by rw [nI_v]; exact SqL.of (e5 _ _ hk4')) ?_
      refine ⟨_, rfl, bF (by simp) ?_⟩
      k_clsL
      unfold t_law_c3
      k_clsL
      have hpsl : 0 < ps.length := by
        have := hLL.len
        simp [buck] at this
        omega
      refine r_ixL (v := .ref ps[0]) (SqL.of hpl) (by
        show atI _ ((0 : Nat) : Int) = _
        exact atI_nat (by rw [List.getElem?_map, List.getElem?_eq_getElem hpsl]; rfl)) ?_
      have hb0 := hLL.at 0 hpsl (by rw [← hLL.len]; exact hpsl)
      refine ⟨_, _, rfl, SqL.of hb0, ?_⟩
      k_clsL
      refine m_append hb0 ?_ ?_
      · rw [List.length_map, buck_at]
        refine Nat.le_trans (List.length_filter_le _ _) ?_
        have := hperm.length_eq
        simp [nI] at this
        omega
      · refine kS_gen (fun H' => Ex H4 H') (e5.mutr (hpsn _ (List.getElem_mem hpsl))) ?_
        rintro H6 e6
        have hr6 := hr4.up e6
        have hk6 := e6 _ _ hk4'
        have hh6 := e6 _ _ hh4
        have e16 : Ex H1 H6 := e14.tr e6
        have hN : ∀ (H' : Hp) (z7 z8 z9 z10 z11 z12 : Option V), Ex H6 H' → nxt (fun (i : Nat) (σ : Sg) (H2 : Hp) => H2 = H1 ∧ ∃ y1 y2 y3 y4 y5 y6 y7 y8 y9 y10 y11 y12, σ = [some (.ref a), y1, y2, y3, y4, y5, y6, y7, y8, y9, y10, y11, y12]) (i + 1) [some (.ref a), some (.int (i : Int)), some (.int (m : Int)), some v, some (.int (size : Int)), some (.ref pk), some (.ref ph), z7, z8, z9, z10, z11, z12] H' :=
          fun H' z7 z8 z9 z10 z11 z12 e => ⟨H1, ⟨rfl, _, _, _, _, _, _, _, _, _, _, _, _, rfl⟩, e16.tr e⟩
        k_clsL
        refine c__law_told (.int _) hh6 (by rw [List.length_map]; omega) (good_ty ⟨rfl, hk3, hk4⟩) (.inr ⟨r, hr6, ho, .inr ⟨size, rfl, h2, h6, .inr ⟨ks, ⟨rfl, hk3, hk4⟩, fun H7 pf2 ps2 ms2 e7 hperm2 hsort2 hpf2 hpsn2 hpl2 hLL2 => ?_⟩⟩⟩)
        k_clsL
        refine r_neLL (SqL.of hpl2) hLL2 (SqL.of (e7 _ _ (e6 _ _ hDl))) (((hdue ms2 hperm2 hsort2).up e6).up e7) ?_
        refine ⟨_, rfl, bF (by simp [buck]) ?_⟩
        k_clsL
        refine kS_gen (fun H' => Ex H6 H') e7 ?_
        rintro H8 e8
        have hr8 := hr6.up e8
        have hk8 := e8 _ _ hk6
        unfold t_law_c4
        k_clsL
        rename_i po hpo
        obtain ⟨od, hod, hot, hoc⟩ := pick (z := (m : Int) / 1048576) (m := 4) (xs := [.int (-1), .int 1000000, .non, .str "a"]) (P := fun v => (∃ T, Ty5 K H8 v T) ∧ cnt v 0 999999 = false) rfl (by decide)
          (List.forall_mem_cons.mpr ⟨⟨⟨_, .int _⟩, rfl⟩, List.forall_mem_cons.mpr ⟨⟨⟨_, .int _⟩, rfl⟩, List.forall_mem_cons.mpr ⟨⟨⟨_, .non⟩, rfl⟩, List.forall_mem_cons.mpr ⟨⟨⟨_, .str _⟩, rfl⟩, fun _ h => absurd h List.not_mem_nil⟩⟩⟩⟩)
        refine r_ixL (by k_memK) hod ?_
        unfold t_law_c5
        k_clsL
        rename_i pe hpe po2 hpo2
        refine c__law_told (xs := [od]) (.int _) (by k_memK) (by simp) (fun x hx => by
          rw [List.mem_singleton.mp hx]
          exact hot.imp fun T t => t.up (by k_offL)) (.inl ⟨⟨.lst, .lst (vs := []) (by k_memK), rfl, rfl⟩, ?_⟩)
        k_clsL
        refine c__law_told (xs := [od]) (.int _) (by k_memK) (by simp) (fun x hx => by
          rw [List.mem_singleton.mp hx]
          exact hot.imp fun T t => t.up (by k_offL)) (.inr ⟨r, hr8.up (by k_offL), ho, .inl ⟨rfl, ?_⟩⟩)
        unfold t_law_c6
        k_clsL
        refine r_cat (by k_memK) (by k_memK) (szl (by simp; omega)) fun pc hpc => ?_
        k_clsL
        refine c__law_told (xs := (ks.map fun n : Nat => V.int (n : Int)) ++ [od]) (.int _) (by k_memK) (by simp; omega) (fun x hx => by
          rcases List.mem_append.mp hx with hx | hx
          · exact good_ty (ns := ks) ⟨rfl, hk3, hk4⟩ x hx
          · rw [List.mem_singleton.mp hx]
            exact hot.imp fun T t => t.up (by k_offL)) (.inr ⟨r, hr8.up (by k_offL), ho, .inr ⟨size, rfl, h2, h6, .inl ⟨fun ns g => ?_, ?_⟩⟩⟩)
        · have := good_cnt g (List.mem_append_right _ (List.mem_singleton_self od))
          rw [hoc] at this
          cases this
        k_clsL
        refine c__law_told (xs := [.int 4, .int 5, .int 4]) (.int _) upd_same (by simp) (fun x hx => by
          simp only [List.mem_cons, List.not_mem_nil, or_false] at hx
          rcases hx with rfl | rfl | rfl <;> exact ⟨_, .int _⟩) (.inr ⟨r, hr8.up (by k_offL), ho, .inr ⟨size, rfl, h2, h6, .inl ⟨fun ns g => ?_, ?_⟩⟩⟩)
        · obtain ⟨g1, g2, _⟩ := g
          have : nI ns = [4, 5, 4] := map_int_inj (by rw [nI_v, ← g1]; rfl)
          have h9 := nI_nodup.mpr g2
          rw [this] at h9
          revert h9
          decide
        k_clsL
        refine r_neSs (zs := ["BadRule", "BadSize", "BadKey", "BadKey"]) (ws := ["BadRule", "BadSize", "BadKey", "BadKey"]) (by k_memK) (by k_memK) (by decide +kernel) (by decide +kernel) ?_
        k_clsL
        exact hN _ _ _ _ _ _ _ (e8.tr (by k_offL))
  · rintro σ H1 ⟨rfl, _⟩
    k_clsL
    exact fun H2 _ => q H2
theorem ok_law {P : Program} {w : World} {K : PySem.W.Frag} {mg : Str → Option Value} {base : Heap} {cs : Cs} {f : Addr} {fd : FuncData} (F : Fun K "law" "law" s_law f fd) (cal__law_cell : Cal P w K mg base (L2N.CX P w) 1 "_law_cell" ["_law_script", "_law_k"] (sp__law_cell K cs)) (cal__law_drawn : Cal P w K mg base (L2N.CX P w) 1 "_law_drawn" ["_law_cell_here", "_law_k"] (sp__law_drawn K cs)) (cal__law_rule : Cal P w K mg base (L2N.CX P w) 1 "_law_rule" ["_law_more"] (sp__law_rule K cs)) (cal__law_keys : Cal P w K mg base (L2N.CX P w) 2 "_law_keys" ["_law_more", "_law_many"] (sp__law_keys K cs)) (cal__law_home : Cal P w K mg base (L2N.CX P w) 1 "_law_home" ["_law_rule_here", "_law_key", "_law_size"] (sp__law_home K cs)) (cal__law_told : Cal P w K mg base (L2N.CX P w) 6 "_law_told" ["_law_rule_here", "_law_size", "_law_keys_here"] (sp__law_told K cs)) (m_range : mg "range" = none) (m_len : mg "len" = none) (m_min : mg "min" = none) (m_max : mg "max" = none) (m_list : mg "list" = none) (m_sorted : mg "sorted" = none) (m_isinstance : mg "isinstance" = none) :
    FnOk P w K mg base (L2N.CX P w) 7 f fd ["_law_script"] (spLaw K) := by
  refine fn_mk F sc_law (fun vs H Q E h => ?_) fun cdv A outer s H vs Q E hr h => ⟨t_law K cs E, ?_, pure_law (cs := cs) h⟩
  · unfold spLaw at h
    first | (obtain ⟨rfl, _⟩ := h; rfl) | (obtain ⟨_, rfl, _⟩ := h; rfl) | (obtain ⟨_, _, rfl, _⟩ := h; rfl) | (obtain ⟨_, _, _, rfl, _⟩ := h; rfl) | (obtain ⟨_, _, _, _, rfl, _⟩ := h; rfl) | (obtain ⟨_, _, _, _, _, rfl, _⟩ := h; rfl) | (obtain ⟨_, _, _, _, _, _, rfl, _⟩ := h; rfl) | (obtain ⟨_, _, _, _, _, _, _, rfl, _⟩ := h; rfl) | (obtain ⟨_, _, _, _, _, _, _, _, rfl, _⟩ := h; rfl) | (obtain ⟨_, _, _, _, _, _, _, _, _, rfl, _⟩ := h; rfl) | (obtain ⟨_, _, _, _, _, _, _, _, _, _, rfl, _⟩ := h; rfl) | (obtain ⟨_, _, _, _, _, _, _, _, _, _, _, rfl, _⟩ := h; rfl) | (obtain ⟨_, _, _, _, _, _, _, _, _, _, _, _, rfl, _⟩ := h; rfl) | (obtain ⟨_, _, _, _, _, _, _, _, _, _, _, _, _, rfl, _⟩ := h; rfl) | (obtain ⟨_, _, _, _, _, _, _, _, _, _, _, _, _, _, rfl, _⟩ := h; rfl) | (obtain ⟨_, _, _, _, _, _, _, _, _, _, _, _, _, _, _, rfl, _⟩ := h; rfl)
  · exact (pss_cons (ps_for (passes_of rfl) rfl (pi_range1 (by rfl) m_range (pa_cons (pe_callB (call_max2 rfl) (by rfl) m_max (by decide +kernel) (pa_cons pe_int (pa_cons (pe_callB (call_min2 rfl) (by rfl) m_min (by decide +kernel) (pa_cons pe_int (pa_cons (pe_callB call_len_seq (by rfl) m_len (by decide +kernel) (pa_cons (pv 0) pa_nil)) pa_nil))) pa_nil))) pa_nil)) (pg_name (i := 1) sc_law.nd rfl (Or.inl sc_law_v1))
      (pss_cons (ps_set (i := 2) sc_law.nd rfl (Or.inl sc_law_v2) (pe_cal cal__law_drawn hr (by decide) (by rfl) passN (pa_cons (pe_cal cal__law_cell hr (by decide) (by rfl) passN (pa_cons (pv 0) (pa_cons (pv 1) pa_nil))) (pa_cons (pv 1) pa_nil))))
      (pss_cons (ps_set (i := 3) sc_law.nd rfl (Or.inr sc_law_v3) (pe_cal cal__law_rule hr (by decide) (by rfl) passN (pa_cons (pv 2) pa_nil)))
      (pss_cons (ps_set (i := 4) sc_law.nd rfl (Or.inr sc_law_v4) (pe_op op_add pe_int (pe_op op_mod (pe_op op_fdivW (pv 2) pe_int) pe_int)))
      (pss_cons (ps_set (i := 5) sc_law.nd rfl (Or.inr sc_law_v5) (pe_cal cal__law_keys hr (by decide) (by rfl) passN (pa_cons (pe_op op_fdivW (pv 2) pe_int) (pa_cons (pe_op op_mod (pe_op op_fdivW (pv 2) pe_int) pe_int) pa_nil))))
      (pss_cons (ps_set (i := 6) sc_law.nd rfl (Or.inl sc_law_v6) (pe_callTy call_list_of (by rfl) m_list (by decide +kernel) (pa_cons (pv 5) pa_nil)))
      (pss_cons (ps_setLc (i := 7) (own := [("_law_place", 11)]) (g := (gName 11)) (tt := tYes) (by rfl) sc_law.nd rfl rfl (sw_true rfl rfl rfl (by decide +kernel)) (pi_range1 (by rfl) m_range (pa_cons (pv 4) pa_nil)) (blkOk_by (own := [("_law_place", 11)]) (N := ["_law_script", "_law_k", "_law_more", "_law_rule_here", "_law_size", "_law_keys_here", "_law_handed", "_law_due", "_law_found", "_law_odd", "_law_some", "_law_place", "_law_key"]) (sc := defScope s_law) (by decide +kernel)) (fun _ _ _ _ _ => (pg_name (i := 11) sc_law.nd rfl (Or.inr rfl))) (fun _ _ _ _ _ => pts_nil) (fun _ _ _ _ _ => (pe_lc (own := [("_law_key", 12)]) (g := (gName 12)) (tt := (tTest (tOp rEq (tCall (sp__law_home K cs) [] E0 (tCons (tVar 3) (tCons (tVar 12) (tCons (tVar 4) tNil)))) (tVar 11)))) (by rfl) sc_law.nd (pi_list (pe_callB cr_sortedI (by rfl) m_sorted (by decide +kernel) (pa_cons (pv 5) pa_nil))) (blkOk_by (own := [("_law_key", 12)]) (N := ["_law_script", "_law_k", "_law_more", "_law_rule_here", "_law_size", "_law_keys_here", "_law_handed", "_law_due", "_law_found", "_law_odd", "_law_some", "_law_place", "_law_key"]) (sc := cs_law_1) (by decide +kernel)) (fun _ _ _ _ _ => (pg_name (i := 12) sc_law.nd rfl (Or.inl rfl))) (fun _ _ _ _ _ => (pts_one (pt_cmpR op_eq (pe_cal cal__law_home hr (by decide) (by rfl) passN (pa_cons (pv 3) (pa_cons (pv 12) (pa_cons (pv 4) pa_nil)))) (pv 11) (nomark _)))) (fun _ _ _ _ _ => (pv 12)))))
      (pss_cons (ps_set (i := 8) sc_law.nd rfl (Or.inl sc_law_v8) (pe_cal cal__law_told hr (by decide) (by rfl) passN (pa_cons (pv 3) (pa_cons (pv 4) (pa_cons (pv 6) pa_nil)))))
      (pss_cons (ps_if (PW.pt (pw_or (pt_not (pt_val (pe_callB call_isi (by rfl) m_isinstance (by decide +kernel) (pa_cons (pv 8) (pa_cons (pe_bltn (v := .ty "list") (by rfl) m_list (by decide +kernel) rfl) pa_nil))))) (pw_or (pt_cmpR (op_neD hr.units) (pv 8) (pv 7) (nomark _)) (pw_or1 (pt_cmpR (op_neD hr.units) (pv 6) (pv 5) (nomark _))))))
      (pss_one (ps_ret pe_bl))
      pss_nil)
      (pss_cons (ps_expr (pe_bm PySem.F.plainAttrs_list PySem.F.slot_list_append PySem.F.type_list_append mt_append (pe_ix ix_list (pv 8) pe_int (fun _ _ => rfl)) (pa_cons pe_non pa_nil)))
      (pss_cons (ps_if (pt_cmpR (op_neD hr.units) (pe_cal cal__law_told hr (by decide) (by rfl) passN (pa_cons (pv 3) (pa_cons (pv 4) (pa_cons (pv 6) pa_nil)))) (pv 7) (nomark _))
      (pss_one (ps_ret pe_bl))
      pss_nil)
      (pss_cons (ps_set (i := 9) sc_law.nd rfl (Or.inl sc_law_v9) (pe_ix ix_list (pe_lst (pa_cons (pe_un un_neg pe_int) (pa_cons pe_int (pa_cons pe_non (pa_cons pe_str pa_nil))))) (pe_op op_mod (pe_op op_fdivW (pv 2) (pe_op op_pow pe_int pe_int)) pe_int) (fun _ _ => rfl)))
      (pss_cons (ps_set (i := 10) sc_law.nd rfl (Or.inl sc_law_v10) (pe_lst (pa_cons (pe_cal cal__law_told hr (by decide) (by rfl) passN (pa_cons (pe_lst pa_nil) (pa_cons pe_int (pa_cons (pe_lst (pa_cons (pv 9) pa_nil)) pa_nil)))) (pa_cons (pe_cal cal__law_told hr (by decide) (by rfl) passN (pa_cons (pv 3) (pa_cons pe_int (pa_cons (pe_lst (pa_cons (pv 9) pa_nil)) pa_nil)))) pa_nil))))
      (pss_cons (ps_set (i := 10) sc_law.nd rfl (Or.inl sc_law_v10) (pe_op op_cat (pv 10) (pe_lst (pa_cons (pe_cal cal__law_told hr (by decide) (by rfl) passN (pa_cons (pv 3) (pa_cons (pv 4) (pa_cons (pe_op op_cat (pv 5) (pe_lst (pa_cons (pv 9) pa_nil))) pa_nil)))) pa_nil))))
      (pss_one (ps_if (pt_cmpR (op_neD hr.units) (pe_op op_cat (pv 10) (pe_lst (pa_cons (pe_cal cal__law_told hr (by decide) (by rfl) passN (pa_cons (pv 3) (pa_cons (pv 4) (pa_cons (pe_op op_cat (pe_lst (pa_cons pe_int pa_nil)) (pe_lst (pa_cons pe_int (pa_cons pe_int pa_nil)))) pa_nil)))) pa_nil))) (pe_lst (pa_cons pe_str (pa_cons pe_str (pa_cons pe_str (pa_cons pe_str pa_nil))))) (nomark _))
      (pss_one (ps_ret pe_bl))
      pss_nil))))))))))))))))
      (pss_one (ps_ret pe_bl)))
theorem all_mk {l : PySem.W.OpenLaw} {w : World} {K : PySem.W.Frag} {h : Heap} {mg : Str → Option Value} {fa : Addr} (X : K.In h) (G : h.Ns mainGlobals mg) (hfa : mg "law" = some (.ref fa))
    {C_BadKey : Addr}
    {C_BadRule : Addr}
    {C_BadSize : Addr}
    {C_Full : Addr}
    {C_StrewError : Addr}
    {C_TooMany : Addr}
    {f0 : Addr} {od0 an0 : Option Addr} {sl0 : Array (Option Value)} {oc0 kV0 dc0 pm0 cd0 ct0 : Value}
    {f1 : Addr} {od1 an1 : Option Addr} {sl1 : Array (Option Value)} {oc1 kV1 dc1 pm1 cd1 ct1 : Value}
    {f2 : Addr} {od2 an2 : Option Addr} {sl2 : Array (Option Value)} {oc2 kV2 dc2 pm2 cd2 ct2 : Value}
    {f3 : Addr} {od3 an3 : Option Addr} {sl3 : Array (Option Value)} {oc3 kV3 dc3 pm3 cd3 ct3 : Value}
    {f4 : Addr} {od4 an4 : Option Addr} {sl4 : Array (Option Value)} {oc4 kV4 dc4 pm4 cd4 ct4 : Value}
    {f5 : Addr} {od5 an5 : Option Addr} {sl5 : Array (Option Value)} {oc5 kV5 dc5 pm5 cd5 ct5 : Value}
    {f6 : Addr} {od6 an6 : Option Addr} {sl6 : Array (Option Value)} {oc6 kV6 dc6 pm6 cd6 ct6 : Value}
    {f7 : Addr} {od7 an7 : Option Addr} {sl7 : Array (Option Value)} {oc7 kV7 dc7 pm7 cd7 ct7 : Value}
    {f8 : Addr} {od8 an8 : Option Addr} {sl8 : Array (Option Value)} {oc8 kV8 dc8 pm8 cd8 ct8 : Value}
    {f9 : Addr} {od9 an9 : Option Addr} {sl9 : Array (Option Value)} {oc9 kV9 dc9 pm9 cd9 ct9 : Value}
    {f10 : Addr} {od10 an10 : Option Addr} {sl10 : Array (Option Value)} {oc10 kV10 dc10 pm10 cd10 ct10 : Value}
    {f11 : Addr} {od11 an11 : Option Addr} {sl11 : Array (Option Value)} {oc11 kV11 dc11 pm11 cd11 ct11 : Value}
    {f12 : Addr} {od12 an12 : Option Addr} {sl12 : Array (Option Value)} {oc12 kV12 dc12 pm12 cd12 ct12 : Value}
    {f13 : Addr} {od13 an13 : Option Addr} {sl13 : Array (Option Value)} {oc13 kV13 dc13 pm13 cd13 ct13 : Value}
    {f14 : Addr} {od14 an14 : Option Addr} {sl14 : Array (Option Value)} {oc14 kV14 dc14 pm14 cd14 ct14 : Value}
    {f15 : Addr} {od15 an15 : Option Addr} {sl15 : Array (Option Value)} {oc15 kV15 dc15 pm15 cd15 ct15 : Value}
    {f16 : Addr} {od16 an16 : Option Addr} {sl16 : Array (Option Value)} {oc16 kV16 dc16 pm16 cd16 ct16 : Value}
    {tk_LEAST_SIZE : Tok}
    {tk_MOST_BITS : Tok}
    {tk_MOST_NUMBER : Tok}
    {tk_MOST_NUMBERS : Tok}
    {tk_MOST_SIZE : Tok}
    {tk_MOST_TOLD : Tok}
    (n_BadKey : PySem.W.nsIn K mainGlobals "BadKey" = some (some (.ref C_BadKey)))
    (kc_BadKey : PySem.W.keepIn K (.ref C_BadKey) = true)
    (xc_BadKey : PySem.W.excIn K C_BadKey [.type "ValueError", .type "Exception", .type "BaseException", .type "object"] "ValueError.__new__" = true)
    (bc_BadKey : PySem.W.subIn K (.ref C_BadKey) (.type "BaseException") = some true)
    (tc_BadKey : PySem.W.typeIn K (.ref C_BadKey) = some (.type "type"))
    (n_BadRule : PySem.W.nsIn K mainGlobals "BadRule" = some (some (.ref C_BadRule)))
    (kc_BadRule : PySem.W.keepIn K (.ref C_BadRule) = true)
    (xc_BadRule : PySem.W.excIn K C_BadRule [.type "ValueError", .type "Exception", .type "BaseException", .type "object"] "ValueError.__new__" = true)
    (bc_BadRule : PySem.W.subIn K (.ref C_BadRule) (.type "BaseException") = some true)
    (tc_BadRule : PySem.W.typeIn K (.ref C_BadRule) = some (.type "type"))
    (n_BadSize : PySem.W.nsIn K mainGlobals "BadSize" = some (some (.ref C_BadSize)))
    (kc_BadSize : PySem.W.keepIn K (.ref C_BadSize) = true)
    (xc_BadSize : PySem.W.excIn K C_BadSize [.type "ValueError", .type "Exception", .type "BaseException", .type "object"] "ValueError.__new__" = true)
    (bc_BadSize : PySem.W.subIn K (.ref C_BadSize) (.type "BaseException") = some true)
    (tc_BadSize : PySem.W.typeIn K (.ref C_BadSize) = some (.type "type"))
    (n_Full : PySem.W.nsIn K mainGlobals "Full" = some (some (.ref C_Full)))
    (kc_Full : PySem.W.keepIn K (.ref C_Full) = true)
    (xc_Full : PySem.W.excIn K C_Full [.type "ValueError", .type "Exception", .type "BaseException", .type "object"] "ValueError.__new__" = true)
    (bc_Full : PySem.W.subIn K (.ref C_Full) (.type "BaseException") = some true)
    (tc_Full : PySem.W.typeIn K (.ref C_Full) = some (.type "type"))
    (n_StrewError : PySem.W.nsIn K mainGlobals "StrewError" = some (some (.ref C_StrewError)))
    (kc_StrewError : PySem.W.keepIn K (.ref C_StrewError) = true)
    (xc_StrewError : PySem.W.excIn K C_StrewError [.type "ValueError", .type "Exception", .type "BaseException", .type "object"] "ValueError.__new__" = true)
    (bc_StrewError : PySem.W.subIn K (.ref C_StrewError) (.type "BaseException") = some true)
    (tc_StrewError : PySem.W.typeIn K (.ref C_StrewError) = some (.type "type"))
    (n_TooMany : PySem.W.nsIn K mainGlobals "TooMany" = some (some (.ref C_TooMany)))
    (kc_TooMany : PySem.W.keepIn K (.ref C_TooMany) = true)
    (xc_TooMany : PySem.W.excIn K C_TooMany [.type "ValueError", .type "Exception", .type "BaseException", .type "object"] "ValueError.__new__" = true)
    (bc_TooMany : PySem.W.subIn K (.ref C_TooMany) (.type "BaseException") = some true)
    (tc_TooMany : PySem.W.typeIn K (.ref C_TooMany) = some (.type "type"))
    (hd_StrewError : PySem.W.hasDictIn K C_StrewError = true)
    (wn : PySem.W.specialIn K (.builtin "object.__class__") "__get__" = some (some (.builtin "getset_descriptor.__get__")))
    (wt : PySem.W.takesIn K (.builtin "object.__class__") = some true)
    (hg_BadRule : PySem.W.findIn K (.ref C_BadRule) "__getattribute__" = some (some (.builtin "BaseException.__getattribute__")))
    (hk_BadRule : PySem.W.findIn K (.ref C_BadRule) "__getattr__" = some none)
    (hd_BadRule : PySem.W.hasDictIn K C_BadRule = true)
    (ha_BadRule : PySem.W.findIn K (.ref C_BadRule) "__class__" = some (some (.builtin "object.__class__")))
    (hm_BadRule : PySem.W.mroIn K C_BadRule (.type "object") = some true)
    (kv_BadRule : PySem.W.subIn K (.ref C_BadRule) (.type "ValueError") = some true)
    (ex_BadRule : PySem.W.subIn K (.ref C_BadRule) (.ref C_StrewError) = some true)
    (kk_BadRule_BadRule : PySem.W.subIn K (.ref C_BadRule) (.ref C_BadRule) = some true)
    (kk_BadRule_BadKey : PySem.W.subIn K (.ref C_BadRule) (.ref C_BadKey) = some false)
    (kk_BadRule_BadSize : PySem.W.subIn K (.ref C_BadRule) (.ref C_BadSize) = some false)
    (kk_BadRule_Full : PySem.W.subIn K (.ref C_BadRule) (.ref C_Full) = some false)
    (kk_BadRule_TooMany : PySem.W.subIn K (.ref C_BadRule) (.ref C_TooMany) = some false)
    (hg_BadKey : PySem.W.findIn K (.ref C_BadKey) "__getattribute__" = some (some (.builtin "BaseException.__getattribute__")))
    (hk_BadKey : PySem.W.findIn K (.ref C_BadKey) "__getattr__" = some none)
    (hd_BadKey : PySem.W.hasDictIn K C_BadKey = true)
    (ha_BadKey : PySem.W.findIn K (.ref C_BadKey) "__class__" = some (some (.builtin "object.__class__")))
    (hm_BadKey : PySem.W.mroIn K C_BadKey (.type "object") = some true)
    (kv_BadKey : PySem.W.subIn K (.ref C_BadKey) (.type "ValueError") = some true)
    (ex_BadKey : PySem.W.subIn K (.ref C_BadKey) (.ref C_StrewError) = some true)
    (kk_BadKey_BadRule : PySem.W.subIn K (.ref C_BadKey) (.ref C_BadRule) = some false)
    (kk_BadKey_BadKey : PySem.W.subIn K (.ref C_BadKey) (.ref C_BadKey) = some true)
    (kk_BadKey_BadSize : PySem.W.subIn K (.ref C_BadKey) (.ref C_BadSize) = some false)
    (kk_BadKey_Full : PySem.W.subIn K (.ref C_BadKey) (.ref C_Full) = some false)
    (kk_BadKey_TooMany : PySem.W.subIn K (.ref C_BadKey) (.ref C_TooMany) = some false)
    (hg_BadSize : PySem.W.findIn K (.ref C_BadSize) "__getattribute__" = some (some (.builtin "BaseException.__getattribute__")))
    (hk_BadSize : PySem.W.findIn K (.ref C_BadSize) "__getattr__" = some none)
    (hd_BadSize : PySem.W.hasDictIn K C_BadSize = true)
    (ha_BadSize : PySem.W.findIn K (.ref C_BadSize) "__class__" = some (some (.builtin "object.__class__")))
    (hm_BadSize : PySem.W.mroIn K C_BadSize (.type "object") = some true)
    (kv_BadSize : PySem.W.subIn K (.ref C_BadSize) (.type "ValueError") = some true)
    (ex_BadSize : PySem.W.subIn K (.ref C_BadSize) (.ref C_StrewError) = some true)
    (kk_BadSize_BadRule : PySem.W.subIn K (.ref C_BadSize) (.ref C_BadRule) = some false)
    (kk_BadSize_BadKey : PySem.W.subIn K (.ref C_BadSize) (.ref C_BadKey) = some false)
    (kk_BadSize_BadSize : PySem.W.subIn K (.ref C_BadSize) (.ref C_BadSize) = some true)
    (kk_BadSize_Full : PySem.W.subIn K (.ref C_BadSize) (.ref C_Full) = some false)
    (kk_BadSize_TooMany : PySem.W.subIn K (.ref C_BadSize) (.ref C_TooMany) = some false)
    (hg_Full : PySem.W.findIn K (.ref C_Full) "__getattribute__" = some (some (.builtin "BaseException.__getattribute__")))
    (hk_Full : PySem.W.findIn K (.ref C_Full) "__getattr__" = some none)
    (hd_Full : PySem.W.hasDictIn K C_Full = true)
    (ha_Full : PySem.W.findIn K (.ref C_Full) "__class__" = some (some (.builtin "object.__class__")))
    (hm_Full : PySem.W.mroIn K C_Full (.type "object") = some true)
    (kv_Full : PySem.W.subIn K (.ref C_Full) (.type "ValueError") = some true)
    (ex_Full : PySem.W.subIn K (.ref C_Full) (.ref C_StrewError) = some true)
    (kk_Full_BadRule : PySem.W.subIn K (.ref C_Full) (.ref C_BadRule) = some false)
    (kk_Full_BadKey : PySem.W.subIn K (.ref C_Full) (.ref C_BadKey) = some false)
    (kk_Full_BadSize : PySem.W.subIn K (.ref C_Full) (.ref C_BadSize) = some false)
    (kk_Full_Full : PySem.W.subIn K (.ref C_Full) (.ref C_Full) = some true)
    (kk_Full_TooMany : PySem.W.subIn K (.ref C_Full) (.ref C_TooMany) = some false)
    (hg_TooMany : PySem.W.findIn K (.ref C_TooMany) "__getattribute__" = some (some (.builtin "BaseException.__getattribute__")))
    (hk_TooMany : PySem.W.findIn K (.ref C_TooMany) "__getattr__" = some none)
    (hd_TooMany : PySem.W.hasDictIn K C_TooMany = true)
    (ha_TooMany : PySem.W.findIn K (.ref C_TooMany) "__class__" = some (some (.builtin "object.__class__")))
    (hm_TooMany : PySem.W.mroIn K C_TooMany (.type "object") = some true)
    (kv_TooMany : PySem.W.subIn K (.ref C_TooMany) (.type "ValueError") = some true)
    (ex_TooMany : PySem.W.subIn K (.ref C_TooMany) (.ref C_StrewError) = some true)
    (kk_TooMany_BadRule : PySem.W.subIn K (.ref C_TooMany) (.ref C_BadRule) = some false)
    (kk_TooMany_BadKey : PySem.W.subIn K (.ref C_TooMany) (.ref C_BadKey) = some false)
    (kk_TooMany_BadSize : PySem.W.subIn K (.ref C_TooMany) (.ref C_BadSize) = some false)
    (kk_TooMany_Full : PySem.W.subIn K (.ref C_TooMany) (.ref C_Full) = some false)
    (kk_TooMany_TooMany : PySem.W.subIn K (.ref C_TooMany) (.ref C_TooMany) = some true)
    (a0 : PySem.W.nsIn K mainGlobals "_law_cell" = some (some (.ref f0)))
    (l0 : K.lookup f0 = some ⟨oc0, od0, .func (PySem.W.fnOf "_law_cell" "_law_cell" (defArgs s__law_cell) (defBody s__law_cell) (defScope s__law_cell) .none kV0 dc0 pm0 an0 cd0 ct0), sl0⟩)
    (c0 : PySem.W.codeIn K cd0 "_law_cell" = true)
    (k0 : PySem.W.keepIn K (.ref f0) = true)
    (a1 : PySem.W.nsIn K mainGlobals "_law_drawn" = some (some (.ref f1)))
    (l1 : K.lookup f1 = some ⟨oc1, od1, .func (PySem.W.fnOf "_law_drawn" "_law_drawn" (defArgs s__law_drawn) (defBody s__law_drawn) (defScope s__law_drawn) .none kV1 dc1 pm1 an1 cd1 ct1), sl1⟩)
    (c1 : PySem.W.codeIn K cd1 "_law_drawn" = true)
    (k1 : PySem.W.keepIn K (.ref f1) = true)
    (a2 : PySem.W.nsIn K mainGlobals "_law_rule" = some (some (.ref f2)))
    (l2 : K.lookup f2 = some ⟨oc2, od2, .func (PySem.W.fnOf "_law_rule" "_law_rule" (defArgs s__law_rule) (defBody s__law_rule) (defScope s__law_rule) .none kV2 dc2 pm2 an2 cd2 ct2), sl2⟩)
    (c2 : PySem.W.codeIn K cd2 "_law_rule" = true)
    (k2 : PySem.W.keepIn K (.ref f2) = true)
    (a3 : PySem.W.nsIn K mainGlobals "_law_keys" = some (some (.ref f3)))
    (l3 : K.lookup f3 = some ⟨oc3, od3, .func (PySem.W.fnOf "_law_keys" "_law_keys" (defArgs s__law_keys) (defBody s__law_keys) (defScope s__law_keys) .none kV3 dc3 pm3 an3 cd3 ct3), sl3⟩)
    (c3 : PySem.W.codeIn K cd3 "_law_keys" = true)
    (k3 : PySem.W.keepIn K (.ref f3) = true)
    (a4 : PySem.W.nsIn K mainGlobals "_law_home" = some (some (.ref f4)))
    (l4 : K.lookup f4 = some ⟨oc4, od4, .func (PySem.W.fnOf "_law_home" "_law_home" (defArgs s__law_home) (defBody s__law_home) (defScope s__law_home) .none kV4 dc4 pm4 an4 cd4 ct4), sl4⟩)
    (c4 : PySem.W.codeIn K cd4 "_law_home" = true)
    (k4 : PySem.W.keepIn K (.ref f4) = true)
    (a5 : PySem.W.nsIn K mainGlobals "_law_word" = some (some (.ref f5)))
    (l5 : K.lookup f5 = some ⟨oc5, od5, .func (PySem.W.fnOf "_law_word" "_law_word" (defArgs s__law_word) (defBody s__law_word) (defScope s__law_word) .none kV5 dc5 pm5 an5 cd5 ct5), sl5⟩)
    (c5 : PySem.W.codeIn K cd5 "_law_word" = true)
    (k5 : PySem.W.keepIn K (.ref f5) = true)
    (a6 : PySem.W.nsIn K mainGlobals "is_count" = some (some (.ref f6)))
    (l6 : K.lookup f6 = some ⟨oc6, od6, .func (PySem.W.fnOf "is_count" "is_count" (defArgs s_is_count) (defBody s_is_count) (defScope s_is_count) .none kV6 dc6 pm6 an6 cd6 ct6), sl6⟩)
    (c6 : PySem.W.codeIn K cd6 "is_count" = true)
    (k6 : PySem.W.keepIn K (.ref f6) = true)
    (a7 : PySem.W.nsIn K mainGlobals "is_numbers" = some (some (.ref f7)))
    (l7 : K.lookup f7 = some ⟨oc7, od7, .func (PySem.W.fnOf "is_numbers" "is_numbers" (defArgs s_is_numbers) (defBody s_is_numbers) (defScope s_is_numbers) .none kV7 dc7 pm7 an7 cd7 ct7), sl7⟩)
    (c7 : PySem.W.codeIn K cd7 "is_numbers" = true)
    (k7 : PySem.W.keepIn K (.ref f7) = true)
    (a8 : PySem.W.nsIn K mainGlobals "is_rule" = some (some (.ref f8)))
    (l8 : K.lookup f8 = some ⟨oc8, od8, .func (PySem.W.fnOf "is_rule" "is_rule" (defArgs s_is_rule) (defBody s_is_rule) (defScope s_is_rule) .none kV8 dc8 pm8 an8 cd8 ct8), sl8⟩)
    (c8 : PySem.W.codeIn K cd8 "is_rule" = true)
    (k8 : PySem.W.keepIn K (.ref f8) = true)
    (a9 : PySem.W.nsIn K mainGlobals "need_rule" = some (some (.ref f9)))
    (l9 : K.lookup f9 = some ⟨oc9, od9, .func (PySem.W.fnOf "need_rule" "need_rule" (defArgs s_need_rule) (defBody s_need_rule) (defScope s_need_rule) .none kV9 dc9 pm9 an9 cd9 ct9), sl9⟩)
    (c9 : PySem.W.codeIn K cd9 "need_rule" = true)
    (k9 : PySem.W.keepIn K (.ref f9) = true)
    (a10 : PySem.W.nsIn K mainGlobals "need_size" = some (some (.ref f10)))
    (l10 : K.lookup f10 = some ⟨oc10, od10, .func (PySem.W.fnOf "need_size" "need_size" (defArgs s_need_size) (defBody s_need_size) (defScope s_need_size) .none kV10 dc10 pm10 an10 cd10 ct10), sl10⟩)
    (c10 : PySem.W.codeIn K cd10 "need_size" = true)
    (k10 : PySem.W.keepIn K (.ref f10) = true)
    (a11 : PySem.W.nsIn K mainGlobals "need_key" = some (some (.ref f11)))
    (l11 : K.lookup f11 = some ⟨oc11, od11, .func (PySem.W.fnOf "need_key" "need_key" (defArgs s_need_key) (defBody s_need_key) (defScope s_need_key) .none kV11 dc11 pm11 an11 cd11 ct11), sl11⟩)
    (c11 : PySem.W.codeIn K cd11 "need_key" = true)
    (k11 : PySem.W.keepIn K (.ref f11) = true)
    (a12 : PySem.W.nsIn K mainGlobals "need_keys" = some (some (.ref f12)))
    (l12 : K.lookup f12 = some ⟨oc12, od12, .func (PySem.W.fnOf "need_keys" "need_keys" (defArgs s_need_keys) (defBody s_need_keys) (defScope s_need_keys) .none kV12 dc12 pm12 an12 cd12 ct12), sl12⟩)
    (c12 : PySem.W.codeIn K cd12 "need_keys" = true)
    (k12 : PySem.W.keepIn K (.ref f12) = true)
    (a13 : PySem.W.nsIn K mainGlobals "home_of" = some (some (.ref f13)))
    (l13 : K.lookup f13 = some ⟨oc13, od13, .func (PySem.W.fnOf "home_of" "home_of" (defArgs s_home_of) (defBody s_home_of) (defScope s_home_of) .none kV13 dc13 pm13 an13 cd13 ct13), sl13⟩)
    (c13 : PySem.W.codeIn K cd13 "home_of" = true)
    (k13 : PySem.W.keepIn K (.ref f13) = true)
    (a14 : PySem.W.nsIn K mainGlobals "chains" = some (some (.ref f14)))
    (l14 : K.lookup f14 = some ⟨oc14, od14, .func (PySem.W.fnOf "chains" "chains" (defArgs s_chains) (defBody s_chains) (defScope s_chains) .none kV14 dc14 pm14 an14 cd14 ct14), sl14⟩)
    (c14 : PySem.W.codeIn K cd14 "chains" = true)
    (k14 : PySem.W.keepIn K (.ref f14) = true)
    (a15 : PySem.W.nsIn K mainGlobals "_law_told" = some (some (.ref f15)))
    (l15 : K.lookup f15 = some ⟨oc15, od15, .func (PySem.W.fnOf "_law_told" "_law_told" (defArgs s__law_told) (defBody s__law_told) (defScope s__law_told) .none kV15 dc15 pm15 an15 cd15 ct15), sl15⟩)
    (c15 : PySem.W.codeIn K cd15 "_law_told" = true)
    (k15 : PySem.W.keepIn K (.ref f15) = true)
    (a16 : PySem.W.nsIn K mainGlobals "law" = some (some (.ref f16)))
    (l16 : K.lookup f16 = some ⟨oc16, od16, .func (PySem.W.fnOf "law" "law" (defArgs s_law) (defBody s_law) (defScope s_law) .none kV16 dc16 pm16 an16 cd16 ct16), sl16⟩)
    (c16 : PySem.W.codeIn K cd16 "law" = true)
    (k16 : PySem.W.keepIn K (.ref f16) = true)
    (v_LEAST_SIZE : PySem.W.nsIn K mainGlobals "LEAST_SIZE" = some (some (.int 2 tk_LEAST_SIZE)))
    (v_MOST_BITS : PySem.W.nsIn K mainGlobals "MOST_BITS" = some (some (.int 30 tk_MOST_BITS)))
    (v_MOST_NUMBER : PySem.W.nsIn K mainGlobals "MOST_NUMBER" = some (some (.int 999999 tk_MOST_NUMBER)))
    (v_MOST_NUMBERS : PySem.W.nsIn K mainGlobals "MOST_NUMBERS" = some (some (.int 64 tk_MOST_NUMBERS)))
    (v_MOST_SIZE : PySem.W.nsIn K mainGlobals "MOST_SIZE" = some (some (.int 64 tk_MOST_SIZE)))
    (v_MOST_TOLD : PySem.W.nsIn K mainGlobals "MOST_TOLD" = some (some (.int 999 tk_MOST_TOLD)))
    (b_ValueError : PySem.W.nsIn K mainGlobals "ValueError" = some none)
    (b_all : PySem.W.nsIn K mainGlobals "all" = some none)
    (b_bool : PySem.W.nsIn K mainGlobals "bool" = some none)
    (b_int : PySem.W.nsIn K mainGlobals "int" = some none)
    (b_isinstance : PySem.W.nsIn K mainGlobals "isinstance" = some none)
    (b_len : PySem.W.nsIn K mainGlobals "len" = some none)
    (b_list : PySem.W.nsIn K mainGlobals "list" = some none)
    (b_max : PySem.W.nsIn K mainGlobals "max" = some none)
    (b_min : PySem.W.nsIn K mainGlobals "min" = some none)
    (b_range : PySem.W.nsIn K mainGlobals "range" = some none)
    (b_set : PySem.W.nsIn K mainGlobals "set" = some none)
    (b_sorted : PySem.W.nsIn K mainGlobals "sorted" = some none)
    (b_sum : PySem.W.nsIn K mainGlobals "sum" = some none)
    (b_tuple : PySem.W.nsIn K mainGlobals "tuple" = some none) :
    ∃ fd : FuncData, (∀ (s : Shared) (v : Value), BindsTo s fd ⟨[v], []⟩ [("_law_script", v)]) ∧ ∀ base : Heap, K.In base → base.Ns mainGlobals mg → FnOk l.prog w K mg base (L2N.CX l.prog w) 7 fa fd ["_law_script"] (spLaw K) := by
  have e := hfa.symm.trans (PySem.W.mg_of X G a16)
  cases e
  refine ⟨PySem.W.fnOf "law" "law" (defArgs s_law) (defBody s_law) (defScope s_law) .none kV16 dc16 pm16 an16 cd16 ct16, fun s v => .of_eq rfl, fun base _ _ => ?_⟩
  let cs : Cs := ⟨C_BadRule, C_BadKey, C_BadSize, C_Full, C_TooMany, C_StrewError, 0, 0, 0⟩
  have x_BadKey : ExcT K mg "BadKey" cs.BadKey := ⟨PySem.W.mg_of X G n_BadKey, kc_BadKey, xc_BadKey, bc_BadKey, tc_BadKey⟩
  have x_BadRule : ExcT K mg "BadRule" cs.BadRule := ⟨PySem.W.mg_of X G n_BadRule, kc_BadRule, xc_BadRule, bc_BadRule, tc_BadRule⟩
  have x_BadSize : ExcT K mg "BadSize" cs.BadSize := ⟨PySem.W.mg_of X G n_BadSize, kc_BadSize, xc_BadSize, bc_BadSize, tc_BadSize⟩
  have x_Full : ExcT K mg "Full" cs.Full := ⟨PySem.W.mg_of X G n_Full, kc_Full, xc_Full, bc_Full, tc_Full⟩
  have x_StrewError : ExcT K mg "StrewError" cs.StrewError := ⟨PySem.W.mg_of X G n_StrewError, kc_StrewError, xc_StrewError, bc_StrewError, tc_StrewError⟩
  have x_TooMany : ExcT K mg "TooMany" cs.TooMany := ⟨PySem.W.mg_of X G n_TooMany, kc_TooMany, xc_TooMany, bc_TooMany, tc_TooMany⟩
  have kw_BadRule := kitC_mk (cs := cs) (⟨hg_BadRule, hk_BadRule, bc_BadRule, hd_BadRule, ha_BadRule, wn, wt, hm_BadRule⟩ : ExcC K C_BadRule) hd_BadRule hd_BadKey hd_BadSize hd_Full hd_TooMany tc_BadRule tc_BadKey tc_BadSize tc_Full tc_TooMany kk_BadRule_BadRule kk_BadRule_BadRule kk_BadRule_BadKey kk_BadRule_BadSize kk_BadRule_Full kk_BadRule_TooMany kv_BadRule
  have kw_BadKey := kitC_mk (cs := cs) (⟨hg_BadKey, hk_BadKey, bc_BadKey, hd_BadKey, ha_BadKey, wn, wt, hm_BadKey⟩ : ExcC K C_BadKey) hd_BadRule hd_BadKey hd_BadSize hd_Full hd_TooMany tc_BadRule tc_BadKey tc_BadSize tc_Full tc_TooMany kk_BadKey_BadKey kk_BadKey_BadRule kk_BadKey_BadKey kk_BadKey_BadSize kk_BadKey_Full kk_BadKey_TooMany kv_BadKey
  have kw_BadSize := kitC_mk (cs := cs) (⟨hg_BadSize, hk_BadSize, bc_BadSize, hd_BadSize, ha_BadSize, wn, wt, hm_BadSize⟩ : ExcC K C_BadSize) hd_BadRule hd_BadKey hd_BadSize hd_Full hd_TooMany tc_BadRule tc_BadKey tc_BadSize tc_Full tc_TooMany kk_BadSize_BadSize kk_BadSize_BadRule kk_BadSize_BadKey kk_BadSize_BadSize kk_BadSize_Full kk_BadSize_TooMany kv_BadSize
  have kw_Full := kitC_mk (cs := cs) (⟨hg_Full, hk_Full, bc_Full, hd_Full, ha_Full, wn, wt, hm_Full⟩ : ExcC K C_Full) hd_BadRule hd_BadKey hd_BadSize hd_Full hd_TooMany tc_BadRule tc_BadKey tc_BadSize tc_Full tc_TooMany kk_Full_Full kk_Full_BadRule kk_Full_BadKey kk_Full_BadSize kk_Full_Full kk_Full_TooMany kv_Full
  have kw_TooMany := kitC_mk (cs := cs) (⟨hg_TooMany, hk_TooMany, bc_TooMany, hd_TooMany, ha_TooMany, wn, wt, hm_TooMany⟩ : ExcC K C_TooMany) hd_BadRule hd_BadKey hd_BadSize hd_Full hd_TooMany tc_BadRule tc_BadKey tc_BadSize tc_Full tc_TooMany kk_TooMany_TooMany kk_TooMany_BadRule kk_TooMany_BadKey kk_TooMany_BadSize kk_TooMany_Full kk_TooMany_TooMany kv_TooMany
  have kw : KitW K cs := ⟨kw_BadRule, kw_BadKey, kw_BadSize, kw_Full, kw_TooMany⟩
  have kx : ExmW K cs := exmW_mk (PySem.W.exm_ref bc_StrewError hd_StrewError tc_StrewError ex_BadRule) (PySem.W.exm_ref bc_StrewError hd_StrewError tc_StrewError ex_BadKey) (PySem.W.exm_ref bc_StrewError hd_StrewError tc_StrewError ex_BadSize) (PySem.W.exm_ref bc_StrewError hd_StrewError tc_StrewError ex_Full) (PySem.W.exm_ref bc_StrewError hd_StrewError tc_StrewError ex_TooMany)
  have k_LEAST_SIZE : ∃ t, mg "LEAST_SIZE" = some (.int 2 t) := ⟨_, PySem.W.mg_of X G v_LEAST_SIZE⟩
  have k_MOST_BITS : ∃ t, mg "MOST_BITS" = some (.int 30 t) := ⟨_, PySem.W.mg_of X G v_MOST_BITS⟩
  have k_MOST_NUMBER : ∃ t, mg "MOST_NUMBER" = some (.int 999999 t) := ⟨_, PySem.W.mg_of X G v_MOST_NUMBER⟩
  have k_MOST_NUMBERS : ∃ t, mg "MOST_NUMBERS" = some (.int 64 t) := ⟨_, PySem.W.mg_of X G v_MOST_NUMBERS⟩
  have k_MOST_SIZE : ∃ t, mg "MOST_SIZE" = some (.int 64 t) := ⟨_, PySem.W.mg_of X G v_MOST_SIZE⟩
  have k_MOST_TOLD : ∃ t, mg "MOST_TOLD" = some (.int 999 t) := ⟨_, PySem.W.mg_of X G v_MOST_TOLD⟩
  have m_ValueError : mg "ValueError" = none := PySem.W.mg_none_of X G b_ValueError
  have m_all : mg "all" = none := PySem.W.mg_none_of X G b_all
  have m_bool : mg "bool" = none := PySem.W.mg_none_of X G b_bool
  have m_int : mg "int" = none := PySem.W.mg_none_of X G b_int
  have m_isinstance : mg "isinstance" = none := PySem.W.mg_none_of X G b_isinstance
  have m_len : mg "len" = none := PySem.W.mg_none_of X G b_len
  have m_list : mg "list" = none := PySem.W.mg_none_of X G b_list
  have m_max : mg "max" = none := PySem.W.mg_none_of X G b_max
  have m_min : mg "min" = none := PySem.W.mg_none_of X G b_min
  have m_range : mg "range" = none := PySem.W.mg_none_of X G b_range
  have m_set : mg "set" = none := PySem.W.mg_none_of X G b_set
  have m_sorted : mg "sorted" = none := PySem.W.mg_none_of X G b_sorted
  have m_sum : mg "sum" = none := PySem.W.mg_none_of X G b_sum
  have m_tuple : mg "tuple" = none := PySem.W.mg_none_of X G b_tuple
  have D__law_cell : Dn K mg "_law_cell" s__law_cell ["_law_script", "_law_k"] := ⟨f0, _, fun_mk (st := s__law_cell) l0 c0 k0, PySem.W.mg_of X G a0, (fun_mk (st := s__law_cell) l0 c0 k0).binds fun _ _ _ _ _ _ us hl => match us, hl with | [_, _], _ => rfl⟩
  have cal__law_cell := ok__law_cell (P := l.prog) (w := w) (base := base) (cs := cs) D__law_cell m_len
  have D__law_drawn : Dn K mg "_law_drawn" s__law_drawn ["_law_cell_here", "_law_k"] := ⟨f1, _, fun_mk (st := s__law_drawn) l1 c1 k1, PySem.W.mg_of X G a1, (fun_mk (st := s__law_drawn) l1 c1 k1).binds fun _ _ _ _ _ _ us hl => match us, hl with | [_, _], _ => rfl⟩
  have cal__law_drawn := ok__law_drawn (P := l.prog) (w := w) (base := base) (cs := cs) D__law_drawn
  have D__law_rule : Dn K mg "_law_rule" s__law_rule ["_law_more"] := ⟨f2, _, fun_mk (st := s__law_rule) l2 c2 k2, PySem.W.mg_of X G a2, (fun_mk (st := s__law_rule) l2 c2 k2).binds fun _ _ _ _ _ _ us hl => match us, hl with | [_], _ => rfl⟩
  have cal__law_rule := ok__law_rule (P := l.prog) (w := w) (base := base) (cs := cs) D__law_rule m_range m_tuple
  have D__law_keys : Dn K mg "_law_keys" s__law_keys ["_law_more", "_law_many"] := ⟨f3, _, fun_mk (st := s__law_keys) l3 c3 k3, PySem.W.mg_of X G a3, (fun_mk (st := s__law_keys) l3 c3 k3).binds fun _ _ _ _ _ _ us hl => match us, hl with | [_, _], _ => rfl⟩
  have cal__law_keys := ok__law_keys (P := l.prog) (w := w) (base := base) (cs := cs) D__law_keys cal__law_drawn m_range
  have D__law_home : Dn K mg "_law_home" s__law_home ["_law_rule_here", "_law_key", "_law_size"] := ⟨f4, _, fun_mk (st := s__law_home) l4 c4 k4, PySem.W.mg_of X G a4, (fun_mk (st := s__law_home) l4 c4 k4).binds fun _ _ _ _ _ _ us hl => match us, hl with | [_, _, _], _ => rfl⟩
  have cal__law_home := ok__law_home (P := l.prog) (w := w) (base := base) (cs := cs) D__law_home m_len m_range
  have D__law_word : Dn K mg "_law_word" s__law_word ["_law_e"] := ⟨f5, _, fun_mk (st := s__law_word) l5 c5 k5, PySem.W.mg_of X G a5, (fun_mk (st := s__law_word) l5 c5 k5).binds fun _ _ _ _ _ _ us hl => match us, hl with | [_], _ => rfl⟩
  have cal__law_word := ok__law_word (P := l.prog) (w := w) (base := base) (cs := cs) D__law_word kw m_isinstance m_int m_sum m_ValueError x_BadRule x_BadKey x_BadSize x_Full x_TooMany
  have D_is_count : Dn K mg "is_count" s_is_count ["thing", "least", "most"] := ⟨f6, _, fun_mk (st := s_is_count) l6 c6 k6, PySem.W.mg_of X G a6, (fun_mk (st := s_is_count) l6 c6 k6).binds fun _ _ _ _ _ _ us hl => match us, hl with | [_, _, _], _ => rfl⟩
  have cal_is_count := ok_is_count (P := l.prog) (w := w) (base := base) (cs := cs) D_is_count m_int m_isinstance m_bool
  have D_is_numbers : Dn K mg "is_numbers" s_is_numbers ["thing"] := ⟨f7, _, fun_mk (st := s_is_numbers) l7 c7 k7, PySem.W.mg_of X G a7, (fun_mk (st := s_is_numbers) l7 c7 k7).binds fun _ _ _ _ _ _ us hl => match us, hl with | [_], _ => rfl⟩
  have cal_is_numbers := ok_is_numbers (P := l.prog) (w := w) (base := base) (cs := cs) D_is_numbers cal_is_count m_tuple m_isinstance m_len m_all k_MOST_NUMBERS k_MOST_TOLD
  have D_is_rule : Dn K mg "is_rule" s_is_rule ["thing"] := ⟨f8, _, fun_mk (st := s_is_rule) l8 c8 k8, PySem.W.mg_of X G a8, (fun_mk (st := s_is_rule) l8 c8 k8).binds fun _ _ _ _ _ _ us hl => match us, hl with | [_], _ => rfl⟩
  have cal_is_rule := ok_is_rule (P := l.prog) (w := w) (base := base) (cs := cs) D_is_rule cal_is_numbers cal_is_count m_tuple m_isinstance m_len m_int k_MOST_NUMBER k_MOST_BITS
  have D_need_rule : Dn K mg "need_rule" s_need_rule ["rule"] := ⟨f9, _, fun_mk (st := s_need_rule) l9 c9 k9, PySem.W.mg_of X G a9, (fun_mk (st := s_need_rule) l9 c9 k9).binds fun _ _ _ _ _ _ us hl => match us, hl with | [_], _ => rfl⟩
  have cal_need_rule := ok_need_rule (P := l.prog) (w := w) (base := base) (cs := cs) D_need_rule cal_is_rule x_BadRule
  have D_need_size : Dn K mg "need_size" s_need_size ["size"] := ⟨f10, _, fun_mk (st := s_need_size) l10 c10 k10, PySem.W.mg_of X G a10, (fun_mk (st := s_need_size) l10 c10 k10).binds fun _ _ _ _ _ _ us hl => match us, hl with | [_], _ => rfl⟩
  have cal_need_size := ok_need_size (P := l.prog) (w := w) (base := base) (cs := cs) D_need_size cal_is_count k_LEAST_SIZE k_MOST_SIZE x_BadSize
  have D_need_key : Dn K mg "need_key" s_need_key ["key"] := ⟨f11, _, fun_mk (st := s_need_key) l11 c11 k11, PySem.W.mg_of X G a11, (fun_mk (st := s_need_key) l11 c11 k11).binds fun _ _ _ _ _ _ us hl => match us, hl with | [_], _ => rfl⟩
  have cal_need_key := ok_need_key (P := l.prog) (w := w) (base := base) (cs := cs) D_need_key cal_is_count k_MOST_NUMBER x_BadKey
  have D_need_keys : Dn K mg "need_keys" s_need_keys ["keys"] := ⟨f12, _, fun_mk (st := s_need_keys) l12 c12 k12, PySem.W.mg_of X G a12, (fun_mk (st := s_need_keys) l12 c12 k12).binds fun _ _ _ _ _ _ us hl => match us, hl with | [_], _ => rfl⟩
  have cal_need_keys := ok_need_keys (P := l.prog) (w := w) (base := base) (cs := cs) D_need_keys cal_need_key m_len m_set x_BadKey
  have D_home_of : Dn K mg "home_of" s_home_of ["rule", "key", "size"] := ⟨f13, _, fun_mk (st := s_home_of) l13 c13 k13, PySem.W.mg_of X G a13, (fun_mk (st := s_home_of) l13 c13 k13).binds fun _ _ _ _ _ _ us hl => match us, hl with | [_, _, _], _ => rfl⟩
  have cal_home_of := ok_home_of (P := l.prog) (w := w) (base := base) (cs := cs) D_home_of m_len
  have D_chains : Dn K mg "chains" s_chains ["rule", "size", "keys"] := ⟨f14, _, fun_mk (st := s_chains) l14 c14 k14, PySem.W.mg_of X G a14, (fun_mk (st := s_chains) l14 c14 k14).binds fun _ _ _ _ _ _ us hl => match us, hl with | [_, _, _], _ => rfl⟩
  have cal_chains := ok_chains (P := l.prog) (w := w) (base := base) (cs := cs) D_chains cal_need_rule cal_need_size cal_need_keys cal_home_of m_range m_sorted
  have D__law_told : Dn K mg "_law_told" s__law_told ["_law_rule_here", "_law_size", "_law_keys_here"] := ⟨f15, _, fun_mk (st := s__law_told) l15 c15 k15, PySem.W.mg_of X G a15, (fun_mk (st := s__law_told) l15 c15 k15).binds fun _ _ _ _ _ _ us hl => match us, hl with | [_, _, _], _ => rfl⟩
  have cal__law_told := ok__law_told (P := l.prog) (w := w) (base := base) (cs := cs) D__law_told cal__law_word cal_chains kx x_StrewError
  exact ok_law (cs := cs) (fun_mk (st := s_law) l16 c16 k16) cal__law_cell cal__law_drawn cal__law_rule cal__law_keys cal__law_home cal__law_told m_range m_len m_min m_max m_list m_sorted m_isinstance
theorem walk {l : PySem.W.OpenLaw} {q : Program} {loose : List Str} {XP : (Str → Option Value) → Heap → Prop} {YP : World → Heap → Prop} {d : DefRec} {K : Params → PySem.W.Frag} (hn : l.most = some 63) (hdf : d.params.defaults = [])
    (hY : ∀ (w : World) (h : Heap), YP w h → (K w.params).In h)
    (F : ∀ (w : World) (mg : Str → Option Value) (fa : Addr) (h : Heap), (K w.params).In h → h.Ns mainGlobals mg → mg d.name = some (.ref fa) →
      ∃ fd : FuncData, (∀ (s : Shared) (u : Value), BindsTo s fd ⟨[u], []⟩ [("_law_script", u)]) ∧ ∀ base : Heap, (K w.params).In base → base.Ns mainGlobals mg → FnOk l.prog w (K w.params) mg base (L2N.CX l.prog w) 7 fa fd ["_law_script"] (spLaw (K w.params))) :
    PySem.W.WalkO q loose XP YP l.row.toRowW d [] (fun f vs => PySem.call f vs) := by
  refine L2.walk_of (n := 63) (k := 7) (x := "_law_script") (CX := fun w => L2N.CX l.prog w) (sp := fun w => spLaw (K w.params)) hn (by decide) hdf ⟨rfl, by decide, by decide⟩ hY F (fun _ _ a ns hl _ hS => ⟨a, ns, rfl, hS, hl, fun _ => rfl⟩) fun _ _ _ _ _ h => ?_
  obtain ⟨_, _, _, _, _, _, _, _, _, _, _, _, z⟩ := h
  exact z.elim
end Lg
open PySem PySem.W PyProof.Rows
set_option maxRecDepth 100000 in
set_option maxHeartbeats 0 in
theorem PySem.Challenge.cw_strewn_k50_chains_holds : PySem.Challenge.rw_strewn_k50_chains.Holds := by
  w_on; o_law; k_head; (case hw => w_witness2)
  k_fill
  refine Lg.walk (l := PySem.Challenge.rw_strewn_k50_chains) rfl rfl (fun w h Y => PySem.W.kIn_of Y) ?F
  case F =>
    intro w mg fa h KX G hmg
    refine' Lg.all_mk KX G hmg ?n_BadKey ?kc_BadKey ?xc_BadKey ?bc_BadKey ?tc_BadKey ?n_BadRule ?kc_BadRule ?xc_BadRule ?bc_BadRule ?tc_BadRule ?n_BadSize ?kc_BadSize ?xc_BadSize ?bc_BadSize ?tc_BadSize ?n_Full ?kc_Full ?xc_Full ?bc_Full ?tc_Full ?n_StrewError ?kc_StrewError ?xc_StrewError ?bc_StrewError ?tc_StrewError ?n_TooMany ?kc_TooMany ?xc_TooMany ?bc_TooMany ?tc_TooMany ?hd_StrewError ?wn ?wt ?hg_BadRule ?hk_BadRule ?hd_BadRule ?ha_BadRule ?hm_BadRule ?kv_BadRule ?ex_BadRule ?kk_BadRule_BadRule ?kk_BadRule_BadKey ?kk_BadRule_BadSize ?kk_BadRule_Full ?kk_BadRule_TooMany ?hg_BadKey ?hk_BadKey ?hd_BadKey ?ha_BadKey ?hm_BadKey ?kv_BadKey ?ex_BadKey ?kk_BadKey_BadRule ?kk_BadKey_BadKey ?kk_BadKey_BadSize ?kk_BadKey_Full ?kk_BadKey_TooMany ?hg_BadSize ?hk_BadSize ?hd_BadSize ?ha_BadSize ?hm_BadSize ?kv_BadSize ?ex_BadSize ?kk_BadSize_BadRule ?kk_BadSize_BadKey ?kk_BadSize_BadSize ?kk_BadSize_Full ?kk_BadSize_TooMany ?hg_Full ?hk_Full ?hd_Full ?ha_Full ?hm_Full ?kv_Full ?ex_Full ?kk_Full_BadRule ?kk_Full_BadKey ?kk_Full_BadSize ?kk_Full_Full ?kk_Full_TooMany ?hg_TooMany ?hk_TooMany ?hd_TooMany ?ha_TooMany ?hm_TooMany ?kv_TooMany ?ex_TooMany ?kk_TooMany_BadRule ?kk_TooMany_BadKey ?kk_TooMany_BadSize ?kk_TooMany_Full ?kk_TooMany_TooMany ?a0 ?l0 ?c0 ?k0 ?a1 ?l1 ?c1 ?k1 ?a2 ?l2 ?c2 ?k2 ?a3 ?l3 ?c3 ?k3 ?a4 ?l4 ?c4 ?k4 ?a5 ?l5 ?c5 ?k5 ?a6 ?l6 ?c6 ?k6 ?a7 ?l7 ?c7 ?k7 ?a8 ?l8 ?c8 ?k8 ?a9 ?l9 ?c9 ?k9 ?a10 ?l10 ?c10 ?k10 ?a11 ?l11 ?c11 ?k11 ?a12 ?l12 ?c12 ?k12 ?a13 ?l13 ?c13 ?k13 ?a14 ?l14 ?c14 ?k14 ?a15 ?l15 ?c15 ?k15 ?a16 ?l16 ?c16 ?k16 ?v_LEAST_SIZE ?v_MOST_BITS ?v_MOST_NUMBER ?v_MOST_NUMBERS ?v_MOST_SIZE ?v_MOST_TOLD ?b_ValueError ?b_all ?b_bool ?b_int ?b_isinstance ?b_len ?b_list ?b_max ?b_min ?b_range ?b_set ?b_sorted ?b_sum ?b_tuple
    (case n_BadKey => k_is)
    (case kc_BadKey => k_is)
    (case xc_BadKey => k_exc)
    (case bc_BadKey => k_is)
    (case tc_BadKey => k_is)
    (case n_BadRule => k_is)
    (case kc_BadRule => k_is)
    (case xc_BadRule => k_exc)
    (case bc_BadRule => k_is)
    (case tc_BadRule => k_is)
    (case n_BadSize => k_is)
    (case kc_BadSize => k_is)
    (case xc_BadSize => k_exc)
    (case bc_BadSize => k_is)
    (case tc_BadSize => k_is)
    (case n_Full => k_is)
    (case kc_Full => k_is)
    (case xc_Full => k_exc)
    (case bc_Full => k_is)
    (case tc_Full => k_is)
    (case n_StrewError => k_is)
    (case kc_StrewError => k_is)
    (case xc_StrewError => k_exc)
    (case bc_StrewError => k_is)
    (case tc_StrewError => k_is)
    (case n_TooMany => k_is)
    (case kc_TooMany => k_is)
    (case xc_TooMany => k_exc)
    (case bc_TooMany => k_is)
    (case tc_TooMany => k_is)
    (case hd_StrewError => k_is)
    (case wn => k_is)
    (case wt => k_is)
    (case hg_BadRule => k_is)
    (case hk_BadRule => k_is)
    (case hd_BadRule => k_is)
    (case ha_BadRule => k_is)
    (case hm_BadRule => k_is)
    (case kv_BadRule => k_is)
    (case ex_BadRule => k_is)
    (case kk_BadRule_BadRule => k_is)
    (case kk_BadRule_BadKey => k_is)
    (case kk_BadRule_BadSize => k_is)
    (case kk_BadRule_Full => k_is)
    (case kk_BadRule_TooMany => k_is)
    (case hg_BadKey => k_is)
    (case hk_BadKey => k_is)
    (case hd_BadKey => k_is)
    (case ha_BadKey => k_is)
    (case hm_BadKey => k_is)
    (case kv_BadKey => k_is)
    (case ex_BadKey => k_is)
    (case kk_BadKey_BadRule => k_is)
    (case kk_BadKey_BadKey => k_is)
    (case kk_BadKey_BadSize => k_is)
    (case kk_BadKey_Full => k_is)
    (case kk_BadKey_TooMany => k_is)
    (case hg_BadSize => k_is)
    (case hk_BadSize => k_is)
    (case hd_BadSize => k_is)
    (case ha_BadSize => k_is)
    (case hm_BadSize => k_is)
    (case kv_BadSize => k_is)
    (case ex_BadSize => k_is)
    (case kk_BadSize_BadRule => k_is)
    (case kk_BadSize_BadKey => k_is)
    (case kk_BadSize_BadSize => k_is)
    (case kk_BadSize_Full => k_is)
    (case kk_BadSize_TooMany => k_is)
    (case hg_Full => k_is)
    (case hk_Full => k_is)
    (case hd_Full => k_is)
    (case ha_Full => k_is)
    (case hm_Full => k_is)
    (case kv_Full => k_is)
    (case ex_Full => k_is)
    (case kk_Full_BadRule => k_is)
    (case kk_Full_BadKey => k_is)
    (case kk_Full_BadSize => k_is)
    (case kk_Full_Full => k_is)
    (case kk_Full_TooMany => k_is)
    (case hg_TooMany => k_is)
    (case hk_TooMany => k_is)
    (case hd_TooMany => k_is)
    (case ha_TooMany => k_is)
    (case hm_TooMany => k_is)
    (case kv_TooMany => k_is)
    (case ex_TooMany => k_is)
    (case kk_TooMany_BadRule => k_is)
    (case kk_TooMany_BadKey => k_is)
    (case kk_TooMany_BadSize => k_is)
    (case kk_TooMany_Full => k_is)
    (case kk_TooMany_TooMany => k_is)
    (case a0 => k_is)
    (case l0 => k_is)
    (case c0 => k_is)
    (case k0 => k_is)
    (case a1 => k_is)
    (case l1 => k_is)
    (case c1 => k_is)
    (case k1 => k_is)
    (case a2 => k_is)
    (case l2 => k_is)
    (case c2 => k_is)
    (case k2 => k_is)
    (case a3 => k_is)
    (case l3 => k_is)
    (case c3 => k_is)
    (case k3 => k_is)
    (case a4 => k_is)
    (case l4 => k_is)
    (case c4 => k_is)
    (case k4 => k_is)
    (case a5 => k_is)
    (case l5 => k_is)
    (case c5 => k_is)
    (case k5 => k_is)
    (case a6 => k_is)
    (case l6 => k_is)
    (case c6 => k_is)
    (case k6 => k_is)
    (case a7 => k_is)
    (case l7 => k_is)
    (case c7 => k_is)
    (case k7 => k_is)
    (case a8 => k_is)
    (case l8 => k_is)
    (case c8 => k_is)
    (case k8 => k_is)
    (case a9 => k_is)
    (case l9 => k_is)
    (case c9 => k_is)
    (case k9 => k_is)
    (case a10 => k_is)
    (case l10 => k_is)
    (case c10 => k_is)
    (case k10 => k_is)
    (case a11 => k_is)
    (case l11 => k_is)
    (case c11 => k_is)
    (case k11 => k_is)
    (case a12 => k_is)
    (case l12 => k_is)
    (case c12 => k_is)
    (case k12 => k_is)
    (case a13 => k_is)
    (case l13 => k_is)
    (case c13 => k_is)
    (case k13 => k_is)
    (case a14 => k_is)
    (case l14 => k_is)
    (case c14 => k_is)
    (case k14 => k_is)
    (case a15 => k_is)
    (case l15 => k_is)
    (case c15 => k_is)
    (case k15 => k_is)
    (case a16 => k_is)
    (case l16 => k_is)
    (case c16 => k_is)
    (case k16 => k_is)
    (case v_LEAST_SIZE => k_is)
    (case v_MOST_BITS => k_is)
    (case v_MOST_NUMBER => k_is)
    (case v_MOST_NUMBERS => k_is)
    (case v_MOST_SIZE => k_is)
    (case v_MOST_TOLD => k_is)
    (case b_ValueError => k_is)
    (case b_all => k_is)
    (case b_bool => k_is)
    (case b_int => k_is)
    (case b_isinstance => k_is)
    (case b_len => k_is)
    (case b_list => k_is)
    (case b_max => k_is)
    (case b_min => k_is)
    (case b_range => k_is)
    (case b_set => k_is)
    (case b_sorted => k_is)
    (case b_sum => k_is)
    (case b_tuple => k_is)
