import PyProof.Rows.All
import Wide.All
import OpenK.AllK
import Wide.FinOn
import HandS.ForExc
import HandS.Comp
import HandS.Iter
import HandS.Zip
import HandS.Wide
import HandS.SortInts
import HandS.IsInst
import HandS.EndBits
import HandS.Style
import HandS.TupMul
import HandS.TupAny
import HandS.Flow
import HandS.ExcCtx
import HandS.HotCalls
import HandS.ExcIs
import HandS.List
import HandS.Remove
import HandS.Walk
import HandS.Dict
import PyProof.DictWalks
import HandS.Small
import HandS.DictSubView
import HandS.NoneIn
import PyProof.EnumMake
import PyProof.Draws
import KE.GoesMore
import HandS.Call
import HandS.Words
import HandS.ExcOwn
import HandS.SortRule
import HandS.SetFor
import PyProof.WalksMore
import PyProof.SumWalkG
import KE.GoesZip
import HandS.Flt
import HandS.Set
import HandS.Strs
import PySem.Challenge.RW_strewn_k70_whole_worst
set_option Elab.async false
set_option linter.all false
set_option maxRecDepth 100000
set_option maxHeartbeats 4000000
set_option exponentiation.threshold 5000
/-! Lg: a small logic over the readings: what is known of the heap is a part of it, and every continuation is kept by extension. -/
namespace Lg
open PySem PySem.Spec PyProof.Rows L2
abbrev Sg := List (Option V)
def Ex (H H' : Hp) : Prop := ∀ a o, H a = some o → H' a = some o
theorem Ex.rf {H : Hp} : Ex H H := fun _ _ h => h
theorem Ex.tr {H H1 H2 : Hp} (a : Ex H H1) (b : Ex H1 H2) : Ex H H2 := fun x o h => b x o (a x o h)
theorem Ex.fresh {H H' : Hp} (e : Ex H H') {p : Addr} (h : H' p = none) : H p = none := by
  cases q : H p with
  | none => rfl
  | some o =>
    have z := e p o q
    rw [h] at z
    cases z
theorem Ex.ups {H H' : Hp} (e : Ex H H') (p : Addr) (o : HO) : Ex (upd H p o) (upd H' p o) := fun a u h => by
  by_cases q : a = p
  · subst q
    rw [upd_same] at h ⊢
    exact h
  · rw [upd_ne q] at h ⊢
    exact e a u h
theorem Ex.news {H : Hp} {p : Addr} {o : HO} (h : H p = none) : Ex H (L2.upd H p o) := fun a u e => by
  rw [upd_ne (ne_of_none e h)]
  exact e
theorem Ex.newr {H H' : Hp} {p : Addr} {o : HO} (e : Ex H H') (h : H' p = none) : Ex H (L2.upd H' p o) := e.tr (Ex.news h)
/-- what H does not know may be changed -/
theorem Ex.mutr {H H' : Hp} {p : Addr} {o : HO} (e : Ex H H') (h : H p = none) : Ex H (L2.upd H' p o) := fun a u ha => by
  rw [upd_ne (ne_of_none ha h)]
  exact e a u ha
theorem Ex.get {H H' : Hp} (e : Ex H H') {a : Addr} {o : HO} (h : H a = some o) : H' a = some o := e a o h
theorem rd_ex {H H' : Hp} (e : Ex H H') {a : Addr} {o : HO} (h : Rd H a o) : Rd H' a o := by
  rcases h with h | ⟨u, h⟩
  · exact .inl (e _ _ h)
  · exact .inr ⟨u, e _ _ h⟩
theorem Ex.sl {K : PySem.W.Frag} {H H' : Hp} (e : Ex H H') {a : Addr} {xs : List V} (h : SqL K H a xs) : SqL K H' a xs := by
  rcases h with h | h
  · exact .inl (rd_ex e h)
  · exact .inr h
theorem Ex.st {K : PySem.W.Frag} {H H' : Hp} (e : Ex H H') {a : Addr} {xs : List V} (h : SqT K H a xs) : SqT K H' a xs := by
  rcases h with h | h
  · exact .inl (rd_ex e h)
  · exact .inr h

abbrev PV := V → Hp → Prop
abbrev PS' := Sg → Hp → Prop
/-! ### the judgements -/
def kE (te : TE) (σ : Sg) (H : Hp) (Q : PV) : Prop := ∀ H1, Ex H H1 → ∀ Q1 : VK, (∀ v H0 H2, Q v H0 → Ex H0 H2 → Q1 v H2) → te σ H1 Q1
def kT (tt : TT) (σ : Sg) (H : Hp) (Q : Bool → Hp → Prop) : Prop := ∀ H1, Ex H H1 → ∀ Q1 : Bool → Hp → Prop, (∀ v H0 H2, Q v H0 → Ex H0 H2 → Q1 v H2) → tt σ H1 Q1
def kA (ta : TA) (σ : Sg) (H : Hp) (Q : List V → Hp → Prop) : Prop := ∀ H1, Ex H H1 → ∀ Q1 : List V → Hp → Prop, (∀ v H0 H2, Q v H0 → Ex H0 H2 → Q1 v H2) → ta σ H1 Q1
def kO (to : TO) (σ : Sg) (H : Hp) (Q : Option Int → Hp → Prop) : Prop := ∀ H1, Ex H H1 → ∀ Q1 : Option Int → Hp → Prop, (∀ v H0 H2, Q v H0 → Ex H0 H2 → Q1 v H2) → to σ H1 Q1
def kR (r : R2) (x y : V) (H : Hp) (Q : PV) : Prop := ∀ H1, Ex H H1 → ∀ Q1 : VK, (∀ v H0 H2, Q v H0 → Ex H0 H2 → Q1 v H2) → r x y H1 Q1
def kU (r : V → Hp → VK → Prop) (x : V) (H : Hp) (Q : PV) : Prop := ∀ H1, Ex H H1 → ∀ Q1 : VK, (∀ v H0 H2, Q v H0 → Ex H0 H2 → Q1 v H2) → r x H1 Q1
def kC (r : List V → Hp → VK → Prop) (vs : List V) (H : Hp) (Q : PV) : Prop := ∀ H1, Ex H H1 → ∀ Q1 : VK, (∀ v H0 H2, Q v H0 → Ex H0 H2 → Q1 v H2) → r vs H1 Q1
def kM (r : V → List V → Hp → VK → Prop) (x : V) (vs : List V) (H : Hp) (Q : PV) : Prop := ∀ H1, Ex H H1 → ∀ Q1 : VK, (∀ v H0 H2, Q v H0 → Ex H0 H2 → Q1 v H2) → r x vs H1 Q1
def kG (g : TG) (v : V) (σ : Sg) (H : Hp) (Q : PS') : Prop := ∀ H1, Ex H H1 → ∀ Q1 : PS', (∀ v H0 H2, Q v H0 → Ex H0 H2 → Q1 v H2) → g v σ H1 Q1
def kGs (g : TGs) (vs : List V) (σ : Sg) (H : Hp) (Q : PS') : Prop := ∀ H1, Ex H H1 → ∀ Q1 : PS', (∀ v H0 H2, Q v H0 → Ex H0 H2 → Q1 v H2) → g vs σ H1 Q1
def kS (ts : TS) (N : PS') (R : PV) (B C : PS') (σ : Sg) (H : Hp) : Prop := ∀ H1, Ex H H1 → ∀ D : Ends, (∀ s H0 H2, N s H0 → Ex H0 H2 → D.nx s H2) → (∀ v H0 H2, R v H0 → Ex H0 H2 → D.rt v H2) →
  (∀ s H0 H2, B s H0 → Ex H0 H2 → D.bk s H2) → (∀ s H0 H2, C s H0 → Ex H0 H2 → D.ct s H2) → ts D σ H1
/-- wanted of every extension -/
def upR (Q : VK) : PV := fun v H0 => ∀ H2, Ex H0 H2 → Q v H2
abbrev noS : PS' := fun _ _ => False
theorem fin {ts : TS} {Q : VK} {σ : Sg} {H : Hp} (h : kS ts (fun _ H0 => upR Q .non H0) (upR Q) noS noS σ H) : ts { nx := fun _ H' => Q .non H', rt := Q } σ H :=
  h H Ex.rf _ (fun _ _ _ r e => r _ e) (fun _ _ _ r e => r _ e) (fun _ _ _ r _ => r.elim) (fun _ _ _ r _ => r.elim)

variable {K : PySem.W.Frag} {σ σ' : Sg} {H H' : Hp} {ta tb tc te : TE} {tt tu : TT} {t u : TA} {Q : PV} {QB : Bool → Hp → Prop} {QA : List V → Hp → Prop} {N B C : PS'} {R : PV} {ts us : TS} {x y v : V} {i j : Int} {r r' : R2} {g : TG} {gs : TGs}
/-! ### expressions -/
theorem e_var {n : Nat} (h : σ[n]? = some (some v)) (k : Q v H) : kE (tVar n) σ H Q := fun H1 e _ q => ⟨v, h, q v H H1 k e⟩
theorem e_c (k : Q v H) : kE (tC v) σ H Q := fun H1 e _ q => q v H H1 k e
theorem e_op (k : kE ta σ H fun x H1 => kE tb σ H1 fun y H2 => kR r x y H2 Q) : kE (tOp r ta tb) σ H Q := fun H1 e _ q =>
  k H1 e _ fun _ _ H2 hx e2 => hx H2 e2 _ fun _ _ H3 hy e3 => hy H3 e3 _ q
theorem e_un {r : V → Hp → VK → Prop} (k : kE ta σ H fun x H1 => kU r x H1 Q) : kE (tUn r ta) σ H Q := fun H1 e _ q => k H1 e _ fun _ _ H2 hx e2 => hx H2 e2 _ q
theorem e_cb {r : List V → Hp → VK → Prop} (k : kA t σ H fun vs H1 => kC r vs H1 Q) : kE (tCB r t) σ H Q := fun H1 e _ q => k H1 e _ fun _ _ H2 hx e2 => hx H2 e2 _ q
theorem e_call {sp : Sp} {E : XK} (k : kA t σ H fun vs H1 => kC (fun ws H Q => sp ws H Q E) vs H1 Q) : kE (tCall sp [] E t) σ H Q := fun H1 e _ q => k H1 e _ fun vs _ H2 hx e2 => by
  rw [List.append_nil]
  exact hx H2 e2 _ q
theorem e_callS {sp : Sp} {E : Sg → XK} (k : kA t σ H fun vs H1 => kC (fun ws H Q => sp ws H Q (E σ)) vs H1 Q) : kE (tCallS sp E t) σ H Q := fun H1 e _ q => k H1 e _ fun _ _ H2 hx e2 => hx H2 e2 _ q
theorem a_nil (k : QA [] H) : kA tNil σ H QA := fun H1 e _ q => q [] H H1 k e
theorem a_cons (k : kE ta σ H fun x H1 => kA t σ H1 fun xs H2 => QA (x :: xs) H2) : kA (tCons ta t) σ H QA := fun H1 e _ q => k H1 e _ fun _ _ H2 hx e2 => hx H2 e2 _ fun _ H0 H3 hy e3 => q _ H0 H3 hy e3
theorem e_tup (k : kA t σ H fun xs H1 => xs.length ≤ sizeLine ∧ ∀ p, H1 p = none → Q (.ref p) (upd H1 p (.tup xs))) : kE (tTup t) σ H Q := fun H1 e _ q => k H1 e _ fun _ _ H2 hx e2 =>
  ⟨hx.1, fun p hp => q _ _ _ (hx.2 p (e2.fresh hp)) (e2.ups p _)⟩
theorem e_lst (k : kA t σ H fun xs H1 => xs.length ≤ sizeLine ∧ ∀ p, H1 p = none → Q (.ref p) (upd H1 p (.lst xs))) : kE (tLst t) σ H Q := fun H1 e _ q => k H1 e _ fun _ _ H2 hx e2 =>
  ⟨hx.1, fun p hp => q _ _ _ (hx.2 p (e2.fresh hp)) (e2.ups p _)⟩
theorem e_if (k : kT tt σ H fun b H1 => (b = true → kE ta σ H1 Q) ∧ (b = false → kE tb σ H1 Q)) : kE (tIf tt ta tb) σ H Q := fun H1 e Q1 q => k H1 e _ fun b _ H2 hx e2 => by
  cases b with
  | true =>
    show ta σ H2 Q1
    exact hx.1 rfl H2 e2 _ q
  | false =>
    show tb σ H2 Q1
    exact hx.2 rfl H2 e2 _ q
theorem e_andV (k : kE ta σ H fun x H1 => ∃ b, x = .bl b ∧ (b = true → kE tb σ H1 Q) ∧ (b = false → Q (.bl false) H1)) : kE (tAndV ta tb) σ H Q := fun H1 e Q1 q => k H1 e _ fun x H0 H2 hx e2 => by
  obtain ⟨b, eb, h1, h2⟩ := hx
  refine ⟨b, eb, ?_⟩
  cases b with
  | true =>
    show tb σ H2 Q1
    exact h1 rfl H2 e2 _ q
  | false =>
    show Q1 (.bl false) H2
    exact q _ _ _ (h2 rfl) e2
theorem e_orV (k : kE ta σ H fun x H1 => ∃ b, x = .bl b ∧ (b = true → Q (.bl true) H1) ∧ (b = false → kE tb σ H1 Q)) : kE (tOrV ta tb) σ H Q := fun H1 e Q1 q => k H1 e _ fun x H0 H2 hx e2 => by
  obtain ⟨b, eb, h1, h2⟩ := hx
  refine ⟨b, eb, ?_⟩
  cases b with
  | true =>
    show Q1 (.bl true) H2
    exact q _ _ _ (h1 rfl) e2
  | false =>
    show tb σ H2 Q1
    exact h2 rfl H2 e2 _ q
theorem e_notV (k : kE ta σ H fun x H1 => ∃ b, x = .bl b ∧ Q (.bl (!b)) H1) : kE (tNotV ta) σ H Q := fun H1 e Q1 q => k H1 e _ fun x H0 H2 hx e2 => by
  obtain ⟨b, eb, h1⟩ := hx
  exact ⟨b, eb, q _ _ _ h1 e2⟩
theorem e_chain (k : kE ta σ H fun x H1 => kE tb σ H1 fun y H2 => kR r x y H2 fun z H3 => ∃ b, z = .bl b ∧ (b = true → kE tc σ H3 fun w H4 => kR r' y w H4 Q) ∧ (b = false → Q (.bl false) H3)) : kE (tChain r r' ta tb tc) σ H Q := fun H1 e Q1 q =>
  k H1 e _ fun x _ H2 hx e2 => hx H2 e2 _ fun y _ H3 hy e3 => hy H3 e3 _ fun z _ H4 hz e4 => by
    obtain ⟨b, eb, h1, h2⟩ := hz
    refine ⟨b, eb, ?_⟩
    cases b with
    | true =>
      show tc σ H4 fun w H5 => r' y w H5 Q1
      exact h1 rfl H4 e4 _ fun w _ H5 hw e5 => hw H5 e5 _ q
    | false =>
      show Q1 (.bl false) H4
      exact q _ _ _ (h2 rfl) e4
/-! ### tests -/
theorem t_test (k : kE te σ H fun x H1 => ∃ b, x = .bl b ∧ QB b H1) : kT (tTest te) σ H QB := fun H1 e _ q => k H1 e _ fun _ H0 H2 ⟨b, eb, hb⟩ e2 => ⟨b, eb, q b H0 H2 hb e2⟩
theorem t_B (k : kE te σ H fun x H1 => ∃ b, x = .bl b ∧ QB b H1) : kT (tB te) σ H QB := fun H1 e _ q => k H1 e _ fun _ H0 H2 ⟨b, eb, hb⟩ e2 => ⟨b, eb, q b H0 H2 hb e2⟩
theorem t_not (k : kT tt σ H fun b H1 => QB (!b) H1) : kT (tNot tt) σ H QB := fun H1 e _ q => k H1 e _ fun b H0 H2 hb e2 => q _ H0 H2 hb e2
theorem t_and (k : kT tt σ H fun b H1 => (b = true → kT tu σ H1 QB) ∧ (b = false → QB false H1)) : kT (tAnd tt tu) σ H QB := fun H1 e Q1 q => k H1 e _ fun b H0 H2 hb e2 => by
  cases b with
  | true =>
    show tu σ H2 Q1
    exact hb.1 rfl H2 e2 _ q
  | false =>
    show Q1 false H2
    exact q _ _ _ (hb.2 rfl) e2
theorem t_or (k : kT tt σ H fun b H1 => (b = true → QB true H1) ∧ (b = false → kT tu σ H1 QB)) : kT (tOr tt tu) σ H QB := fun H1 e Q1 q => k H1 e _ fun b H0 H2 hb e2 => by
  cases b with
  | true =>
    show Q1 true H2
    exact q _ _ _ (hb.1 rfl) e2
  | false =>
    show tu σ H2 Q1
    exact hb.2 rfl H2 e2 _ q
/-! ### operators -/
theorem r_I0 {f : Int → Int → V} (k : Q (f i j) H) : kR (rI0 f) (.int i) (.int j) H Q := fun H1 e _ q => ⟨i, j, rfl, rfl, q _ _ _ k e⟩
theorem r_I {c : Int → Int → Prop} {f : Int → Int → V} (hc : c i j) (k : Q (f i j) H) : kR (rI c f) (.int i) (.int j) H Q := fun H1 e _ q => ⟨i, j, rfl, rfl, hc, q _ _ _ k e⟩
theorem r_eq (h : scal x y = true) (k : Q (.bl (decide (x = y))) H) : kR rEq x y H Q := fun H1 e _ q => ⟨h, q _ _ _ k e⟩
theorem r_ne (h : scal x y = true) (k : Q (.bl (!decide (x = y))) H) : kR rNe x y H Q := fun H1 e _ q => ⟨h, q _ _ _ k e⟩
theorem dInt : decide (V.int i = V.int j) = decide (i = j) := by
  rw [Bool.eq_iff_iff]
  simp
theorem r_eqI (k : Q (.bl (decide (i = j))) H) : kR rEq (.int i) (.int j) H Q := r_eq rfl (by rw [dInt]; exact k)
theorem r_neI (k : Q (.bl (!decide (i = j))) H) : kR rNe (.int i) (.int j) H Q := r_ne rfl (by rw [dInt]; exact k)
theorem r_ixL {p : Addr} {xs : List V} (h : SqL K H p xs) (ha : atI xs i = some v) (k : Q v H) : kR (rIxL K) (.ref p) (.int i) H Q := fun H1 e _ q => ⟨p, xs, i, v, rfl, rfl, e.sl h, ha, q _ _ _ k e⟩
theorem r_ixT {p : Addr} {xs : List V} (h : SqT K H p xs) (ha : atI xs i = some v) (k : Q v H) : kR (rIxT K) (.ref p) (.int i) H Q := fun H1 e _ q => ⟨p, xs, i, v, rfl, rfl, e.st h, ha, q _ _ _ k e⟩
theorem u_U {f : Int → V} (k : Q (f i) H) : kU (rU f) (.int i) H Q := fun H1 e _ q => ⟨i, rfl, q _ _ _ k e⟩
/-! ### statements -/
theorem s_next (k : N σ H) : kS tNext N R B C σ H := fun H1 e D hn _ _ _ => hn _ _ _ k e
theorem s_seq (k : kS ts (fun s H1 => kS us N R B C s H1) R B C σ H) : kS (tSeq ts us) N R B C σ H := fun H1 e D hn hr hb hc => k H1 e { D with nx := us D } (fun s H0 H2 h e2 => h H2 e2 D hn hr hb hc) hr hb hc
theorem s_asg {n : Nat} (k : kE te σ H fun v H1 => N (σ.set n (some v)) H1) : kS (tAsg te (gName n)) N R B C σ H := fun H1 e D hn _ _ _ => k H1 e _ fun v H0 H2 h e2 => hn _ _ _ h e2
theorem s_asgG (k : kE te σ H fun v H1 => kG g v σ H1 N) : kS (tAsg te g) N R B C σ H := fun H1 e D hn _ _ _ => k H1 e _ fun v H0 H2 h e2 => h H2 e2 _ hn
theorem s_ret (k : kE te σ H R) : kS (tRet te) N R B C σ H := fun H1 e D _ hr _ _ => k H1 e _ hr
theorem s_drop (k : kE te σ H fun _ H1 => N σ H1) : kS (tDrop te) N R B C σ H := fun H1 e D hn _ _ _ => k H1 e _ fun _ H0 H2 h e2 => hn _ _ _ h e2
theorem s_if (k : kT tt σ H fun b H1 => (b = true → kS ts N R B C σ H1) ∧ (b = false → kS us N R B C σ H1)) : kS (tIfS tt ts us) N R B C σ H := fun H1 e D hn hr hb hc => k H1 e _ fun b H0 H2 h e2 => by
  cases b with
  | true =>
    show ts D σ H2
    exact h.1 rfl H2 e2 D hn hr hb hc
  | false =>
    show us D σ H2
    exact h.2 rfl H2 e2 D hn hr hb hc
theorem s_brk (k : B σ H) : kS tBreak N R B C σ H := fun H1 e D _ _ hb _ => hb _ _ _ k e
theorem s_cont (k : C σ H) : kS tCont N R B C σ H := fun H1 e D _ _ _ hc => hc _ _ _ k e
theorem s_par {m n : Nat} (k : kA t σ H fun vs H1 => ∃ v w, vs = [v, w] ∧ N ((σ.set m (some v)).set n (some w)) H1) : kS (tPar m n t) N R B C σ H := fun H1 e D hn _ _ _ => k H1 e _ fun vs H0 H2 ⟨v, w, ev, h⟩ e2 => ⟨v, w, ev, hn _ _ _ h e2⟩
def tRaise (E : XK) (c : Addr) : TS := fun _ σ H => E (.ref c) none H
theorem s_raise {E : XK} {c : Addr} (k : ∀ H1, Ex H H1 → E (.ref c) none H1) : kS (tRaise E c) N R B C σ H := fun H1 e _ _ _ _ _ => k H1 e
/-- a while by an invariant and a measure of it -/
theorem s_while (W : Nat → PS') (m : Nat) (h0 : W m σ H)
    (hs : ∀ m s H1, W m s H1 → kT tt s H1 fun b H2 => (b = true → kS ts (fun s' H3 => ∃ m' H4, m' < m ∧ W m' s' H4 ∧ Ex H4 H3) R N (fun s' H3 => ∃ m' H4, m' < m ∧ W m' s' H4 ∧ Ex H4 H3) s H2) ∧ (b = false → N s H2)) : kS (tWhile tt ts) N R B C σ H := fun H1 e D hn hr hb hc =>
  ⟨fun m s H2 => ∃ H0, W m s H0 ∧ Ex H0 H2, ⟨m, H, h0, e⟩, fun m s H2 ⟨H0, w, e0⟩ => hs m s H0 w H2 e0 _ fun b H3 H4 h e4 => by
    cases b with
    | true =>
      show ∃ Nx : PS', _
      refine ⟨fun s' H5 => ∃ m' H6, m' < m ∧ W m' s' H6 ∧ Ex H6 H5, fun s' H5 ⟨m', H6, l, w', e6⟩ => ⟨m', l, H6, w', e6⟩, ?_⟩
      exact h.1 rfl H4 e4 _ (fun s' H5 H7 ⟨m', H6, l, w', e6⟩ e7 => ⟨m', H6, l, w', e6.tr e7⟩) hr hn (fun s' H5 H7 ⟨m', H6, l, w', e6⟩ e7 => ⟨m', H6, l, w', e6.tr e7⟩)
    | false =>
      show D.nx s H4
      exact hn _ _ _ (h.2 rfl) e4⟩
abbrev nxt (W : Nat → PS') (n : Nat) : PS' := fun s H => ∃ H0, W n s H0 ∧ Ex H0 H
theorem nxt_up {W : Nat → PS'} {n : Nat} : ∀ s H0 H2, nxt W n s H0 → Ex H0 H2 → nxt W n s H2 := fun _ _ _ ⟨H1, w, e1⟩ e => ⟨H1, w, e1.tr e⟩
/-- for i in range(n) -/
theorem s_for1 (n : Nat) (W : Nat → PS') (k : kA t σ H fun vs H1 => vs = [.int (n : Int)] ∧ n < 2 ^ 61 ∧ W 0 σ H1 ∧ (∀ i s H2, i < n → W i s H2 → kG g (.int (i : Int)) s H2 fun s' H3 => kS ts (nxt W (i + 1)) R N (nxt W (i + 1)) s' H3) ∧ ∀ s H2, W n s H2 → N s H2) :
    kS (tFor (iRng1 t) g ts) N R B C σ H := fun H1 e D hn hr hb hc => k H1 e _ fun vs H0 H2 ⟨ev, hl, h0, hs, hd⟩ e2 => by
  subst ev
  refine ⟨(n : Int), rfl, by omega, by omega, ?_⟩
  have z := for_range (lo := 0) (n := (n : Int).toNat) (g := g) (tb := ts) (D := D) (σ := σ) (H := H2) (nxt W) ⟨H0, h0, e2⟩ (fun i s H3 hi p => ?_) (fun s H3 p => ?_)
  · exact z
  · obtain ⟨H4, w, e4⟩ := p
    have e0 : (0 : Int) + (i : Int) = (i : Int) := Int.zero_add _
    rw [e0]
    exact hs i s H4 (by omega) w H3 e4 _ fun s' H5 H6 q e6 => q H6 e6 _ nxt_up hr hn nxt_up
  · obtain ⟨H4, w, e4⟩ := p
    have e0 : (n : Int).toNat = n := by omega
    rw [e0] at w
    exact hn _ _ _ (hd s H4 w) e4
theorem g_name {n : Nat} {QS : PS'} (k : QS (σ.set n (some v)) H) : kG (gName n) v σ H QS := fun H1 e _ q => q _ _ _ k e
theorem g_tup {n : Nat} {p : Addr} {xs : List V} {QS : PS'} (h : SqT K H p xs) (hl : xs.length = n) (k : kGs gs xs σ H QS) : kG (gTup K n gs) (.ref p) σ H QS := fun H1 e _ q => ⟨p, xs, rfl, e.st h, hl, k H1 e _ q⟩
theorem g_nil {QS : PS'} (k : QS σ H) : kGs gNil [] σ H QS := fun H1 e _ q => ⟨rfl, q _ _ _ k e⟩
theorem g_cons {xs : List V} {QS : PS'} (k : kG g v σ H fun s H1 => kGs gs xs s H1 QS) : kGs (gCons g gs) (v :: xs) σ H QS := fun H1 e _ q => ⟨v, xs, rfl, k H1 e _ fun s H0 H2 h e2 => h H2 e2 _ q⟩
/-! ### facts of heaps in steps -/
theorem st_new {p a : Addr} {o : HO} {xs : List V} (hn : H p = none) (h : SqT K H a xs) : SqT K (upd H p o) a xs := (Ex.news hn).st h
theorem sl_new {p a : Addr} {o : HO} {xs : List V} (hn : H p = none) (h : SqL K H a xs) : SqL K (upd H p o) a xs := (Ex.news hn).sl h
theorem at_new {p a : Addr} {o u : HO} (hn : H p = none) (h : H a = some u) : upd H p o a = some u := (Ex.news hn).get h
theorem szl {n : Nat} (h : n ≤ 1000) : n ≤ sizeLine := Nat.le_trans h (by decide)
/-! ### built-in calls -/
theorem c_abs (k : Q (.int (if i < 0 then -i else i)) H) : kC (fun xs H Q => ∃ i, xs = [V.int i] ∧ Q (.int (if i < 0 then -i else i)) H) [.int i] H Q := fun H1 e _ q => ⟨i, rfl, q _ _ _ k e⟩
theorem c_max2 (k : Q (.int (if j > i then j else i)) H) : kC (fun xs H Q => ∃ i j, xs = [V.int i, .int j] ∧ Q (.int (if j > i then j else i)) H) [.int i, .int j] H Q := fun H1 e _ q => ⟨i, j, rfl, q _ _ _ k e⟩
theorem c_min2 (k : Q (.int (if j < i then j else i)) H) : kC (fun xs H Q => ∃ i j, xs = [V.int i, .int j] ∧ Q (.int (if j < i then j else i)) H) [.int i, .int j] H Q := fun H1 e _ q => ⟨i, j, rfl, q _ _ _ k e⟩
theorem c_lenL {p : Addr} {ys : List V} (h : SqL K H p ys) (k : Q (.int ys.length) H) : kC (fun xs H Q => ∃ p ys, xs = [V.ref p] ∧ (SqL K H p ys ∨ SqT K H p ys) ∧ Q (.int ys.length) H) [.ref p] H Q := fun H1 e _ q => ⟨p, ys, rfl, .inl (e.sl h), q _ _ _ k e⟩
theorem c_lenT {p : Addr} {ys : List V} (h : SqT K H p ys) (k : Q (.int ys.length) H) : kC (fun xs H Q => ∃ p ys, xs = [V.ref p] ∧ (SqL K H p ys ∨ SqT K H p ys) ∧ Q (.int ys.length) H) [.ref p] H Q := fun H1 e _ q => ⟨p, ys, rfl, .inr (e.st h), q _ _ _ k e⟩

/-! ### types -/
inductive Ty5 (K : PySem.W.Frag) (H : Hp) : V → String → Prop where
  | int (i : Int) : Ty5 K H (.int i) "int"
  | bl (b : Bool) : Ty5 K H (.bl b) "bool"
  | non : Ty5 K H .non "NoneType"
  | str (z : Str) : Ty5 K H (.str z) "str"
  | lst {a : Addr} {xs : List V} (h : H a = some (.lst xs)) : Ty5 K H (.ref a) "list"
  | tup {a : Addr} {xs : List V} (h : H a = some (.tup xs)) : Ty5 K H (.ref a) "tuple"
theorem Ty5.up {x : V} {T : String} (h : Ty5 K H x T) (e : Ex H H') : Ty5 K H' x T := by
  cases h with
  | int i => exact .int i
  | bl b => exact .bl b
  | non => exact .non
  | str z => exact .str z
  | lst h => exact .lst (e _ _ h)
  | tup h => exact .tup (e _ _ h)
theorem Ty5.tyx {x : V} {T : String} (h : Ty5 K H x T) : TyX K H x (.type T) := by
  cases h with
  | int i => exact .base (.int i)
  | bl b => exact .base (.bl b)
  | non => exact .base .non
  | str z => exact .base (.str z)
  | lst h => exact .base (.lst h)
  | tup h => exact .base (.tup h)
theorem c_isi {T T' : String} {b : Bool} (h : Ty5 K H x T) (hb : kitB T T' = some b) (k : Q (.bl b) H) : kC (rIsi K) [x, .ty T'] H Q := fun H1 e _ q => ⟨x, .ty T', .type T, .type T', b, rfl, .ty T', (h.up e).tyx, kit_ty hb, q _ _ _ k e⟩
/-! ### what a caller knows of a def -/
def Cal (P : Program) (w : World) (K : PySem.W.Frag) (mg : Str → Option Value) (base : Heap) (CX : CXT) (k : Nat) (x : Str) (ps : List Str) (sp : Sp) : Prop :=
  ∃ f fd, FnOk P w K mg base CX k f fd ps sp ∧ mg x = some (.ref f) ∧ PySem.W.keepIn K (.ref f) = true ∧ Binds K fd ps []
def Dn (K : PySem.W.Frag) (mg : Str → Option Value) (x : Str) (st : Stmt) (ps : List Str) : Prop := ∃ f fd, Fun K x x st f fd ∧ mg x = some (.ref f) ∧ Binds K fd ps []
section
variable {P : Program} {w : World} {mg : Str → Option Value} {base : Heap} {CX : CXT} {k k' : Nat} {st : Stmt} {ps Ns : List Str} {sp : Sp} {X : Cx} {E : XK} {z : Str} {p pos : Pos} {e : Expr} {es : List Expr}
theorem pe_cal (c : Cal X.prog X.w X.K X.mg X.base CX k z ps sp) (hr : Room k' X.A) (hk : k ≤ k') (hg : Gl X z) (hx : Passes CX X E) (ha : PA X (e :: es) t) (hdb : (z == ("__debug__" : Str)) = false := by decide)
    (he : starEach (e :: es) X.env = (false, eval e X.env) :: starEach es X.env := by rfl) (hpl : (backTo pos (starEach es X.env)).any (·.1) = false := by rfl) : PE X (.Call (.Name z p) (e :: es) [] pos) (tCall sp [] E t) := by
  obtain ⟨f, fd, F, hm, hkp, hb⟩ := c
  exact pe_call F (hr.mono hk) hg hm hkp hb .nil hx ha hdb he hpl
theorem pe_gI {n : Int} (hg : Gl X z) (hm : ∃ t, X.mg z = some (.int n t)) (hd : (z == ("__debug__" : Str)) = false := by decide) : PE X (.Name z p) (tC (.int n)) := by
  obtain ⟨t, hm⟩ := hm
  exact pe_glob hg hm ⟨t, rfl⟩ hd
/-- a def, by its reading -/
theorem cal_mk (D : Dn K mg z st ps) (S : FnScope Ns ps (defScope st)) (len : ∀ vs H Q E, sp vs H Q E → vs.length = ps.length)
    (hbody : ∀ (f : Addr) (cdv : Value) (A : Around) (outer : List Env) (s : Shared) (H : Hp) (vs : List V) (Q : VK) (E : XK), Room k (A.deeper (envOfC z (defScope st) s.heap.objs.size f cdv)) → sp vs H Q E →
      ∃ t, PSs (cxOf (L2N.CX P w) P w K mg base Ns z (defScope st) f cdv A outer s H E) (defBody st) t ∧ t { nx := fun _ H' => Q .non H', rt := Q } (start Ns vs) H) : Cal P w K mg base (L2N.CX P w) (k + 1) z ps sp := by
  obtain ⟨f, fd, F, hm, hb⟩ := D
  obtain ⟨oc, od, kV, doc, pm, an, cdv, ct, osl, rfl, look, code⟩ := F.ex
  exact ⟨f, _, fn_of look code S len fun A outer s H vs Q E hr h => hbody f cdv A outer s H vs Q E hr h, hm, F.kp, hb⟩
theorem fn_mk {f : Addr} {fd : FuncData} {qual : Str} (F : Fun K z qual st f fd) (S : FnScope Ns ps (defScope st)) (len : ∀ vs H Q E, sp vs H Q E → vs.length = ps.length)
    (hbody : ∀ (cdv : Value) (A : Around) (outer : List Env) (s : Shared) (H : Hp) (vs : List V) (Q : VK) (E : XK), Room k (A.deeper (envOfC qual (defScope st) s.heap.objs.size f cdv)) → sp vs H Q E →
      ∃ t, PSs (cxOf (L2N.CX P w) P w K mg base Ns qual (defScope st) f cdv A outer s H E) (defBody st) t ∧ t { nx := fun _ H' => Q .non H', rt := Q } (start Ns vs) H) : FnOk P w K mg base (L2N.CX P w) (k + 1) f fd ps sp := by
  obtain ⟨oc, od, kV, doc, pm, an, cdv, ct, osl, rfl, look, code⟩ := F.ex
  exact fn_of look code S len fun A outer s H vs Q E hr h => hbody cdv A outer s H vs Q E hr h
/-- an own class of error -/
structure ExcT (K : PySem.W.Frag) (mg : Str → Option Value) (z : Str) (c : Addr) : Prop where
  g : mg z = some (.ref c)
  k : PySem.W.keepIn K (.ref c) = true
  x : PySem.W.excIn K c [.type "ValueError", .type "Exception", .type "BaseException", .type "object"] "ValueError.__new__" = true
  b : PySem.W.subIn K (.ref c) (.type "BaseException") = some true
  t : PySem.W.typeIn K (.ref c) = some (.type "type")
theorem ps_raiseT {c : Addr} {m : Str} {j : Nat} {p2 : Pos} {W : WX} {pos' : Pos} (T : ExcT X.K X.mg z c) (hc : X.calm = true) (tk : L2N.Takes X W) (hg : Gl X z) (hdb : (z == ("__debug__" : Str)) = false := by decide) :
    PS X (.Raise (some (.Call (.Name z p) [.Constant (.str m) j p2] [] pos)) none pos') (fun _ σ H => W (.ref c) none σ H) :=
  L2N.ps_raise hc tk (L2N.pmk_own PySem.F.excBase_ValueError T.x T.g T.k (raises_own T.b T.t) hg hdb)
end
theorem kb_int_int : kitB "int" "int" = some true := by decide +kernel
theorem kb_int_bool : kitB "int" "bool" = some false := by decide +kernel
theorem kb_int_tuple : kitB "int" "tuple" = some false := by decide +kernel
theorem kb_int_list : kitB "int" "list" = some false := by decide +kernel
theorem kb_bool_int : kitB "bool" "int" = some true := by decide +kernel
theorem kb_bool_bool : kitB "bool" "bool" = some true := by decide +kernel
theorem kb_bool_tuple : kitB "bool" "tuple" = some false := by decide +kernel
theorem kb_bool_list : kitB "bool" "list" = some false := by decide +kernel
theorem kb_NoneType_int : kitB "NoneType" "int" = some false := by decide +kernel
theorem kb_NoneType_bool : kitB "NoneType" "bool" = some false := by decide +kernel
theorem kb_NoneType_tuple : kitB "NoneType" "tuple" = some false := by decide +kernel
theorem kb_NoneType_list : kitB "NoneType" "list" = some false := by decide +kernel
theorem kb_str_int : kitB "str" "int" = some false := by decide +kernel
theorem kb_str_bool : kitB "str" "bool" = some false := by decide +kernel
theorem kb_str_tuple : kitB "str" "tuple" = some false := by decide +kernel
theorem kb_str_list : kitB "str" "list" = some false := by decide +kernel
theorem kb_list_int : kitB "list" "int" = some false := by decide +kernel
theorem kb_list_bool : kitB "list" "bool" = some false := by decide +kernel
theorem kb_list_tuple : kitB "list" "tuple" = some false := by decide +kernel
theorem kb_list_list : kitB "list" "list" = some true := by decide +kernel
theorem kb_tuple_int : kitB "tuple" "int" = some false := by decide +kernel
theorem kb_tuple_bool : kitB "tuple" "bool" = some false := by decide +kernel
theorem kb_tuple_tuple : kitB "tuple" "tuple" = some true := by decide +kernel
theorem kb_tuple_list : kitB "tuple" "list" = some false := by decide +kernel
/-- the classes' addresses -/
structure Cs where
  BadRule : Addr
  BadKey : Addr
  BadSize : Addr
  Full : Addr
  TooMany : Addr
  StrewError : Addr
  Ring : Addr
  Row : Addr
  Growing : Addr
theorem upE {Q : VK} {v w : V} {H : Hp} (q : upR Q v H) (e : v = w) : upR Q w H := e ▸ q
theorem upX {Q : VK} {v : V} {H H' : Hp} (q : upR Q v H) (e : Ex H H') : upR Q v H' := fun H2 e2 => q H2 (e.tr e2)
/-- what is counted: an int, or what is none -/
def cnt : V → Int → Int → Bool
  | .int i, lo, hi => decide (lo ≤ i) && decide (i ≤ hi)
  | _, _, _ => false
/-! ### more of numbers -/
theorem op_mulX {X : Cx} : OpR X (binaryOp .Mult) (rI IntMulOk fun i j => .int (i * j)) := opI fun _ _ _ _ _ _ _ hc q => mul_int q hc
theorem mulxR {i j : Int} (h1 : -(2 ^ 64) < j) (h2 : j < 2 ^ 64) : IntMulOk i j := .of_right (intBits_le_64 h1 h2)
theorem mulxL {i j : Int} (h1 : -(2 ^ 64) < i) (h2 : i < 2 ^ 64) : IntMulOk i j := .of_left (intBits_le_64 h1 h2)
theorem mulw {m n : Nat} {a b : Nat} (ha : m < 2 ^ a) (hb : n < 2 ^ b) (h0 : 0 < a) (h1 : 0 < b) (h : a + b ≤ 1000000) : IntMulOk (m : Int) (n : Int) := (wide_mul (a := a) (b := b) (by simpa using ha) (by simpa using hb) h0 h1 h).ok
theorem divw {i : Int} {n b : Nat} (h : 0 < n) (hb : n < 2 ^ b) (h0 : 0 < b) (h9 : b ≤ 9000) : CDivW i (n : Int) := wide_div (b := b) (by omega) (by simpa using hb) h0 h9
theorem cdivL {i j : Int} (h0 : 0 < j) (h1 : j < 2 ^ 64) : CDivW i j := wide_div (b := 64) h0 (by omega) (by decide) (by decide)
theorem abs_nat (m : Nat) : (if ((m : Nat) : Int) < 0 then -((m : Nat) : Int) else ((m : Nat) : Int)) = ((m : Nat) : Int) := if_neg (by omega)
/-! ### data compared -/
mutual
theorem dpUp (e : Ex H H') : ∀ {v : V} {d : PyData}, Dp K H v d → Dp K H' v d
  | _, _, .non => .non
  | _, _, .bl b => .bl b
  | _, _, .int i => .int i
  | _, _, .str x => .str x
  | _, _, .lst h a => .lst (e.sl h) (dpAllUp e a)
  | _, _, .tup h a => .tup (e.st h) (dpAllUp e a)
theorem dpAllUp (e : Ex H H') : ∀ {vs : List V} {ds : List PyData}, DpAll K H vs ds → DpAll K H' vs ds
  | _, _, .nil => .nil
  | _, _, .cons h a => .cons (dpUp e h) (dpAllUp e a)
end
theorem r_eqD {d e : PyData} {b : Bool} (h1 : Dp K H x d) (h2 : Dp K H y e) (s1 : SeqAt.shaped d = true) (s2 : SeqAt.shaped e = true) (hb : PyData.eqv d e = b) (k : Q (.bl b) H) : kR (rEqD K) x y H Q := fun H1 ex _ q => ⟨d, e, dpUp ex h1, dpUp ex h2, s1, s2, by rw [hb]; exact q _ _ _ k ex⟩
theorem r_neD {d e : PyData} {b : Bool} (h1 : Dp K H x d) (h2 : Dp K H y e) (s1 : SeqAt.shaped d = true) (s2 : SeqAt.shaped e = true) (hb : PyData.eqv d e = b) (k : Q (.bl (!b)) H) : kR (rNeD K) x y H Q := fun H1 ex _ q => ⟨d, e, dpUp ex h1, dpUp ex h2, s1, s2, by rw [hb]; exact q _ _ _ k ex⟩
theorem dp_ints : ∀ ns : List Int, DpAll K H (ns.map V.int) (ns.map PyData.int)
  | [] => .nil
  | n :: ns => .cons (.int n) (dp_ints ns)
theorem eqv_ints : ∀ ns ms : List Int, PyData.eqv (.list (ns.map PyData.int)) (.list (ms.map PyData.int)) = decide (ns = ms)
  | [], [] => by simp [PyData.eqv, PyData.eqvAll]
  | [], _ :: _ => by simp [PyData.eqv, PyData.eqvAll]
  | _ :: _, [] => by simp [PyData.eqv, PyData.eqvAll]
  | a :: r, b :: t => by
    have ih := eqv_ints r t
    simp only [PyData.eqv] at ih
    simp only [List.map_cons, PyData.eqv, PyData.eqvAll, ih]
    by_cases h : a = b <;> by_cases h' : r = t <;> simp [h, h']
theorem r_eqIs {p q : Addr} {ns ms : List Int} (h1 : SqL K H p (ns.map V.int)) (h2 : SqL K H q (ms.map V.int)) (k : Q (.bl (decide (ns = ms))) H) : kR (rEqD K) (.ref p) (.ref q) H Q :=
  r_eqD (.lst h1 (dp_ints ns)) (.lst h2 (dp_ints ms)) (PySem.W.ke_shaped_ints ns) (PySem.W.ke_shaped_ints ms) (eqv_ints ns ms) k
theorem r_neIs {p q : Addr} {ns ms : List Int} (h1 : SqL K H p (ns.map V.int)) (h2 : SqL K H q (ms.map V.int)) (k : Q (.bl (!decide (ns = ms))) H) : kR (rNeD K) (.ref p) (.ref q) H Q :=
  r_neD (.lst h1 (dp_ints ns)) (.lst h2 (dp_ints ms)) (PySem.W.ke_shaped_ints ns) (PySem.W.ke_shaped_ints ms) (eqv_ints ns ms) k
theorem eqv_pair (a b c d : Int) : PyData.eqv (.tuple [.int a, .int b]) (.tuple [.int c, .int d]) = decide (a = c ∧ b = d) := by
  simp only [PyData.eqv, PyData.eqvAll]
  by_cases h : a = c <;> by_cases h' : b = d <;> simp [h, h']
theorem r_neP {p q : Addr} {a b c d : Int} (h1 : SqT K H p [.int a, .int b]) (h2 : SqT K H q [.int c, .int d]) (k : Q (.bl (!decide (a = c ∧ b = d))) H) : kR (rNeD K) (.ref p) (.ref q) H Q :=
  r_neD (.tup h1 (.cons (.int a) (.cons (.int b) .nil))) (.tup h2 (.cons (.int c) (.cons (.int d) .nil))) rfl rfl (eqv_pair a b c d) k
/-! ### places of a written list -/
theorem atI_mod {α : Type} {xs : List α} {r n : Nat} {v : α} (h : xs[r % n]? = some v) : atI xs ((r : Int) % (n : Int)) = some v := by
  have e : (r : Int) % (n : Int) = ((r % n : Nat) : Int) := by rw [Int.natCast_emod]
  rw [e]
  exact atI_nat h
/-- behind a test -/
theorem dec2 {p : Prop} [Decidable p] {A B : Prop} (h1 : p → A) (h2 : ¬ p → B) : (decide p = true → A) ∧ (decide p = false → B) := ⟨fun h => h1 (of_decide_eq_true h), fun h => h2 (of_decide_eq_false h)⟩
theorem ndec2 {p : Prop} [Decidable p] {A B : Prop} (h1 : ¬ p → A) (h2 : p → B) : ((!decide p) = true → A) ∧ ((!decide p) = false → B) := ⟨fun h => h1 (by simpa using h), fun h => h2 (by simpa using h)⟩
/-- for i in range(a, b, -1) -/
theorem s_forDn (a b : Int) (n : Nat) (W : Nat → PS') (k : kA t σ H fun vs H1 => vs = [.int a, .int b, .int (-1)] ∧ (-(2 ^ 62) ≤ a ∧ a < 2 ^ 62 ∧ -(2 ^ 62) ≤ b ∧ b < 2 ^ 62) ∧ (a - b).toNat = n ∧ W 0 σ H1 ∧ (∀ i s H2, i < n → W i s H2 → kG g (.int (a - (i : Int))) s H2 fun s' H3 => kS ts (nxt W (i + 1)) R N (nxt W (i + 1)) s' H3) ∧ ∀ s H2, W n s H2 → N s H2) :
    kS (tFor (iRng3 t) g ts) N R B C σ H := fun H1 e D hn hr hb hc => k H1 e _ fun vs H0 H2 ⟨ev, ⟨l1, l2, l3, l4⟩, en, h0, hs, hd⟩ e2 => by
  subst ev
  subst en
  refine ⟨a, b, -1, (a - b).toNat, rfl, RgC.neg l1 l2 l3 l4, ?_⟩
  have z := for_rangeC (lo := a) (c := -1) (n := (a - b).toNat) (g := g) (tb := ts) (D := D) (σ := σ) (H := H2) (nxt W) ⟨H0, h0, e2⟩ (fun i s H3 hi p => ?_) (fun s H3 p => ?_)
  · exact z
  · obtain ⟨H4, w, e4⟩ := p
    have e0 : a + (i : Int) * (-1) = a - (i : Int) := by omega
    rw [e0]
    exact hs i s H4 hi w H3 e4 _ fun s' H5 H6 q e6 => q H6 e6 _ nxt_up hr hn nxt_up
  · obtain ⟨H4, w, e4⟩ := p
    exact hn _ _ _ (hd s H4 w) e4
theorem cnt_ok {i lo hi : Int} (h1 : lo ≤ i) (h2 : i ≤ hi) : cnt (.int i) lo hi = true := by simp [cnt, h1, h2]
/-- a whole number among few, as a natural -/
theorem nat_of {z : Int} {b : Nat} (h0 : 0 ≤ z) (h1 : z ≤ b) : ∃ n : Nat, z = (n : Int) ∧ n ≤ b := ⟨z.toNat, by omega, by omega⟩
/-- an item of a written list at a rest -/
theorem pick {xs : List V} {z m : Int} {P : V → Prop} (hm : (xs.length : Int) = m) (h0 : 0 < m) (h : ∀ x ∈ xs, P x) : ∃ v, atI xs (z % m) = some v ∧ P v := by
  subst hm
  have h1 : 0 ≤ z % (xs.length : Int) := Int.emod_nonneg _ (by omega)
  have h2 : z % (xs.length : Int) < xs.length := Int.emod_lt_of_pos _ h0
  obtain ⟨n, hn⟩ := Int.eq_ofNat_of_zero_le h1
  have h3 : n < xs.length := by omega
  refine ⟨xs[n], ?_, h _ (List.getElem_mem h3)⟩
  rw [hn]
  exact atI_nat (List.getElem?_eq_getElem h3)
/-- the law's promise -/
def spLaw (K : PySem.W.Frag) : Sp := fun vs H Q _ => ∃ (a : Addr) (ns : List Int), vs = [.ref a] ∧ SqL K H a (ns.map V.int) ∧ ns.length ≤ 63 ∧ ∀ H', Q (.bl true) H'
end Lg

/-! HotW: lists walked while an exception is handled: the end of a walk, sum, a comprehension of int(x) over truths, isinstance of the exception. -/
namespace LgH
open PySem PySem.Spec PyProof.Rows L2 HotX L2H
section
variable {prog : Program} {w : World} {A : Around} {E : Value → Shared → Prop} {s : Shared}
def NoCtx (h : Heap) (x1 : Addr) : Prop := ∃ (o : Obj) (vs : Array Value), h.get? x1 = some o ∧ o.data = .fields vs ∧ vs[2]? = some .none
theorem end_hot {ia la x1 : Addr} {j : Nat} {its : Array Value} {Q : Option Value → Shared → Prop} (hd : A.handled = some (.ref x1)) (ct : NoCtx s.heap x1) (iter : s.heap.IsListIter ia la j) (lst : s.heap.IsList la its) (past : its[j]? = none) (ne : x1 ≠ ia)
    (fin : ∀ h', Heap.ExtBut ia s.heap h' → Q none { s with heap := h' }) : wpAny (model prog w) A (pyNext (.ref ia)) Q E s := by
  obtain ⟨oi, gi, ci, di⟩ := id iter
  obtain ⟨ol, gl, _, nl, dl⟩ := lst
  obtain ⟨o1, v1, g1, d1, c1⟩ := ct
  unfold pyNext
  apply wpAny_bind
  apply wpAny_attempt
  refine wpAny_callSpecial?_slot (name := Str.ofString "__next__") iter.typeIs slot_listiter_next (wpAny_call_entry slot_listiter_next iter.typeIs entry_listiter_next ?_ (args_listiter_next _))
  show wpAny _ _ (field (.ref ia) 0 >>= _) _ _ s
  apply wpAny_bind
  refine wpAny_field gi di (x := .ref la) rfl ?_
  show wpAny _ _ (if (Value.ref la == Value.none) = true then _ else _) _ _ s
  rw [if_neg (fun z : (Value.ref la == Value.none) = true => Bool.false_ne_true z)]
  show wpAny _ _ (field (.ref ia) 1 >>= _) _ _ s
  apply wpAny_bind
  refine wpAny_field gi di (x := .int j 0) rfl ?_
  show wpAny _ _ (seqItems? (.ref la) >>= _) _ _ s
  apply wpAny_bind
  refine wpAny_seqItems gl dl ?_
  simp only [Int.toNat_natCast, past]
  apply wpAny_bind
  apply wpAny_rule
  apply wpAny_bind
  refine wpAny_setField gi di (by simp) ?_
  show wpAny _ _ (newExc (.type "StopIteration") [] >>= _) _ _ _
  apply wpAny_bind
  simp only [newExc, newTuple]
  apply wpAny_bind
  refine wpAny_newObj_type ?_ (by size_fits)
  refine wpAny_bind (m := firstArgMember _ _) (wpAny_of_eq (a := Value.none) (by first | rfl | (simp only [firstArgMember]; rfl)) ?_)
  refine wpAny_newObj_type ?_ (by size_fits)
  have g1' : (s.heap.update ia (Obj.mapFields (·.setIfInBounds 0 Value.none))).get? x1 = some o1 := by
    rw [Heap.get?_update_other _ _ (Ne.symm ne)]
    exact g1
  refine raiseNew_hot (x1 := x1) ⟨hd, o1, v1, Heap.get?_push_of_some _ (Heap.get?_push_of_some _ g1'), d1, c1⟩ ?_ (Heap.get?_push_size _ rfl) rfl ?_ ?_
  · exact Nat.ne_of_lt (Heap.lt_size (Heap.get?_push_of_some _ g1'))
  · first
      | (simp; done)
      | (simp; omega)
      | (simp only [Array.size_append]; simp; omega)
  · apply wpAny_bind
    refine wpAny_isInstance (T := "StopIteration") (b := true) ⟨_, Heap.get?_update_self _ (Heap.get?_push_size _ rfl) rfl, rfl⟩ isSubtype_stop ?_
    refine wpAny_pure (fin _ ?_)
    intro b o hb e
    have e2 : (s.heap.update ia (Obj.mapFields (·.setIfInBounds 0 Value.none))).get? b = some o := by
      rw [Heap.get?_update_other _ _ (Ne.symm hb)]
      exact e
    rw [Heap.get?_update_other _ _ (Ne.symm (Nat.ne_of_lt (Heap.lt_size (Heap.get?_push_of_some _ e2))))]
    exact Heap.get?_push_of_some _ (Heap.get?_push_of_some _ e2)
theorem walks_hot {x1 : Addr} (hd : A.handled = some (.ref x1)) (ia la : Addr) (n1 : la ≠ ia) (n2 : x1 ≠ ia) (its : Array Value) :
    Walks prog w A ia [ia, la, x1] [ia] its.size (fun i v => its[i]? = some v) (fun i h => h.IsListIter ia la i ∧ h.IsList la its ∧ NoCtx h x1) where
  sub := fun b hb => by
    rw [List.mem_singleton.mp hb]
    exact List.mem_cons_self
  frame := fun i h h' st k => ⟨st.1.at fun o e => k ia (by simp) o e, st.2.1.at fun o e => k la (by simp) o e, by
    obtain ⟨o, vs, g, z⟩ := st.2.2
    exact ⟨o, vs, k x1 (by simp) o g, z⟩⟩
  item := fun i s Q E hi st hQ => by
    refine wpAny_pyNext_list_item st.1 st.2.1 (x := its[i]) (by simp [hi]) fun h' it' same => ?_
    refine hQ _ h' s.toks (by simp [hi]) ⟨it', st.2.1.extBut same.extBut n1, ?_⟩ fun b o hb e => same.extBut b o (fun z => hb (by simp [z])) e
    obtain ⟨o, vs, g, z⟩ := st.2.2
    exact ⟨o, vs, same.extBut x1 o n2 g, z⟩
  done := fun s Q E st hQ => end_hot hd st.2.2 st.1 st.2.1 (by simp) n2 fun h' ext => hQ h' s.toks fun b o hb e => ext b o (fun z => hb (by simp [z])) e
  self := fun _ _ _ _ st hQ => wpAny_pyIter_listiter st.1 hQ
end

/-! ### over the layer -/
section
variable {X : Cx}
/-- sum(xs), whole numbers -/
theorem cr_sumH (hc : HotC X) : CallR X (.builtin "sum") (rSum X.K) := by
  intro pins s σ H vs us Q I r h
  obtain ⟨a, ns, rfl, hs, q⟩ := h
  obtain ⟨its, rv, hl, _⟩ := I.list hs
  obtain ⟨x1, hd, ct⟩ := hc.at I
  rw [Vals.ref1 r]
  have hi := rv.ints
  obtain ⟨zs, ez⟩ := hi.allInts.items
  have hn : numsOf (intItems zs).toList = ns := by rw [← ez]; exact hi.numsOf
  rw [nums_intItems] at hn
  have hl2 := hl.isList
  rw [ez] at hl2
  refine call_sum_walkG (iter_intList hl2 fun s2 e st hfp hlI => ?_)
  subst e
  have nx : x1 ≠ s.heap.objs.size := by
    obtain ⟨o, vs, g, _⟩ := ct
    exact Nat.ne_of_lt (Heap.lt_size g)
  refine ⟨_, _, _, _, _, _, numAt zs, rfl, walks_hot (A := X.A.in1) (x1 := x1) hd _ a hlI nx (intItems zs), ⟨st.1, st.2, ?_⟩, ?_, (fun _ _ => intItems_at), fun h' tk t' hk => ?_⟩
  · obtain ⟨o, vs, g, z⟩ := ct
    exact ⟨o, vs, Heap.get?_push_of_some _ g, z⟩
  · intro b hb
    rcases List.mem_cons.mp hb with z | hb
    · exact hfp b (by rw [z]; simp)
    rcases List.mem_cons.mp hb with z | hb
    · exact hfp b (by rw [z]; simp)
    · rw [List.mem_singleton.mp hb]
      obtain ⟨o, vs, g, z⟩ := ct
      exact Heap.lt_size (Heap.get?_push_of_some _ g)
  · have e1 : preSum (numAt zs) (intItems zs).size = ns.sum := by
      rw [show (intItems zs).size = zs.size by simp [intItems], preSum_eq, List.take_of_length_le (by simp), hn]
    rw [e1]
    refine ⟨.int ns.sum, H, I.kept (t' := tk) fun b o e => hk b o ?_ (Heap.get?_push_of_some _ e), ⟨_, rfl⟩, q⟩
    intro hb
    rw [List.mem_singleton.mp hb] at e
    exact absurd (Heap.lt_size e) (Nat.lt_irrefl _)
def b2n (b : Bool) : Int := if b = true then 1 else 0
/-- [int(x) for x in e], e a list of truths -/
def tHotInts (K : PySem.W.Frag) (te : TE) : TE := fun σ H Q => te σ H fun v H1 => ∃ (a : Addr) (bs : List Bool), v = .ref a ∧ SqL K H1 a (bs.map V.bl) ∧ bs.length ≤ 1000 ∧ ∀ p, H1 p = none → Q (.ref p) (upd H1 p (.lst (bs.map fun b => V.int (b2n b))))
theorem vals_bools : ∀ {bs : List Bool} {us : List Value}, Vals (bs.map V.bl) us → us = bs.map Value.bool
  | [], _, h => by
    cases h
    rfl
  | b :: bs, _, h => by
    cases h with
    | cons r t =>
      rw [show _ = Value.bool b from r, vals_bools t]
      rfl
theorem vals_b2n : ∀ {bs : List Bool} {ys : List Value}, Paired (fun v y => ∃ b t, v = Value.bool b ∧ y = Value.int (b2n b) t) (bs.map Value.bool) ys → Vals (bs.map fun b => V.int (b2n b)) ys
  | [], _, h => by
    cases h
    exact .nil
  | b :: bs, _, h => by
    cases h with
    | cons r t =>
      obtain ⟨b', tk, e1, e2⟩ := r
      cases e1
      exact .cons ⟨tk, e2⟩ (vals_b2n t)
theorem pe_hotInts {x : Str} {p1 p2 p3 p4 pos : Pos} {e : Expr} {te : TE} {scope : Scope} (hc : HotC X) (he : PE X e te) (mi : X.mg "int" = none) (hfree : ∀ y ∈ scope.names, y.2 ≠ .free) (hcell : ∀ y ∈ scope.names, y.2 ≠ .cell) (hkind : scope.kind = .function)
    (hnames : ∀ y ∈ scope.names, y.2 = .local → scope.names.lookup y.1 = some .local) (hx : scope.names.lookup x = some .local) (hint : scope.names.lookup ("int" : Str) = some .globalImplicit) (hdb : (x == ("__debug__" : Str)) = false)
    (hs : ∀ y, foldedSetIterable e X.env y = pure y) : PE X (.ListComp (.Call (.Name "int" p1) [.Name x p2] [] p3) [⟨.Name x p4, e, [], 0⟩] scope pos) (tHotInts X.K te) := by
  refine ⟨fun pins s σ H Q I h => ?_⟩
  refine wpAny_ListComp_walk (fun _ => true) (fun v y => ∃ b t, v = Value.bool b ∧ y = Value.int (b2n b) t) hfree hcell hkind hnames hx (thn (he.run pins s σ H _ I h) fun u s1 ⟨v, H1, I1, r1, q1⟩ => ?_) hs
  obtain ⟨a, bs, ev, hS, hl, q⟩ := q1
  subst ev
  cases r1
  obtain ⟨its, rv, pl, hz⟩ := I1.list hS
  have ei := vals_bools rv
  subst ei
  obtain ⟨x1, hd, ct⟩ := hc.at I1
  have la : a < s1.heap.objs.size := pl.lt
  have lx : x1 < s1.heap.objs.size := by
    obtain ⟨o, vs, g, _⟩ := ct
    exact Heap.lt_size g
  refine wpAny_pyIter_list pl.isList ?_
  refine ⟨s1.heap.objs.size, _, _, _, _, _, rfl, walks_hot hd s1.heap.objs.size a (Nat.ne_of_lt la) (Nat.ne_of_lt lx) (bs.map Value.bool).toArray, ?_, ⟨⟨_, Heap.get?_push_size _ rfl, rfl, rfl⟩, pl.isList.push _, ?_⟩, ?_, ⟨?_, ?_⟩, ?_⟩
  · rw [List.size_toArray, List.length_map]
    exact Nat.le_trans hl (by decide)
  · obtain ⟨o, vs, g, z⟩ := ct
    exact ⟨o, vs, Heap.get?_push_of_some _ g, z⟩
  · intro b hb
    rw [Heap.size_push]
    have e' : b = s1.heap.objs.size ∨ b = a ∨ b = x1 := by simpa using hb
    rcases e' with z | z | z
    · rw [z]
      exact Nat.lt_succ_self _
    · rw [z]
      exact Nat.lt_succ_of_lt la
    · rw [z]
      exact Nat.lt_succ_of_lt lx
  · intro C i v s3 m3 E' hv hn hm hk ht
    exact wpAny_pure ⟨rfl, s3.heap, s3.toks, rfl, fun _ _ e => e⟩
  · intro C i v s3 m3 E' hv _ hn hm hk ht
    obtain ⟨b, eb⟩ : ∃ b, v = Value.bool b := by
      have hv' : (bs.map Value.bool)[i]? = some v := by simpa using hv
      rw [List.getElem?_map] at hv'
      cases eb : bs[i]? with
      | none => rw [eb] at hv'; cases hv'
      | some b => rw [eb] at hv'; exact ⟨b, (Option.some.inj hv').symm⟩
    subst eb
    have hk3 : ∀ b o, X.base.get? b = some o → s3.heap.get? b = some o := fun b o e => by
      have z := I1.bk b o e
      refine hk b o ?_ (Heap.get?_push_of_some _ z)
      intro hb
      rw [List.mem_singleton.mp hb] at z
      exact absurd (Heap.lt_size z) (Nat.lt_irrefl _)
    obtain ⟨mb, hb1, hb2⟩ := I1.mod.blt
    refine Call_ (Calls.Name_function_global hkind hint (Calls.loadGlobal_builtin (mg := X.mg) (mb := mb) (v := .type "int") ?_ mi ?_ ?_ ?_))
    · show s3.heap.Ns X.env.globals X.mg
      rw [I1.ok.glob]
      exact I1.mod.glob.keeps hk3
    · show s3.heap.Ns X.env.builtins mb
      rw [I1.ok.blt]
      exact hb1.keeps hk3
    · exact (hb2 "int" (by decide)).trans (by decide +kernel)
    · refine PyProof.Rows.callWith_type1 (Calls.spliced_cons (wpAny_Name (wpAny_loadName_local hkind hx hn hm ?_) hdb)) rfl rfl
      refine Calls.spliced_nil ?_
      exact call_int_bool ⟨⟨b, _, rfl, rfl⟩, s3.heap, _, rfl, fun _ _ e => e⟩
  · intro D h' tk ys vs hD hlD hpD hlen hP hF hk
    have kk : ∀ b o, s1.heap.get? b = some o → h'.get? b = some o := fun b o e => by
      refine hk b o ?_ (Heap.get?_push_of_some _ e)
      intro hb
      rw [List.mem_singleton.mp hb] at e
      exact absurd (Heap.lt_size e) (Nat.lt_irrefl _)
    have evs : vs = bs.map Value.bool := by
      refine List.ext_getElem? fun j => ?_
      cases ej : vs[j]? with
      | none =>
        have h1 := List.getElem?_eq_none_iff.mp ej
        have h2 : (bs.map Value.bool).length ≤ j := by
          rw [List.size_toArray] at hlen
          omega
        exact (List.getElem?_eq_none_iff.mpr h2).symm
      | some v =>
        have z := hP j v ej
        exact (by simpa using z : (bs.map Value.bool)[j]? = some v).symm
    have hV : Vals (bs.map fun b => V.int (b2n b)) ys.toList := by
      refine vals_b2n ?_
      rw [← evs]
      have ef : vs.filter (fun _ => true) = vs := List.filter_eq_self.mpr fun _ _ => rfl
      rw [ef] at hF
      exact hF
    have gD : s1.heap.get? D = none := by
      cases eD : s1.heap.get? D with
      | none => rfl
      | some o =>
        rw [Heap.get?_push_of_some _ eD] at hD
        cases hD
    have nD : H1 D = none := I1.hok.gone gD
    have nb : ∀ b u, s1.heap.get? b = some u → b ≠ D := fun b u e z => by
      rw [z, gD] at e
      cases e
    obtain ⟨n, eD⟩ := hpD
    have new : ObjOk X.prog X.w (upd H1 D (.lst (bs.map fun b => V.int (b2n b)))) h' D (.lst (bs.map fun b => V.int (b2n b))) := by
      refine ⟨?_, ys.toList, n, hV, ?_⟩
      · rw [List.length_map]
        exact Nat.le_trans hl (by decide)
      · simpa using eD
    refine ⟨.ref D, upd H1 D (.lst (bs.map fun b => V.int (b2n b))), I1.un (t' := tk) ⟨fun b u e _ _ _ => kk b u e, fun b u e _ _ _ => ⟨u.slots, kk b u e⟩, fun b u e n _ => ?_, fun b u e _ => ⟨u, kk b u e⟩, fun b xs e => ?_, fun b o xs e => ?_, fun b ps e => ⟨#[], ?_⟩⟩ ?_, rfl, q D nD⟩
    · rw [upd_ne (nb b u e)]
      exact n
    · rw [upd_ne (ne_of_none e nD)]
      exact e
    · rw [upd_ne (ne_of_none e nD)]
      exact e
    · rw [upd_ne (ne_of_none e nD), e]
      simp
    · intro b u e
      by_cases hb : b = D
      · subst hb
        rw [upd_same] at e
        cases e
        exact new
      · rw [upd_ne hb] at e
        exact (I1.hok b u e).stay (fun c v _ e => kk c v e) (fun c e => by rw [upd_ne (ne_of_none e nD)]; exact e) fun c xs e => by rw [upd_ne (ne_of_none e nD)]; exact e
end
end LgH

/-! Told: a def called in an except suite with the exception that is handled; try .. except StrewError as e: return word(e). -/
namespace Lg
open PySem PySem.Spec PyProof.Rows L2 L2H LgH
section
variable {P : Program} {w : World} {K : PySem.W.Frag} {mg : Str → Option Value} {base : Heap} {k j : Nat} {z : Str} {st : Stmt} {ps Ns : List Str} {X : Cx}
def CalX (P : Program) (w : World) (K : PySem.W.Frag) (mg : Str → Option Value) (base : Heap) (k : Nat) (z : Str) (ps : List Str) (sp : Addr × Obj → Sp) : Prop :=
  ∃ f fd, (∀ (A : Around) (outer : List Env) (s : Shared) (H : Hp) (us : List Value) (vs : List V) (Q : VK) (E : XK) (p : Addr × Obj), RoomH k A → Hot1 A p → PinOk outer H s p → Env0 P w K mg base A outer s H → BindsTo s fd ⟨us, []⟩ (ps.zip us) →
    Vals vs us → vs.length = ps.length → sp p vs H Q E → codeAny (model P w) A (.call (.ref f) ⟨us, []⟩) (CR (L2N.CX P w) outer P w H s Q E) s) ∧ mg z = some (.ref f) ∧ PySem.W.keepIn K (.ref f) = true ∧ Binds K fd ps []
theorem calX_mk {sp : Addr × Obj → Sp} (D : Dn K mg z st ps) (S : FnScope Ns ps (defScope st))
    (hbody : ∀ (f : Addr) (cdv : Value) (A : Around) (outer : List Env) (s : Shared) (H : Hp) (vs : List V) (Q : VK) (E : XK) (p : Addr × Obj), Hot1 A p → RoomH k (A.deeper (envOfC z (defScope st) s.heap.objs.size f cdv)) → sp p vs H Q E →
      ∃ t, PSs (cxH (L2N.CX P w) P w K mg base Ns z (defScope st) f cdv A outer s H E p) (defBody st) t ∧ t { nx := fun _ H' => Q .non H', rt := Q } (L2.start Ns vs) H) : CalX P w K mg base (k + 1) z ps sp := by
  obtain ⟨f, fd, F, hm, hb⟩ := D
  obtain ⟨oc, od, kV, doc, pm, an, cdv, ct, osl, rfl, look, code⟩ := F.ex
  refine ⟨f, _, fun A outer s H us vs Q E p hr hot pin e0 bind rel len hsp => ?_, hm, F.kp, hb⟩
  have here : K.In s.heap := e0.mod.kin.keeps fun b o e => (e0.bs b o e).1
  have nolim : s.heap.NoLimit := e0.mod.nolimit.keeps fun b o e => (e0.bs b o e).1
  refine codeAny_call_function hr.depth (here _ _ look) rfl S.co S.gen rfl (PySem.W.codeRec_of here code) (bind _ _ _ _ ?_)
  refine wpAny_newFunctionEnv_cells S.kind (fun y hy => ?_) fun env he s1 x => ?_
  · obtain ⟨n, v⟩ := y
    rcases S.par n (List.of_mem_zip hy).1 with q | q
    · exact .inl q
    · exact .inr ⟨q, PySem.W.cellsFrom_some _ _ _ (.inl q)⟩
  · subst he
    refine ⟨nolim.keeps x.toInCall.keep, codeAny_func ?_⟩
    obtain ⟨t, body, read⟩ := hbody f cdv A outer s H vs Q E p hot (hr.deeper _) hsp
    have I := inv_startH (CX := L2N.CX P w) (E := E) S pin e0 len rel x
    refine wpAny_mono (body.run [] s1 (L2.start Ns vs) H _ I read) (fun fl s' hs => ?_) fun _ _ h => h
    cases fl with
    | next =>
      obtain ⟨σ', H', J, q⟩ := hs
      exact ⟨.non, H', J.os, J.bare, J.base, J.hok, rfl, q⟩
    | ret u =>
      obtain ⟨v, σ', H', J, r, q⟩ := hs
      exact ⟨v, H', J.os, J.bare, J.base, J.hok, r, q⟩
    | brk =>
      obtain ⟨_, _, _, q⟩ := hs
      exact q.elim
    | cont =>
      obtain ⟨_, _, _, q⟩ := hs
      exact q.elim
theorem noOut {outer : List Env} {H : Hp} {s : Shared} {e : Value} {s' : Shared} (h : L2N.CX P w outer H s E0 e s') : False := by
  obtain ⟨_, _, _, _, _, _, _, _, _, _, _, _, no⟩ := h
  exact no
theorem passN {X : Cx} : Passes (L2N.CX X.prog X.w) X E0 := fun _ _ _ _ _ _ _ h => (noOut h).elim
/-- word(e), e the exception q that is handled -/
def tWordCall (sp : Addr × Obj → Sp) (q : Addr × Obj) (te : TE) : TE := fun σ H Q => te σ H fun v H1 => sp q [v] H1 Q E0
theorem pe_calX {sp : Addr × Obj → Sp} {q : Addr × Obj} {p pos : Pos} {e : Expr} {te : TE} {y : Str} (c : CalX X.prog X.w X.K X.mg X.base k z [y] sp) (hr : RoomH j X.A) (hk : k ≤ j) (hot : Hot1 X.A q) (hq : q ∈ X.pn) (hg : Gl X z) (he : PE X e te)
    (hdb : (z == ("__debug__" : Str)) = false := by decide) (hst : starEach (e :: []) X.env = (false, eval e X.env) :: starEach [] X.env := by rfl) (hpl : (backTo pos (starEach [] X.env)).any (·.1) = false := by rfl) :
    PE X (.Call (.Name z p) [e] [] pos) (tWordCall sp q te) := by
  obtain ⟨f, fd, run, hm, hkp, hb⟩ := c
  refine ⟨fun pins s σ H Q I h => ?_⟩
  refine wpAny_Call_Name_kw (ld_glob I hg hm ?_ hdb)
  have ha : PA X [e] (tCons te tNil) := pa_cons he pa_nil hst
  refine PySem.W.callWith_K (h₀ := X.base) I.ok.mod.kin hkp (thn (ha.run pos pins s σ H (fun vs H1 => ∃ v, vs = [v] ∧ sp q [v] H1 Q E0) I ?_) fun us s1 ⟨vs, H1, I1, r, v, ev, hsp⟩ => ⟨I1.kIn, ?_⟩) hst hpl
  · exact cast (congrArg (te σ H) (funext fun v => funext fun H1 => propext ⟨fun x => ⟨v, rfl, x⟩, fun ⟨v', e', x⟩ => by cases e'; exact x⟩)) h
  · subst ev
    have P1 := I1.pin q (List.mem_append_left _ hq)
    have pin : PinOk X.stack H1 s1 q := ⟨P1.1, P1.2.1, fun hm => (List.mem_cons.mp (I1.stkSub q.1 hm)).elim P1.2.2.1 P1.2.2.2.1, P1.2.2.2.2⟩
    have b := hb s1 us I1.kIn (by rw [List.append_nil, ← r.length]; rfl)
    rw [List.append_nil] at b
    refine wpAny_call (codeAny_mono (run X.A X.stack s1 H1 us [v] Q E0 q (hr.mono hk) hot pin I1.env0 b r rfl hsp) fun res s2 hres => ?_)
    cases res with
    | error e => exact (noOut hres).elim
    | ok fl =>
      cases fl with
      | ret u => exact I1.after hres
      | next => exact False.elim hres
      | brk => exact False.elim hres
      | cont => exact False.elim hres
/-- isinstance of the exception that is handled -/
theorem call_isH {a D : Addr} {oe : Obj} (C : ExcC X.K D) (h1 : oe.cls = .ref D) (h2 : oe.dict = none) (hf : ∃ vs, oe.data = .fields vs) (hp : (a, oe) ∈ X.pn) : CallR X (.builtin "isinstance") (rIsE X.K D a) := by
  rintro pins s σ H xs us Q I r ⟨c, cv, b, rfl, hcv, hk, q⟩
  cases r with
  | cons rx r2 =>
    cases r2 with
    | cons rc r3 =>
      cases r3
      cases rx
      cases hcv _ rc
      have get := (I.pin (a, oe) (List.mem_append_left _ hp)).1
      obtain ⟨vs, hv⟩ := hf
      have J : PySem.W.InstAt s.heap a oe D none := by
        obtain ⟨o1, o2, o3, o4⟩ := oe
        dsimp only at h1 h2 hv
        subst h1 h2 hv
        exact ⟨get, rfl, rfl, trivial⟩
      exact PySem.W.kia_one (PySem.W.handS_kitx_exc C.hg C.hk C.hs C.hd C.ha C.hn C.ht C.hm) I.kIn J hk (fun e => nomatch e) fun tk => ⟨.bl b, H, I.kept (t' := tk) fun _ _ e => e, rfl, q⟩
/-- a call in a try's body -/
theorem pe_calS {CX : CXT} {sp : Sp} {E : Sg → XK} {p pos : Pos} {e : Expr} {es : List Expr} {t : TA} {j : Nat} (c : Cal X.prog X.w X.K X.mg X.base CX k z ps sp) (hr : Room j X.A) (hk : k ≤ j) (hg : Gl X z) (hx : ∀ σ, PassesAt CX X σ (E σ)) (ha : PA X (e :: es) t)
    (hdb : (z == ("__debug__" : Str)) = false := by decide) (he : starEach (e :: es) X.env = (false, eval e X.env) :: starEach es X.env := by rfl) (hpl : (backTo pos (starEach es X.env)).any (·.1) = false := by rfl) :
    PE X (.Call (.Name z p) (e :: es) [] pos) (tCallS sp E t) := by
  obtain ⟨f, fd, F, hm, hkp, hb⟩ := c
  exact pe_callS F (hr.mono hk) hg hm hkp hb hx ha hdb he hpl
end
/-! ### the words -/
/-- what the law's word tells of a class of refusal -/
def wordOf (cs : Cs) (c : Addr) (nm : Str) : Prop := (c = cs.BadRule ∧ nm = ("BadRule" : Str)) ∨ (c = cs.BadKey ∧ nm = ("BadKey" : Str)) ∨ (c = cs.BadSize ∧ nm = ("BadSize" : Str)) ∨ (c = cs.Full ∧ nm = ("Full" : Str)) ∨ (c = cs.TooMany ∧ nm = ("TooMany" : Str))
theorem w_rule {cs : Cs} : wordOf cs cs.BadRule "BadRule" := .inl ⟨rfl, rfl⟩
theorem w_key {cs : Cs} : wordOf cs cs.BadKey "BadKey" := .inr (.inl ⟨rfl, rfl⟩)
theorem w_size {cs : Cs} : wordOf cs cs.BadSize "BadSize" := .inr (.inr (.inl ⟨rfl, rfl⟩))
theorem w_full {cs : Cs} : wordOf cs cs.Full "Full" := .inr (.inr (.inr (.inl ⟨rfl, rfl⟩)))
theorem w_many {cs : Cs} : wordOf cs cs.TooMany "TooMany" := .inr (.inr (.inr (.inr ⟨rfl, rfl⟩)))
def sp_word (cs : Cs) (q : Addr × Obj) : Sp := fun vs H Q _ => ∃ c nm, vs = [.ref q.1] ∧ q.2.cls = .ref c ∧ q.2.dict = none ∧ wordOf cs c nm ∧ upR Q (.str nm) H
/-- try: body, except c as n (slot i): return word(n) -/
def tTry (K : PySem.W.Frag) (cs : Cs) (c : Value) (i : Nat) (tb : WX → TS) : TS := fun D σ H =>
  tb (wAs K c i (fun a cls d => fun D σ H => σ[i]? = some (some (.ref a)) ∧ ∃ cc nm, cls = .ref cc ∧ d = none ∧ wordOf cs cc nm ∧ ∀ H1, Ex H H1 → D.rt (.str nm) H1) (fun _ _ _ _ => False) D) D σ H
theorem s_try {K : PySem.W.Frag} {cs : Cs} {c : Value} {i : Nat} {tb : WX → TS} {N B C : PS'} {R : PV} {σ : Sg} {H : Hp} (ex : ∀ cc nm, wordOf cs cc nm → PySem.W.exmOne K (.ref cc) c = some true)
    (k : ∀ W : WX, (∀ cc nm σ' H0, wordOf cs cc nm → i < σ'.length → R (.str nm) H0 → ∀ H1, Ex H0 H1 → W (.ref cc) none σ' H1) → kS (tb W) N R B C σ H) : kS (tTry K cs c i tb) N R B C σ H := fun H1 e D hn hr hb hc =>
  k _ (fun cc nm σ' H0 hw hi hR H2 e2 => ⟨true, ex cc nm hw, fun _ a ha => ⟨List.getElem?_set_self hi, cc, nm, rfl, rfl, hw, fun H3 e3 => hr _ _ _ hR (e2.tr e3)⟩, fun h => Bool.noConfusion h⟩) H1 e D hn hr hb hc
section
variable {X : Cx} {x n z y : Str} {c : Addr} {cs : Cs} {i j kw : Nat} {body : List Stmt} {tb : WX → TS} {np p1 p2 p3 p4 pos pos' : Pos}
theorem no_takes {X : Cx} : L2N.Takes X (fun _ _ _ _ => False) := by
  intro u s' h
  obtain ⟨_, _, _, _, _, _, _, _, _, _, _, _, _, _, _, _, no⟩ := h
  exact no.elim
/-- try: body, except x as n: return z(n) -/
theorem ps_tryT (hs : X.stack = X.env :: X.outer) (hf : X.env.frame = some X.env.locals) (hN : X.N.Nodup) (hi : X.N[i]? = some n) (hln : X.env.scope.names.lookup n = some .local) (hg : Gl X x) (hm : X.mg x = some (.ref c))
    (w : CalX X.prog X.w X.K X.mg X.base kw z [y] (sp_word cs)) (hr : Room j X.A) (hk : kw ≤ j) (hgz : Gl X z)
    (hb : ∀ (W : WX) (pn : List (Addr × Obj)) (xe : Value → Shared → Prop), L2N.Takes (X.tr pn xe) W → PSs (X.tr pn xe) body (tb W))
    (hv : ∀ (pn : List (Addr × Obj)) (a : Addr), PE (X.suite a pn) (.Name n p2) (tVar i))
    (hdb : (x == ("__debug__" : Str)) = false := by decide) (hdz : (z == ("__debug__" : Str)) = false := by decide)
    (hst : ∀ (pn : List (Addr × Obj)) (a : Addr), starEach (.Name n p2 :: []) (X.suite a pn).env = (false, eval (.Name n p2) (X.suite a pn).env) :: starEach [] (X.suite a pn).env := by intros; rfl)
    (hpl : ∀ (pn : List (Addr × Obj)) (a : Addr), (backTo p3 (starEach [] (X.suite a pn).env)).any (·.1) = false := by intros; rfl) :
    PS X (.Try body [.ExceptHandler (some (.Name x np)) (some n) [.Return (some (.Call (.Name z p1) [.Name n p2] [] p3)) p4] pos'] [] [] pos) (tTry X.K cs (.ref c) i tb) := by
  refine L2N.ps_try_as (Wout := fun _ _ _ _ => False) (ts := fun a cls d => fun D σ H => σ[i]? = some (some (.ref a)) ∧ ∃ cc nm, cls = .ref cc ∧ d = none ∧ wordOf cs cc nm ∧ ∀ H1, Ex H H1 → D.rt (.str nm) H1) hs hf hN hi hln ⟨hg, hdb, .inl hm⟩ no_takes (fun W pn xe tk _ => hb W pn xe tk) fun a oe cls d pn hz hfl => ?_
  have P : PSs (X.suite a ((a, oe) :: pn)) [.Return (some (.Call (.Name z p1) [.Name n p2] [] p3)) p4] (tRet (tWordCall (sp_word cs) (a, oe) (tVar i))) :=
    pss_one (ps_ret (pe_calX (X := X.suite a ((a, oe) :: pn)) (q := (a, oe)) (sp := sp_word cs) w ⟨hr.dp, hr.un⟩ hk ⟨rfl, by
      obtain ⟨vs, e⟩ := hfl
      exact ⟨vs, e, hz.2.2 vs e⟩⟩ List.mem_cons_self hgz (hv _ _) hdz (hst _ _) (hpl _ _)))
  refine ⟨fun pins s σ H D I h => P.run pins s σ H D I ?_⟩
  obtain ⟨h1, cc, nm, h2, h3, h4, h5⟩ := h
  exact ⟨.ref a, h1, cc, nm, rfl, hz.1.trans h2, hz.2.1.trans h3, h4, h5⟩
end
/-- isinstance by the class pairs -/
theorem c_isH {K : PySem.W.Frag} {D a : Addr} {x : V} {cv : Value} {b : Bool} {H : Hp} {Q : PV} (h : PySem.W.kitOne K (.ref D) cv = some b) (hv : ∀ u, RelV x u → u = cv) (k : Q (.bl b) H) : kC (rIsE K D a) [.ref a, x] H Q := fun H1 e _ q => ⟨x, cv, b, rfl, hv, h, q _ _ _ k e⟩
structure KitC (K : PySem.W.Frag) (cs : Cs) (c : Addr) (b1 b2 b3 b4 b5 : Bool) : Prop where
  e : ExcC K c
  k1 : PySem.W.kitOne K (.ref c) (.ref cs.BadRule) = some b1
  k2 : PySem.W.kitOne K (.ref c) (.ref cs.BadKey) = some b2
  k3 : PySem.W.kitOne K (.ref c) (.ref cs.BadSize) = some b3
  k4 : PySem.W.kitOne K (.ref c) (.ref cs.Full) = some b4
  k5 : PySem.W.kitOne K (.ref c) (.ref cs.TooMany) = some b5
  kv : PySem.W.kitOne K (.ref c) (.type "ValueError") = some true
structure KitW (K : PySem.W.Frag) (cs : Cs) : Prop where
  r : KitC K cs cs.BadRule true false false false false
  k : KitC K cs cs.BadKey false true false false false
  s : KitC K cs cs.BadSize false false true false false
  f : KitC K cs cs.Full false false false true false
  m : KitC K cs cs.TooMany false false false false true
theorem KitW.exc {K : PySem.W.Frag} {cs : Cs} {c : Addr} {nm : Str} (k : KitW K cs) (h : wordOf cs c nm) : ExcC K c := by
  rcases h with ⟨rfl, _⟩ | ⟨rfl, _⟩ | ⟨rfl, _⟩ | ⟨rfl, _⟩ | ⟨rfl, _⟩
  · exact k.r.e
  · exact k.k.e
  · exact k.s.e
  · exact k.f.e
  · exact k.m.e
def ExmW (K : PySem.W.Frag) (cs : Cs) : Prop := ∀ cc nm, wordOf cs cc nm → PySem.W.exmOne K (.ref cc) (.ref cs.StrewError) = some true
theorem exmW_mk {K : PySem.W.Frag} {cs : Cs} (h1 : PySem.W.exmOne K (.ref cs.BadRule) (.ref cs.StrewError) = some true) (h2 : PySem.W.exmOne K (.ref cs.BadKey) (.ref cs.StrewError) = some true) (h3 : PySem.W.exmOne K (.ref cs.BadSize) (.ref cs.StrewError) = some true)
    (h4 : PySem.W.exmOne K (.ref cs.Full) (.ref cs.StrewError) = some true) (h5 : PySem.W.exmOne K (.ref cs.TooMany) (.ref cs.StrewError) = some true) : ExmW K cs := by
  rintro c nm (⟨rfl, _⟩ | ⟨rfl, _⟩ | ⟨rfl, _⟩ | ⟨rfl, _⟩ | ⟨rfl, _⟩) <;> assumption
theorem e_hot {K : PySem.W.Frag} {σ : Sg} {H : Hp} {te : TE} {Q : PV} (k : kE te σ H fun v H1 => ∃ (a : Addr) (bs : List Bool), v = .ref a ∧ SqL K H1 a (bs.map V.bl) ∧ bs.length ≤ 1000 ∧ ∀ p, H1 p = none → Q (.ref p) (upd H1 p (.lst (bs.map fun b => V.int (b2n b))))) : kE (tHotInts K te) σ H Q := fun H1 e _ q =>
  k H1 e _ fun v H0 H2 ⟨a, bs, ev, hs, hl, hk⟩ e2 => ⟨a, bs, ev, e2.sl hs, hl, fun p hp => q _ _ _ (hk p (e2.fresh hp)) (e2.ups p _)⟩
theorem c_isHr {K : PySem.W.Frag} {D a c : Addr} {b : Bool} {H : Hp} {Q : PV} (h : PySem.W.kitOne K (.ref D) (.ref c) = some b) (k : Q (.bl b) H) : kC (rIsE K D a) [.ref a, .ref c] H Q := c_isH h (fun _ h => h) k
theorem c_isHt {K : PySem.W.Frag} {D a : Addr} {c : String} {b : Bool} {H : Hp} {Q : PV} (h : PySem.W.kitOne K (.ref D) (.type c) = some b) (k : Q (.bl b) H) : kC (rIsE K D a) [.ref a, .ty c] H Q := c_isH h (fun _ h => h) k
theorem kit_refC {K : PySem.W.Frag} {c C : Addr} {b : Bool} (hdct : PySem.W.hasDictIn K C = true) (ht : PySem.W.typeIn K (.ref C) = some (.type "type")) (hs : PySem.W.subIn K (.ref c) (.ref c) = some true) (h4 : PySem.W.subIn K (.ref c) (.ref C) = some b) : PySem.W.kitOne K (.ref c) (.ref C) = some b := by
  obtain ⟨cd, hc, _⟩ := PySem.W.any_some hdct
  have e2 : ((PySem.W.clsIn K C).isSome && PySem.W.typeIn K (.ref C) == some (.type "type")) = true := by rw [hc, ht] <;> rfl
  unfold PySem.W.kitOne
  by_cases q : (Value.ref c == Value.ref C) = true
  · have e : Value.ref c = Value.ref C := eq_of_beq q
    rw [if_pos q]
    rw [← e] at h4
    exact hs.symm.trans h4
  · rw [if_neg q]
    show (if ((PySem.W.clsIn K C).isSome && PySem.W.typeIn K (.ref C) == some (.type "type")) = true then PySem.W.subIn K (.ref c) (.ref C) else none) = some b
    rw [if_pos e2]
    exact h4
theorem kit_tyC {K : PySem.W.Frag} {c : Addr} {T : String} {b : Bool} (hm : PySem.W.kitMeta T = true) (h4 : PySem.W.subIn K (.ref c) (.type T) = some b) : PySem.W.kitOne K (.ref c) (.type T) = some b := by
  unfold PySem.W.kitOne
  rw [if_neg (by intro h; cases eq_of_beq h)]
  show (if PySem.W.kitMeta T = true then PySem.W.subIn K (.ref c) (.type T) else none) = some b
  rw [if_pos hm]
  exact h4
theorem kitC_mk {K : PySem.W.Frag} {cs : Cs} {c : Addr} {b1 b2 b3 b4 b5 : Bool} (e : ExcC K c) (d1 : PySem.W.hasDictIn K cs.BadRule = true) (d2 : PySem.W.hasDictIn K cs.BadKey = true) (d3 : PySem.W.hasDictIn K cs.BadSize = true) (d4 : PySem.W.hasDictIn K cs.Full = true) (d5 : PySem.W.hasDictIn K cs.TooMany = true)
    (t1 : PySem.W.typeIn K (.ref cs.BadRule) = some (.type "type")) (t2 : PySem.W.typeIn K (.ref cs.BadKey) = some (.type "type")) (t3 : PySem.W.typeIn K (.ref cs.BadSize) = some (.type "type")) (t4 : PySem.W.typeIn K (.ref cs.Full) = some (.type "type")) (t5 : PySem.W.typeIn K (.ref cs.TooMany) = some (.type "type"))
    (hs : PySem.W.subIn K (.ref c) (.ref c) = some true) (s1 : PySem.W.subIn K (.ref c) (.ref cs.BadRule) = some b1) (s2 : PySem.W.subIn K (.ref c) (.ref cs.BadKey) = some b2) (s3 : PySem.W.subIn K (.ref c) (.ref cs.BadSize) = some b3) (s4 : PySem.W.subIn K (.ref c) (.ref cs.Full) = some b4) (s5 : PySem.W.subIn K (.ref c) (.ref cs.TooMany) = some b5)
    (sv : PySem.W.subIn K (.ref c) (.type "ValueError") = some true) : KitC K cs c b1 b2 b3 b4 b5 :=
  ⟨e, kit_refC d1 t1 hs s1, kit_refC d2 t2 hs s2, kit_refC d3 t3 hs s3, kit_refC d4 t4 hs s4, kit_refC d5 t5 hs s5, kit_tyC (by decide +kernel) sv⟩
end Lg

/-! Wk: walks (for, comprehension) and the rules of lists in the logic of Lg. -/
namespace Lg
open PySem PySem.Spec PyProof.Rows L2
abbrev Yk := Nat → Hp → (V → Hp → Prop) → Prop
/-- a walk of n turns while G stands; y tells what a turn gives, known heap by known heap -/
structure WalkK (J : It) (n : Nat) (G : Hp → Prop) (y : Yk) : Prop where
  up : ∀ H H', Ex H H' → G H → G H'
  goes : ∀ i H, i < n → G H → J.go i H
  stops : ∀ H, G H → J.stop n H
  mo : ∀ i H (A B : V → Hp → Prop), (∀ v h, A v h → B v h) → y i H A → y i H B
  yields : ∀ i H H' x H'', i < n → G H' → Ex H H' → J.yld i H' x H'' → ∀ Q, y i H Q → ∃ H0, Q x H0 ∧ Ex H0 H''
def yAt (xs : List V) : Yk := fun i H Q => ∀ x, xs[i]? = some x → Q x H
def yFn (f : Nat → V) : Yk := fun i H Q => Q (f i) H
def yPair (f g : Nat → Option V) : Yk := fun i H Q => ∀ T x z, H T = none → f i = some x → g i = some z → Q (.ref T) (upd H T (.tup [x, z]))
theorem WalkK.ofAt {J : It} {n : Nat} {G : Hp → Prop} {xs : List V} (w : Walk J n G (YAt xs)) (up : ∀ H H', Ex H H' → G H → G H') : WalkK J n G (yAt xs) :=
  ⟨up, w.goes, w.stops, fun i H A B ab h x hx => ab _ _ (h x hx), fun i H H' x H'' hi g e y Q q => by
    obtain ⟨e1, e2⟩ := w.yields i H' x H'' hi g y
    subst e1
    exact ⟨H, q x e2, e⟩⟩
theorem WalkK.ofFn {J : It} {n : Nat} {G : Hp → Prop} {f : Nat → V} (w : Walk J n G (YFn f)) (up : ∀ H H', Ex H H' → G H → G H') : WalkK J n G (yFn f) :=
  ⟨up, w.goes, w.stops, fun i H A B ab h => ab _ _ h, fun i H H' x H'' hi g e y Q q => by
    obtain ⟨e1, e2⟩ := w.yields i H' x H'' hi g y
    subst e1 e2
    exact ⟨H, q, e⟩⟩
theorem WalkK.ofPair {J : It} {n : Nat} {G : Hp → Prop} {f g : Nat → Option V} (w : Walk J n G (YPair f g)) (up : ∀ H H', Ex H H' → G H → G H') : WalkK J n G (yPair f g) :=
  ⟨up, w.goes, w.stops, fun i H A B ab h T x z h1 h2 h3 => ab _ _ (h T x z h1 h2 h3), fun i H H' x H'' hi gg e y Q q => by
    obtain ⟨T, a, b, e1, e2, e3, e4, e5⟩ := w.yields i H' x H'' hi gg y
    subst e1 e3
    exact ⟨_, q T a b (e.fresh e2) e4 e5, e.ups T _⟩⟩
abbrev PI' := Nat → (Hp → Prop) → Yk → Hp → Prop
def kI (wi : TI) (σ : Sg) (H : Hp) (Q : PI') : Prop := ∀ H1, Ex H H1 → ∀ R : It → Hp → Prop, (∀ J n G y H0 H2, WalkK J n G y → Q n G y H0 → Ex H0 H2 → R J H2) → wi σ H1 R
variable {K : PySem.W.Frag} {σ σ' : Sg} {H H' : Hp} {ta tb tc te : TE} {tt tu : TT} {t u : TA} {Q : PV} {QB : Bool → Hp → Prop} {QA : List V → Hp → Prop} {N B C : PS'} {R : PV} {ts us : TS} {x y v : V} {i j : Int} {g : TG} {wi : TI}
theorem i_rng1 {QI : PI'} (k : kA t σ H fun vs H1 => ∃ n : Nat, vs = [.int (n : Int)] ∧ n < 2 ^ 61 ∧ QI n (fun _ => True) (yFn fun i => .int (i : Nat)) H1) : kI (iRng1 t) σ H QI := fun H1 e R r => k H1 e _ fun vs H0 H2 ⟨n, ev, hl, q⟩ e2 => by
  subst ev
  refine ⟨(n : Int), rfl, by omega, by omega, ?_⟩
  have e0 : (n : Int).toNat = n := by omega
  rw [e0]
  refine r _ n _ _ H0 H2 (.ofFn (walk_range.mono (fun _ h => h) ?_) (fun _ _ _ h => h)) q e2
  rintro i H x H' _ _ ⟨a, b⟩
  refine ⟨a, ?_⟩
  rw [b]
  show V.int (0 + (i : Int)) = .int (i : Nat)
  rw [Int.zero_add]
theorem i_rng2 {QI : PI'} (k : kA t σ H fun vs H1 => ∃ (a b : Int) (n : Nat), vs = [.int a, .int b] ∧ (-(2 ^ 62) ≤ a ∧ a < 2 ^ 62 ∧ -(2 ^ 62) ≤ b ∧ b < 2 ^ 62) ∧ (b - a).toNat = n ∧ QI n (fun _ => True) (yFn fun i => .int (a + (i : Nat))) H1) : kI (iRng2 t) σ H QI := fun H1 e R r => k H1 e _ fun vs H0 H2 ⟨a, b, n, ev, hl, en, q⟩ e2 => by
  subst ev en
  exact ⟨a, b, rfl, hl, r _ _ _ _ H0 H2 (.ofFn walk_range (fun _ _ _ h => h)) q e2⟩
theorem i_list {QI : PI'} (k : kE te σ H fun v H1 => ∃ a xs, v = .ref a ∧ SqL K H1 a xs ∧ QI xs.length (fun H => SqL K H a xs) (yAt xs) H1) : kI (iList K te) σ H QI := fun H1 e R r => k H1 e _ fun v H0 H2 ⟨a, xs, ev, hs, q⟩ e2 =>
  ⟨a, ev, ⟨xs, e2.sl hs⟩, r _ _ _ _ H0 H2 (.ofAt walk_list (fun _ _ e h => e.sl h)) q e2⟩
theorem i_tup {QI : PI'} (k : kE te σ H fun v H1 => ∃ a xs, v = .ref a ∧ SqT K H1 a xs ∧ QI xs.length (fun H => SqT K H a xs) (yAt xs) H1) : kI (iTup K te) σ H QI := fun H1 e R r => k H1 e _ fun v H0 H2 ⟨a, xs, ev, hs, q⟩ e2 =>
  ⟨a, ev, ⟨xs, e2.st hs⟩, r _ _ _ _ H0 H2 (.ofAt walk_tup (fun _ _ e h => e.st h)) q e2⟩
theorem i_enum {QI : PI'} (k : kA t σ H fun vs H1 => ∃ a xs, vs = [.ref a] ∧ SqL K H1 a xs ∧ QI xs.length (fun H => SqL K H a xs) (yPair (fun i => some (.int (i : Nat))) (fun i => xs[i]?)) H1) : kI (iEnum K t) σ H QI := fun H1 e R r => k H1 e _ fun v H0 H2 ⟨a, xs, ev, hs, q⟩ e2 =>
  ⟨a, xs, ev, e2.sl hs, r _ _ _ _ H0 H2 (.ofPair walk_enum (fun _ _ e h => e.sl h)) q e2⟩
theorem i_zip {QI : PI'} (k : kA t σ H fun vs H1 => ∃ a b xs ys, vs = [.ref a, .ref b] ∧ SqL K H1 a xs ∧ SqL K H1 b ys ∧ QI (min xs.length ys.length) (fun H => SqL K H a xs ∧ SqL K H b ys) (yPair (fun i => xs[i]?) (fun i => ys[i]?)) H1) : kI (iZip K t) σ H QI := fun H1 e R r => k H1 e _ fun v H0 H2 ⟨a, b, xs, ys, ev, hs, hz, q⟩ e2 =>
  ⟨a, b, xs, ys, ev, e2.sl hs, e2.sl hz, r _ _ _ _ H0 H2 (.ofPair (walk_zip rfl) (fun _ _ e h => ⟨e.sl h.1, e.sl h.2⟩)) q e2⟩
/-- for g in iter -/
theorem s_for (k : kI wi σ H fun n G y H1 => ∃ W : Nat → PS', W 0 σ H1 ∧ (∀ i s H, i ≤ n → W i s H → G H) ∧ (∀ i s H, i < n → W i s H → y i H fun x H2 => kG g x s H2 fun s' H3 => kS ts (nxt W (i + 1)) R N (nxt W (i + 1)) s' H3) ∧ ∀ s H, W n s H → N s H) :
    kS (tFor wi g ts) N R B C σ H := fun H1 e D hn hr hb hc => k H1 e _ fun J n G y H0 H2 w ⟨W, w0, hG, hs, hd⟩ e2 => by
  refine ⟨fun i m s H => m = n - i ∧ i ≤ n ∧ nxt W i s H, ⟨n, by simp, Nat.zero_le _, H0, w0, e2⟩, ?_⟩
  rintro i m s H3 ⟨rfl, hi, H4, w4, e4⟩
  have q := w.up _ _ e4 (hG i s H4 hi w4)
  by_cases hlt : i < n
  · refine .inr ⟨w.goes i H3 hlt q, nxt W (i + 1), fun s' H' p' => ⟨n - (i + 1), by omega, rfl, hlt, p'⟩, fun x H' yl => ?_⟩
    obtain ⟨H5, hg, e5⟩ := w.yields i H4 H3 x H' hlt q e4 yl _ (hs i s H4 hlt w4)
    exact hg H' e5 _ fun s' H6 H7 q6 e7 => q6 H7 e7 _ nxt_up hr hn nxt_up
  · have ei : i = n := by omega
    subst ei
    exact .inl ⟨w.stops H3 q, hn _ _ _ (hd s H4 w4) e4⟩
/-- [te for g in iter if tt]: W tells the heap with the new list at D -/
theorem e_lc {vs : List Nat} (k : kI wi σ H fun n G y H1 => ∀ D, H1 D = none → ∃ W : Nat → Hp → Prop, W 0 (upd H1 D (.lst [])) ∧ (∀ i H, i ≤ n → W i H → G H) ∧
      (∀ i H, i < n → W i H → y i H fun x H2 => kG g x (wipe σ vs) H2 fun s' H3 => wipe s' vs = wipe σ vs ∧ kT tt s' H3 fun b H4 => (b = true → kE te s' H4 fun z H5 => ∃ acc H6, H5 D = some (.lst acc) ∧ acc.length < sizeLine ∧ W (i + 1) H6 ∧ Ex H6 (upd H5 D (.lst (acc ++ [z])))) ∧
        (b = false → ∃ H6, W (i + 1) H6 ∧ Ex H6 H4)) ∧ ∀ H, W n H → Q (.ref D) H) : kE (tLc wi g tt te vs) σ H Q := fun H1 e Q1 q1 => k H1 e _ fun J n G y H0 H2 w kk e2 => by
  intro D hD
  obtain ⟨W, w0, hG, hs, hd⟩ := kk D (e2.fresh hD)
  refine ⟨fun i m H => m = n - i ∧ i ≤ n ∧ ∃ H0, W i H0 ∧ Ex H0 H, ⟨n, by simp, Nat.zero_le _, _, w0, e2.ups D _⟩, ?_⟩
  rintro i m H3 ⟨rfl, hi, H4, w4, e4⟩
  have q := w.up _ _ e4 (hG i H4 hi w4)
  by_cases hlt : i < n
  · refine .inr ⟨w.goes i H3 hlt q, fun H' => ∃ H0, W (i + 1) H0 ∧ Ex H0 H', fun H' p' => ⟨n - (i + 1), by omega, rfl, hlt, p'⟩, fun x H' yl => ?_⟩
    obtain ⟨H5, hg, e5⟩ := w.yields i H4 H3 x H' hlt q e4 yl _ (hs i H4 hlt w4)
    refine hg H' e5 _ fun s' H6 H7 ⟨ew, q6⟩ e7 => ⟨ew, q6 H7 e7 _ fun b H8 H9 q8 e9 => ?_⟩
    cases b with
    | true =>
      show te s' H9 _
      refine q8.1 rfl H9 e9 _ fun z H10 H11 ⟨acc, H12, h1, h2, h3, h4⟩ e11 => ⟨acc, e11 _ _ h1, h2, H12, h3, h4.tr (e11.ups D _)⟩
    | false =>
      show ∃ H0, W (i + 1) H0 ∧ Ex H0 H9
      obtain ⟨H10, h1, h2⟩ := q8.2 rfl
      exact ⟨H10, h1, h2.tr e9⟩
  · have ei : i = n := by omega
    subst ei
    exact .inl ⟨w.stops H3 q, q1 _ _ _ (hd H4 w4) e4⟩
/-- the same, what a turn gives known by its number alone -/
theorem e_lcF {vs : List Nat} (k : kI wi σ H fun n G y H1 => G H1 ∧ n ≤ 100000 ∧ ∃ f : Nat → Option V,
      (∀ D acc i, H1 D = none → i < n → y i (upd H1 D (.lst acc)) fun x H2 => kG g x (wipe σ vs) H2 fun s' H3 => wipe s' vs = wipe σ vs ∧ kT tt s' H3 fun b H4 => (b = true → kE te s' H4 fun z H5 => f i = some z ∧ Ex (upd H1 D (.lst acc)) H5) ∧
        (b = false → f i = none ∧ Ex (upd H1 D (.lst acc)) H4)) ∧ ∀ D, H1 D = none → Q (.ref D) (upd H1 D (.lst ((List.range n).filterMap f)))) : kE (tLc wi g tt te vs) σ H Q := e_lc fun H2 e R r => k H2 e R fun J n G y H0 H3 w ⟨hG, hn, f, hs, hd⟩ e3 => r J n G y H0 H3 w (fun D hD => by
    refine ⟨fun i H => H = upd H0 D (.lst ((List.range i).filterMap f)), rfl, fun i H _ e => ?_, fun i H hi e => ?_, fun H e => ?_⟩
    · subst e
      exact w.up _ _ (Ex.news hD) hG
    · subst e
      have hl : ((List.range i).filterMap f).length < sizeLine := Nat.lt_of_le_of_lt (List.length_filterMap_le _ _) (by rw [List.length_range]; exact Nat.lt_of_lt_of_le (Nat.lt_of_lt_of_le hi hn) (by decide))
      have z := hs D ((List.range i).filterMap f) i hD hi
      · refine w.mo _ _ _ _ (fun v h a => ?_) z
        refine fun H4 e4 Q4 q4 => a H4 e4 Q4 fun s' H5 H6 ⟨e5, t5⟩ e6 => q4 s' H5 H6 ⟨e5, fun H7 e7 Q7 q7 => t5 H7 e7 Q7 fun b H8 H9 ⟨b1, b2⟩ e9 => q7 b H8 H9 ⟨fun hb H10 e10 Q10 q10 => b1 hb H10 e10 Q10 fun v' H11 H12 ⟨f1, f2⟩ e12 => q10 v' H11 H12 ⟨_, _, f2 _ _ upd_same, hl, rfl, ?_⟩ e12, fun hb => ⟨_, rfl, ?_⟩⟩ e9⟩ e6
        · rw [List.range_succ, List.filterMap_append]
          simp only [List.filterMap_cons, List.filterMap_nil, f1]
          intro a o ha
          by_cases hq : a = D
          · subst hq
            rw [upd_same] at ha ⊢
            exact ha
          · rw [upd_ne hq] at ha ⊢
            exact f2 a o (by rw [upd_ne hq]; exact ha)
        · obtain ⟨f1, f2⟩ := b2 hb
          rw [List.range_succ, List.filterMap_append]
          simp only [List.filterMap_cons, List.filterMap_nil, f1, List.append_nil]
          exact f2
    · subst e
      exact hd D hD) e3
theorem filterMap_take {zs : List V} : ∀ n, n ≤ zs.length → (List.range n).filterMap (fun i => zs[i]?) = zs.take n
  | 0, _ => by simp
  | n + 1, h => by
    have hn : n < zs.length := h
    rw [List.range_succ, List.filterMap_append, filterMap_take n (Nat.le_of_lt h), List.take_succ, List.getElem?_eq_getElem hn]
    simp [hn]
theorem filterMap_get {zs : List V} {n : Nat} (h : zs.length = n) : (List.range n).filterMap (fun i => zs[i]?) = zs := by
  subst h
  rw [filterMap_take _ (Nat.le_refl _), List.take_length]
/-- the same, to a list that is told -/
theorem e_lcZ {vs : List Nat} (k : kI wi σ H fun n G y H1 => G H1 ∧ n ≤ 100000 ∧ ∃ zs : List V, zs.length = n ∧
      (∀ D acc i, H1 D = none → i < n → y i (upd H1 D (.lst acc)) fun x H2 => kG g x (wipe σ vs) H2 fun s' H3 => wipe s' vs = wipe σ vs ∧ kT tt s' H3 fun b H4 => b = true ∧ kE te s' H4 fun z H5 => zs[i]? = some z ∧ Ex (upd H1 D (.lst acc)) H5) ∧
      ∀ D, H1 D = none → Q (.ref D) (upd H1 D (.lst zs))) : kE (tLc wi g tt te vs) σ H Q := e_lcF fun H2 e R r => k H2 e R fun J n G y H0 H3 w ⟨hG, hn, zs, hz, hs, hd⟩ e3 => r J n G y H0 H3 w ⟨hG, hn, fun i => zs[i]?, fun D acc i hD hi => by
    refine w.mo _ _ _ _ (fun v h a => ?_) (hs D acc i hD hi)
    exact fun H4 e4 Q4 q4 => a H4 e4 Q4 fun s' H5 H6 ⟨e5, t5⟩ e6 => q4 s' H5 H6 ⟨e5, fun H7 e7 Q7 q7 => t5 H7 e7 Q7 fun b H8 H9 ⟨b1, b2⟩ e9 => q7 b H8 H9 ⟨fun _ => b2, fun hb => by rw [b1] at hb; cases hb⟩ e9⟩ e6, fun D hD => by
    rw [filterMap_get hz]
    exact hd D hD⟩ e3
theorem t_yes {QB : Bool → Hp → Prop} (k : QB true H) : kT tYes σ H QB := fun H1 e _ q => q _ _ _ k e
/-! ### lists -/
def rInt1 : List V → Hp → VK → Prop := fun xs H Q => (∃ i, xs = [.int i] ∧ Q (.int i) H) ∨ ∃ k, xs = [.bl k] ∧ Q (.int (if k then 1 else 0)) H
def rListOf (K : PySem.W.Frag) : List V → Hp → VK → Prop := fun xs H Q => ∃ p ys, xs = [.ref p] ∧ (SqL K H p ys ∨ SqT K H p ys) ∧ ∀ l, H l = none → Q (.ref l) (upd H l (.lst ys))
def rTupOf (K : PySem.W.Frag) : List V → Hp → VK → Prop := fun xs H Q => ∃ p ys, xs = [.ref p] ∧ ((SqL K H p ys ∧ ∀ l, H l = none → Q (.ref l) (upd H l (.tup ys))) ∨ (SqT K H p ys ∧ Q (.ref p) H))
theorem c_int1 (k : Q (.int i) H) : kC rInt1 [.int i] H Q := fun H1 e _ q => .inl ⟨i, rfl, q _ _ _ k e⟩
theorem c_intB {b : Bool} (k : Q (.int (if b then 1 else 0)) H) : kC rInt1 [.bl b] H Q := fun H1 e _ q => .inr ⟨b, rfl, q _ _ _ k e⟩
theorem c_listL {p : Addr} {ys : List V} (h : SqL K H p ys) (k : ∀ l, H l = none → Q (.ref l) (upd H l (.lst ys))) : kC (rListOf K) [.ref p] H Q := fun H1 e _ q => ⟨p, ys, rfl, .inl (e.sl h), fun l hl => q _ _ _ (k l (e.fresh hl)) (e.ups l _)⟩
theorem c_listT {p : Addr} {ys : List V} (h : SqT K H p ys) (k : ∀ l, H l = none → Q (.ref l) (upd H l (.lst ys))) : kC (rListOf K) [.ref p] H Q := fun H1 e _ q => ⟨p, ys, rfl, .inr (e.st h), fun l hl => q _ _ _ (k l (e.fresh hl)) (e.ups l _)⟩
theorem c_tupL {p : Addr} {ys : List V} (h : SqL K H p ys) (k : ∀ l, H l = none → Q (.ref l) (upd H l (.tup ys))) : kC (rTupOf K) [.ref p] H Q := fun H1 e _ q => ⟨p, ys, rfl, .inl ⟨e.sl h, fun l hl => q _ _ _ (k l (e.fresh hl)) (e.ups l _)⟩⟩
theorem c_all {p : Addr} {bs : List Bool} (h : SqL K H p (bs.map V.bl)) (k : Q (.bl (bs.all id)) H) : kC (rAll K) [.ref p] H Q := fun H1 e _ q => ⟨p, bs, rfl, e.sl h, q _ _ _ k e⟩
theorem c_sum {p : Addr} {ns : List Int} (h : SqL K H p (ns.map V.int)) (k : Q (.int ns.sum) H) : kC (rSum K) [.ref p] H Q := fun H1 e _ q => ⟨p, ns, rfl, e.sl h, q _ _ _ k e⟩
theorem c_maxL {p : Addr} {ns : List Int} (h : SqL K H p (ns.map V.int)) (h0 : 0 < ns.length) (k : ∀ m, m ∈ ns → (∀ y, y ∈ ns → y ≤ m) → Q (.int m) H) : kC (rMax K) [.ref p] H Q := fun H1 e _ q => ⟨p, ns, rfl, e.sl h, h0, fun m hm hy => q _ _ _ (k m hm hy) e⟩
theorem c_sorted {p : Addr} {ns : List Int} (h : SqL K H p (ns.map V.int)) (k : ∀ (ns' : List Int) (l : Addr), ns'.Perm ns → ns'.Pairwise (· ≤ ·) → H l = none → Q (.ref l) (upd H l (.lst (ns'.map V.int)))) : kC (rSortedI K) [.ref p] H Q := fun H1 e _ q =>
  ⟨p, ns, rfl, e.sl h, fun ns' l h1 h2 hl => q _ _ _ (k ns' l h1 h2 (e.fresh hl)) (e.ups l _)⟩
theorem r_inT {p : Addr} {xs : List V} (h : SqT K H p xs) (f1 : flatV x = true) (f2 : xs.all flatV = true) (k : Q (.bl (inV x xs)) H) : kR (rIn K false) x (.ref p) H Q := fun H1 e _ q => ⟨p, xs, rfl, .inr (e.st h), f1, f2, q _ _ _ k e⟩
theorem r_ninT {p : Addr} {xs : List V} (h : SqT K H p xs) (f1 : flatV x = true) (f2 : xs.all flatV = true) (k : Q (.bl (!inV x xs)) H) : kR (rIn K true) x (.ref p) H Q := fun H1 e _ q => ⟨p, xs, rfl, .inr (e.st h), f1, f2, q _ _ _ k e⟩
theorem r_inL {p : Addr} {xs : List V} (h : SqL K H p xs) (f1 : flatV x = true) (f2 : xs.all flatV = true) (k : Q (.bl (inV x xs)) H) : kR (rIn K false) x (.ref p) H Q := fun H1 e _ q => ⟨p, xs, rfl, .inl (e.sl h), f1, f2, q _ _ _ k e⟩
theorem r_cat {a b : Addr} {xs zs : List V} (h1 : H a = some (.lst xs)) (h2 : H b = some (.lst zs)) (hz : xs.length + zs.length ≤ sizeLine) (k : ∀ p, H p = none → Q (.ref p) (upd H p (.lst (xs ++ zs)))) : kR rCat (.ref a) (.ref b) H Q := fun H1 e _ q =>
  ⟨a, b, xs, zs, rfl, rfl, e _ _ h1, e _ _ h2, hz, fun p hp => q _ _ _ (k p (e.fresh hp)) (e.ups p _)⟩
theorem r_rep {a : Addr} {xs : List V} {n : Int} (h1 : H a = some (.lst xs)) (hn : -(2 ^ 63) ≤ n ∧ n < 2 ^ 63) (hz : xs.length * n.toNat ≤ sizeLine) (k : ∀ p, H p = none → Q (.ref p) (upd H p (.lst (List.replicate n.toNat xs).flatten))) : kR rRep (.ref a) (.int n) H Q := fun H1 e _ q =>
  ⟨a, n, xs, rfl, rfl, e _ _ h1, hn.1, hn.2, hz, fun p hp => q _ _ _ (k p (e.fresh hp)) (e.ups p _)⟩
theorem r_rep1 {a : Addr} {x : V} {n : Nat} (h1 : H a = some (.lst [x])) (hn : n ≤ 100000) (k : ∀ p, H p = none → Q (.ref p) (upd H p (.lst (List.replicate n x)))) : kR rRep (.ref a) (.int (n : Int)) H Q := by
  refine r_rep h1 ⟨by omega, by omega⟩ ?_ fun p hp => ?_
  · have e : ((n : Nat) : Int).toNat = n := by omega
    rw [e, List.length_singleton]
    exact Nat.le_trans (by omega) (Nat.le_trans hn (by decide))
  · have e : ((n : Nat) : Int).toNat = n := by omega
    rw [e, List.flatten_replicate_singleton]
    exact k p hp
theorem r_repT {a : Addr} {xs : List V} {n : Int} (h1 : SqT K H a xs) (h0 : xs ≠ []) (hn : 2 ≤ n ∧ n ≤ 1000) (hz : xs.length ≤ 1000) (k : ∀ p, H p = none → Q (.ref p) (upd H p (.tup (List.replicate n.toNat xs).flatten))) : kR (rRepT K) (.ref a) (.int n) H Q := fun H1 e _ q =>
  ⟨a, n, xs, rfl, rfl, e.st h1, h0, hn.1, hn.2, hz, fun p hp => q _ _ _ (k p (e.fresh hp)) (e.ups p _)⟩
theorem e_bm {r : V → List V → Hp → VK → Prop} (k : kE ta σ H fun x H1 => ∃ p xs, x = .ref p ∧ SqL K H1 p xs ∧ kA t σ H1 fun vs H2 => kM r x vs H2 Q) : kE (tBM K "list" r ta t) σ H Q := fun H1 e Q1 q => k H1 e _ fun x H0 H2 ⟨p, xs, ex, hs, hk⟩ e2 => by
  subst ex
  exact ⟨.inl ⟨rfl, xs, e2.sl hs⟩, hk H2 e2 _ fun vs H3 H4 hm e4 => hm H4 e4 _ q⟩
theorem m_append {l : Addr} {xs : List V} (h : H l = some (.lst xs)) (hz : xs.length ≤ 100000) (k : Q .non (upd H l (.lst (xs ++ [y])))) : kM rAppend (.ref l) [y] H Q := fun H1 e _ q => ⟨l, xs, y, rfl, rfl, e _ _ h, Nat.lt_of_le_of_lt hz (by decide), q _ _ _ k (e.ups l _)⟩
theorem m_extend {l b : Addr} {xs zs : List V} (h : H l = some (.lst xs)) (hb : H b = some (.lst zs)) (hz : xs.length + zs.length ≤ 100000) (k : Q .non (upd H l (.lst (xs ++ zs)))) : kM rExtend (.ref l) [.ref b] H Q := fun H1 e _ q => ⟨l, b, xs, zs, rfl, rfl, e _ _ h, e _ _ hb, Nat.le_trans hz (by decide), q _ _ _ k (e.ups l _)⟩
theorem m_index {l : Addr} {ys : List V} {j : Nat} {z : V} (h : SqL K H l ys) (f1 : flatV y = true) (f2 : ys.all flatV = true) (hj : ys[j]? = some z) (he : eqV z y = true) (hf : ∀ (m : Nat) (z' : V), m < j → ys[m]? = some z' → eqV z' y = false) (k : Q (.int (j : Nat)) H) :
    kM (rIndex K) (.ref l) [y] H Q := fun H1 e _ q => ⟨l, ys, y, j, z, rfl, rfl, e.sl h, f1, f2, hj, he, hf, q _ _ _ k e⟩
theorem g_subL {to ti : TE} {QS : PS'} (k : kE to σ H fun o H1 => kE ti σ H1 fun i H2 => ∃ p xs n j, o = .ref p ∧ i = .int n ∧ H2 p = some (.lst xs) ∧ ixN xs.length n = some j ∧ QS σ (upd H2 p (.lst (xs.set j v)))) : kG (gSub to ti rSetL) v σ H QS := fun H1 e _ q =>
  k H1 e _ fun o H0 H2 hk e2 => hk H2 e2 _ fun i H3 H4 ⟨p, xs, n, j, h1, h2, h3, h4, h5⟩ e4 => ⟨p, xs, n, j, h1, h2, e4 _ _ h3, h4, q _ _ _ h5 (e4.ups p _)⟩
theorem o_no {QO : Option Int → Hp → Prop} (k : QO none H) : kO tNoPart σ H QO := fun H1 e _ q => q _ _ _ k e
theorem o_part {QO : Option Int → Hp → Prop} (k : kE te σ H fun v H1 => ∃ i, v = .int i ∧ QO (some i) H1) : kO (tPart te) σ H QO := fun H1 e _ q => k H1 e _ fun v H0 H2 ⟨i, ei, h⟩ e2 => ⟨i, ei, q _ _ _ h e2⟩
theorem e_slL {tl th : TO} (k : kE te σ H fun x H1 => kO tl σ H1 fun lo H2 => kO th σ H2 fun hi H3 => ∃ a xs, x = .ref a ∧ SqL K H3 a xs ∧ ∀ p, H3 p = none → Q (.ref p) (upd H3 p (.lst (cutV xs lo hi)))) : kE (tSl (rSlL K) te tl th) σ H Q := fun H1 e _ q =>
  k H1 e _ fun x H0 H2 h e2 => h H2 e2 _ fun lo H3 H4 h e4 => h H4 e4 _ fun hi H5 H6 ⟨a, xs, ex, hs, hk⟩ e6 => ⟨a, xs, ex, e6.sl hs, fun p hp => q _ _ _ (hk p (e6.fresh hp)) (e6.ups p _)⟩
theorem s_retN (k : R .non H) : kS tRetN N R B C σ H := fun H1 e D _ hr _ _ => hr _ _ _ k e
theorem bF {b : Bool} {A B : Prop} (h : b = false) (k : B) : (b = true → A) ∧ (b = false → B) := ⟨fun z => (by rw [h] at z; cases z), fun _ => k⟩
theorem bT {b : Bool} {A B : Prop} (h : b = true) (k : A) : (b = true → A) ∧ (b = false → B) := ⟨fun _ => k, fun z => (by rw [h] at z; cases z)⟩
theorem dec2' {p : Prop} [Decidable p] {A B : Prop} (h1 : p → A) (h2 : ¬ p → B) : ((!decide p) = false → A) ∧ ((!decide p) = true → B) := ⟨fun h => h1 (by simpa using h), fun h => h2 (by simpa using h)⟩
theorem r_p16 (k : Q (.int 65536) H) : kR (rI CPow fun i j => .int (i ^ j.toNat)) (.int 2) (.int 16) H Q := r_I ⟨by decide, by decide, by decide⟩ (by rw [show (2 : Int) ^ (16 : Int).toNat = 65536 from by decide]; exact k)
theorem r_p20 (k : Q (.int 1048576) H) : kR (rI CPow fun i j => .int (i ^ j.toNat)) (.int 2) (.int 20) H Q := r_I ⟨by decide, by decide, by decide⟩ (by rw [show (2 : Int) ^ (20 : Int).toNat = 1048576 from by decide]; exact k)
theorem r_p24 (k : Q (.int 16777216) H) : kR (rI CPow fun i j => .int (i ^ j.toNat)) (.int 2) (.int 24) H Q := r_I ⟨by decide, by decide, by decide⟩ (by rw [show (2 : Int) ^ (24 : Int).toNat = 16777216 from by decide]; exact k)
theorem r_p30 (k : Q (.int 1073741824) H) : kR (rI CPow fun i j => .int (i ^ j.toNat)) (.int 2) (.int 30) H Q := r_I ⟨by decide, by decide, by decide⟩ (by rw [show (2 : Int) ^ (30 : Int).toNat = 1073741824 from by decide]; exact k)
theorem r_p40 (k : Q (.int 1099511627776) H) : kR (rI CPow fun i j => .int (i ^ j.toNat)) (.int 2) (.int 40) H Q := r_I ⟨by decide, by decide, by decide⟩ (by rw [show (2 : Int) ^ (40 : Int).toNat = 1099511627776 from by decide]; exact k)
theorem r_p46 (k : Q (.int 70368744177664) H) : kR (rI CPow fun i j => .int (i ^ j.toNat)) (.int 2) (.int 46) H Q := r_I ⟨by decide, by decide, by decide⟩ (by rw [show (2 : Int) ^ (46 : Int).toNat = 70368744177664 from by decide]; exact k)
theorem r_p50 (k : Q (.int 1125899906842624) H) : kR (rI CPow fun i j => .int (i ^ j.toNat)) (.int 2) (.int 50) H Q := r_I ⟨by decide, by decide, by decide⟩ (by rw [show (2 : Int) ^ (50 : Int).toNat = 1125899906842624 from by decide]; exact k)
theorem kS_gen (P : Hp → Prop) (h : P H) (k : ∀ H', P H' → kS ts N R B C σ H') : kS ts N R B C σ H := k H h
theorem r_repT1 {a : Addr} {x : V} {n : Nat} (h1 : SqT K H a [x]) (hn : 2 ≤ n ∧ n ≤ 1000) (k : ∀ p, H p = none → Q (.ref p) (upd H p (.tup (List.replicate n x)))) : kR (rRepT K) (.ref a) (.int (n : Int)) H Q := by
  refine r_repT h1 (by simp) (by omega) (by simp) fun p hp => ?_
  have e : ((n : Nat) : Int).toNat = n := by omega
  rw [e, List.flatten_replicate_singleton]
  exact k p hp
theorem dp_strs : ∀ zs : List Str, DpAll K H (zs.map V.str) (zs.map PyData.str)
  | [] => .nil
  | z :: zs => .cons (.str z) (dp_strs zs)
theorem eqv_strs : ∀ zs ws : List Str, PyData.eqv (.list (zs.map PyData.str)) (.list (ws.map PyData.str)) = decide (zs = ws)
  | [], [] => by simp [PyData.eqv, PyData.eqvAll]
  | [], _ :: _ => by simp [PyData.eqv, PyData.eqvAll]
  | _ :: _, [] => by simp [PyData.eqv, PyData.eqvAll]
  | a :: r, b :: t => by
    have ih := eqv_strs r t
    simp only [PyData.eqv] at ih
    simp only [List.map_cons, PyData.eqv, PyData.eqvAll, ih]
    by_cases h : a = b <;> by_cases h' : r = t <;> simp [h, h']
theorem lay_all {ds : List PyData} (h : ∀ d ∈ ds, d.canLay0 = true ∧ d.depth ≤ 50) : PyData.canLayAll0 ds = true ∧ PyData.depthAll ds ≤ 50 := by
  induction ds with
  | nil => exact ⟨rfl, Nat.zero_le _⟩
  | cons d ds ih =>
    obtain ⟨h1, h2⟩ := h d List.mem_cons_self
    obtain ⟨i1, i2⟩ := ih fun x hx => h x (List.mem_cons_of_mem _ hx)
    simp only [PyData.canLayAll0, PyData.depthAll, Bool.and_eq_true]
    exact ⟨⟨h1, i1⟩, Nat.max_le.mpr ⟨h2, i2⟩⟩
theorem shaped_list {ds : List PyData} (h : ∀ d ∈ ds, d.canLay0 = true ∧ d.depth ≤ 50) : SeqAt.shaped (.list ds) = true := by
  obtain ⟨h1, h2⟩ := lay_all h
  have h3 : PyData.depth (.list ds) ≤ 64 := by
    unfold PyData.depth
    first | exact Nat.le_trans (Nat.succ_le_succ h2) (by decide) | exact Nat.le_trans (Nat.add_le_add_left h2 1) (by decide)
  have h4 : PyData.canLay0 (.list ds) = true := by
    unfold PyData.canLay0
    exact h1
  unfold SeqAt.shaped
  rw [h4, decide_eq_true h3]
  rfl
theorem r_neSs {p q : Addr} {zs ws : List Str} (h1 : SqL K H p (zs.map V.str)) (h2 : SqL K H q (ws.map V.str)) (s1 : SeqAt.shaped (.list (zs.map PyData.str)) = true) (s2 : SeqAt.shaped (.list (ws.map PyData.str)) = true) (k : Q (.bl (!decide (zs = ws))) H) : kR (rNeD K) (.ref p) (.ref q) H Q :=
  r_neD (.lst h1 (dp_strs zs)) (.lst h2 (dp_strs ws)) s1 s2 (eqv_strs zs ws) k
def rIsNone : R2 := fun x y H Q => y = .non ∧ Q (.bl (decide (x = .non))) H
def rNotNone : R2 := fun x y H Q => y = .non ∧ Q (.bl (!decide (x = .non))) H
theorem r_notNon (k : Q (.bl false) H) : kR rNotNone .non .non H Q := fun H1 e _ q => ⟨rfl, by
  rw [show (!decide (V.non = V.non)) = false from by simp]
  exact q _ _ _ k e⟩
theorem r_notInt (k : Q (.bl true) H) : kR rNotNone (.int i) .non H Q := fun H1 e _ q => ⟨rfl, by
  rw [show (!decide (V.int i = V.non)) = true from by simp]
  exact q _ _ _ k e⟩
theorem r_isNon (k : Q (.bl true) H) : kR rIsNone .non .non H Q := fun H1 e _ q => ⟨rfl, by
  rw [show (decide (V.non = V.non)) = true from by simp]
  exact q _ _ _ k e⟩
theorem r_isNInt (k : Q (.bl false) H) : kR rIsNone (.int i) .non H Q := fun H1 e _ q => ⟨rfl, by
  rw [show (decide (V.int i = V.non)) = false from by simp]
  exact q _ _ _ k e⟩
theorem r_catA {a b : Addr} {xs ys : List V} (h1 : H a = some (.tup xs)) (h2 : H b = some (.tup ys)) (h0 : ys ≠ []) (hz : xs.length + ys.length ≤ sizeLine) (k : ∀ (p : Addr) (H' : Hp), Ex H H' → H' p = some (.tup (xs ++ ys)) → Q (.ref p) H') : kR (rCatA K) (.ref a) (.ref b) H Q := fun H1 e _ q =>
  ⟨a, b, xs, ys, rfl, rfl, SqT.of (e _ _ h1), SqT.of (e _ _ h2), hz, fun hx => by
    subst hx
    exact q _ _ _ (k b H Ex.rf h2) e, fun _ hy => absurd hy h0, fun _ _ p hp => q _ _ _ (k p _ (Ex.news (e.fresh hp)) upd_same) (e.ups p _)⟩
end Lg

/-! Rl: things that are handed in where a rule is wanted; rules; homes. -/
namespace Lg
open PySem PySem.Spec PyProof.Rows L2
inductive Th where
  | int (i : Int) | bl (b : Bool) | non | str (z : Str) | lst | tup (xs : List Th)
mutual
inductive IsT : Hp → V → Th → Prop where
  | int {H : Hp} (i : Int) : IsT H (.int i) (.int i)
  | bl {H : Hp} (b : Bool) : IsT H (.bl b) (.bl b)
  | non {H : Hp} : IsT H .non .non
  | str {H : Hp} (z : Str) : IsT H (.str z) (.str z)
  | lst {H : Hp} {a : Addr} {vs : List V} (h : H a = some (.lst vs)) : IsT H (.ref a) .lst
  | tup {H : Hp} {a : Addr} {vs : List V} {ts : List Th} (h : H a = some (.tup vs)) (all : IsTs H vs ts) : IsT H (.ref a) (.tup ts)
inductive IsTs : Hp → List V → List Th → Prop where
  | nil {H : Hp} : IsTs H [] []
  | cons {H : Hp} {v : V} {t : Th} {vs : List V} {ts : List Th} (h : IsT H v t) (r : IsTs H vs ts) : IsTs H (v :: vs) (t :: ts)
end
mutual
theorem IsT.up {H H' : Hp} (e : Ex H H') : ∀ {v : V} {t : Th}, IsT H v t → IsT H' v t
  | _, _, .int i => .int i
  | _, _, .bl b => .bl b
  | _, _, .non => .non
  | _, _, .str z => .str z
  | _, _, .lst h => .lst (e _ _ h)
  | _, _, .tup h a => .tup (e _ _ h) (IsTs.up e a)
theorem IsTs.up {H H' : Hp} (e : Ex H H') : ∀ {vs : List V} {ts : List Th}, IsTs H vs ts → IsTs H' vs ts
  | _, _, .nil => .nil
  | _, _, .cons h r => .cons (IsT.up e h) (IsTs.up e r)
end
theorem IsTs.len {H : Hp} : ∀ {vs : List V} {ts : List Th}, IsTs H vs ts → vs.length = ts.length
  | _, _, .nil => rfl
  | _, _, .cons _ r => congrArg (· + 1) r.len
theorem IsTs.at {H : Hp} : ∀ {vs : List V} {ts : List Th}, IsTs H vs ts → ∀ {i : Nat} {v : V}, vs[i]? = some v → ∃ t, ts[i]? = some t ∧ IsT H v t
  | _, _, .nil, i, v, h => by simp at h
  | _, _, .cons (t := t) h r, 0, v, e => by
    have e' : _ = v := Option.some.inj e
    subst e'
    exact ⟨t, rfl, h⟩
  | _, _, .cons h r, i + 1, v, e => r.at (i := i) e
def thTy : Th → String
  | .int _ => "int" | .bl _ => "bool" | .non => "NoneType" | .str _ => "str" | .lst => "list" | .tup _ => "tuple"
theorem IsT.ty {K : PySem.W.Frag} {H : Hp} {v : V} {t : Th} (h : IsT H v t) : Ty5 K H v (thTy t) := by
  cases h with
  | int i => exact .int i
  | bl b => exact .bl b
  | non => exact .non
  | str z => exact .str z
  | lst h => exact .lst h
  | tup h _ => exact .tup h
def thCnt : Th → Int → Int → Bool
  | .int i, lo, hi => decide (lo ≤ i) && decide (i ≤ hi)
  | _, _, _ => false
theorem IsT.cnt {H : Hp} {v : V} {t : Th} (h : IsT H v t) (lo hi : Int) : cnt v lo hi = thCnt t lo hi := by
  cases h <;> rfl
def thNums : Th → Bool
  | .tup ts => decide (1 ≤ ts.length) && decide (ts.length ≤ 64) && ts.all fun t => thCnt t 0 999
  | _ => false
/-- what stands first is a text or a whole number -/
def thHead : Th → Bool
  | .int _ => true | .str _ => true | _ => false
def thRule : Th → Bool
  | .tup [.str z, t] => decide (z = ("told" : Str)) && thNums t
  | .tup [.str z, a, b] => if z = ("times" : Str) then thCnt a 0 999999 && thCnt b 0 999999 else if z = ("high" : Str) then thCnt a 0 999999 && thCnt b 1 30 else false
  | _ => false
/-- a tuple of two or three begins with a text or a number -/
def thOk : Th → Bool
  | .tup [h, _] => thHead h
  | .tup [h, _, _] => thHead h
  | _ => true
/-! ### rules -/
inductive Rl where
  | times (a b : Nat) | high (a b : Nat) | told (ns : List Nat)
def Rl.ok : Rl → Prop
  | .times a b => a ≤ 999999 ∧ b ≤ 999999
  | .high a b => a ≤ 999999 ∧ 1 ≤ b ∧ b ≤ 30
  | .told ns => 1 ≤ ns.length ∧ ns.length ≤ 64 ∧ ∀ n ∈ ns, n ≤ 999
def IsRl (H : Hp) (v : V) : Rl → Prop
  | .times a b => ∃ p, v = .ref p ∧ H p = some (.tup [.str "times", .int (a : Int), .int (b : Int)])
  | .high a b => ∃ p, v = .ref p ∧ H p = some (.tup [.str "high", .int (a : Int), .int (b : Int)])
  | .told ns => ∃ p q, v = .ref p ∧ H p = some (.tup [.str "told", .ref q]) ∧ H q = some (.tup (ns.map fun n : Nat => V.int (n : Int)))
theorem IsRl.up {H H' : Hp} (e : Ex H H') {v : V} : ∀ {r : Rl}, IsRl H v r → IsRl H' v r
  | .times _ _, ⟨p, h1, h2⟩ => ⟨p, h1, e _ _ h2⟩
  | .high _ _, ⟨p, h1, h2⟩ => ⟨p, h1, e _ _ h2⟩
  | .told _, ⟨p, q, h1, h2, h3⟩ => ⟨p, q, h1, e _ _ h2, e _ _ h3⟩
def Rl.th : Rl → Th
  | .times a b => .tup [.str "times", .int a, .int b]
  | .high a b => .tup [.str "high", .int a, .int b]
  | .told ns => .tup [.str "told", .tup (ns.map fun n : Nat => Th.int (n : Int))]
theorem isTs_nums {H : Hp} : ∀ ns : List Nat, IsTs H (ns.map fun n : Nat => V.int (n : Int)) (ns.map fun n : Nat => Th.int (n : Int))
  | [] => .nil
  | n :: ns => .cons (.int _) (isTs_nums ns)
theorem IsRl.th {H : Hp} {v : V} : ∀ {r : Rl}, IsRl H v r → IsT H v r.th
  | .times a b, ⟨p, h1, h2⟩ => by
    subst h1
    exact .tup h2 (.cons (.str _) (.cons (.int _) (.cons (.int _) .nil)))
  | .high a b, ⟨p, h1, h2⟩ => by
    subst h1
    exact .tup h2 (.cons (.str _) (.cons (.int _) (.cons (.int _) .nil)))
  | .told ns, ⟨p, q, h1, h2, h3⟩ => by
    subst h1
    exact .tup h2 (.cons (.str _) (.cons (.tup h3 (isTs_nums ns)) .nil))
theorem thCnt_nat {n lo hi : Nat} (h : lo ≤ n) (h2 : n ≤ hi) : thCnt (.int (n : Int)) (lo : Int) (hi : Int) = true := by
  simp only [thCnt, Bool.and_eq_true, decide_eq_true_eq]
  omega
theorem Rl.ok_th : ∀ {r : Rl}, r.ok → thRule r.th = true ∧ thOk r.th = true
  | .times a b, h => by
    refine ⟨?_, rfl⟩
    have h1 := thCnt_nat (lo := 0) (hi := 999999) (Nat.zero_le a) h.1
    have h2 := thCnt_nat (lo := 0) (hi := 999999) (Nat.zero_le b) h.2
    simp only [Rl.th, thRule, if_pos]
    rw [Bool.and_eq_true]
    exact ⟨h1, h2⟩
  | .high a b, h => by
    refine ⟨?_, rfl⟩
    have h1 := thCnt_nat (lo := 0) (hi := 999999) (Nat.zero_le a) h.1
    have h2 := thCnt_nat (lo := 1) (hi := 30) h.2.1 h.2.2
    simp only [Rl.th, thRule]
    rw [if_neg (by decide)]
    simp only [if_true, Bool.and_eq_true]
    exact ⟨h1, h2⟩
  | .told ns, h => by
    refine ⟨?_, rfl⟩
    simp only [Rl.th, thRule, thNums, List.length_map, Bool.and_eq_true, decide_eq_true_eq, List.all_map, true_and]
    refine ⟨⟨h.1, h.2.1⟩, List.all_eq_true.mpr fun n hn => ?_⟩
    exact thCnt_nat (lo := 0) (hi := 999) (Nat.zero_le n) (h.2.2 n hn)
/-- the home by a rule -/
def homeN : Rl → Nat → Nat → Nat
  | .times a b, key, size => (a * key + b) % size
  | .high a b, key, size => a * key % 2 ^ b * size / 2 ^ b
  | .told ns, key, size => ns.getD (key % ns.length) 0 % size
theorem homeN_lt {r : Rl} {key size : Nat} (h : 0 < size) : homeN r key size < size := by
  cases r with
  | times a b => exact Nat.mod_lt _ h
  | high a b =>
    have h2 : 0 < 2 ^ b := Nat.two_pow_pos b
    exact Nat.div_lt_of_lt_mul (by
      have := Nat.mod_lt (a * key) h2
      exact Nat.mul_lt_mul_of_pos_right this h)
  | told ns => exact Nat.mod_lt _ h
theorem isTs_rep {H : Hp} {i : Int} : ∀ n : Nat, IsTs H (List.replicate n (.int i)) (List.replicate n (.int i))
  | 0 => .nil
  | n + 1 => .cons (.int i) (isTs_rep n)
theorem pow_lt30 {b : Nat} (h : b ≤ 30) : 2 ^ b < 2 ^ 31 := Nat.pow_lt_pow_right (by decide) (by omega)
end Lg

/-! Ks: keys: sets of them, sorted lists, lists of lists compared. -/
namespace Lg
open PySem PySem.Spec PyProof.Rows L2
/-! ### len(set(xs)) -/
theorem met_lt {val : Nat → Int} {j : Nat} (h : (firstMet val j).any (· == val j) = true) : ∀ i, j < i → (firstMet val i).length < i
  | 0, hi => absurd hi (Nat.not_lt_zero _)
  | i + 1, hi => by
    rw [firstMet_succ]
    by_cases e : j = i
    · subst e
      unfold step_dedup
      rw [if_pos h]
      exact Nat.lt_succ_of_le (firstMet_length_le val j)
    · have ih := met_lt h i (by omega)
      unfold step_dedup
      split
      · omega
      · rw [List.length_append, List.length_singleton]
        omega
theorem dup_at {ns : List Int} (h : ¬ ns.Nodup) : ∃ j, ∃ hj : j < ns.length, ns[j] ∈ ns.take j := by
  by_cases q : ∃ j, ∃ hj : j < ns.length, ns[j] ∈ ns.take j
  · exact q
  · refine absurd (List.pairwise_iff_getElem.mpr fun i j hi hj hij e => q ⟨j, hj, ?_⟩) h
    rw [← e]
    exact List.mem_iff_getElem.mpr ⟨i, by rw [List.length_take]; omega, by rw [List.getElem_take]⟩
theorem met_dup {ns : List Int} (h : ¬ ns.Nodup) : (firstMet (fun i => ns.getD i 0) ns.length).length < ns.length := by
  obtain ⟨j, hj, hm⟩ := dup_at h
  refine met_lt (j := j) ?_ _ hj
  rw [firstMet_any]
  refine List.any_eq_true.mpr ⟨ns[j], ?_, ?_⟩
  · obtain ⟨i, hi, e⟩ := List.mem_iff_getElem.mp hm
    rw [List.length_take] at hi
    rw [List.getElem_take] at e
    refine List.mem_map.mpr ⟨i, List.mem_range.mpr (by omega), ?_⟩
    rw [← e]
    show ns.getD i 0 = _
    rw [List.getD_eq_getElem?_getD, List.getElem?_eq_getElem (by omega)]
    rfl
  · show (ns[j] == ns.getD j 0) = true
    rw [List.getD_eq_getElem?_getD, List.getElem?_eq_getElem hj]
    exact beq_self_eq_true _
def tLenSet (K : PySem.W.Frag) (ta : TE) : TE := fun σ H Q => ta σ H fun x H1 => ∃ (l : Addr) (ns : List Int), x = .ref l ∧ SqL K H1 l (ns.map V.int) ∧ ns.length ≤ 4000 ∧ ∀ m : Nat, (ns.Nodup → m = ns.length) → (¬ ns.Nodup → m < ns.length) → Q (.int (m : Int)) H1
theorem pe_lenSetG {X : Cx} {a : Expr} {ta : TE} {p p2 q pos : Pos} (hg : Gl X "len") (hg2 : Gl X "set") (hm : X.mg "len" = none) (hm2 : X.mg "set" = none) (ha : PE X a ta) (hc : X.calm = true := by rfl)
    (na : starEach [a] X.env = (false, eval a X.env) :: starEach [] X.env := by rfl) : PE X (.Call (.Name "len" p) [.Call (.Name "set" p2) [a] [] q] [] pos) (tLenSet X.K ta) := by
  refine ⟨fun pins s σ H Q I h => ?_⟩
  refine Call_ (ld_blt I hg hm boot_len ?_)
  refine PyProof.Rows.callWith_builtin1 (PyProof.Rows.args_cons ?_ rfl) rfl rfl
  refine Call_ (ld_blt I hg2 hm2 boot_set ?_)
  refine PyProof.Rows.callWith_type1 (PyProof.Rows.args_cons (thn (ha.run pins s σ H _ I h) fun v s1 ⟨x, H1, I1, r1, q1⟩ => PyProof.Rows.args_nil ?_) na) na rfl
  obtain ⟨l, ns, rfl, hq, hl, q1⟩ := q1
  cases r1
  obtain ⟨its, r, pl, hz⟩ := I1.list hq
  have hlen : its.toArray.size = ns.length := by rw [List.size_toArray, ← r.length, List.length_map]
  refine call_set_list (I1.ok.hd hc) pl.isList (by simpa using RZ.intsAre_vals r) (by rw [hlen]; unfold scanBound; omega) fun h' tk hS hk => ?_
  refine PyProof.Rows.args_nil ?_
  have h1 : ns.Nodup → (firstMet (fun i => ns.getD i 0) ns.length).length = ns.length := fun hnd => by rw [RZ.firstMet_nodup hnd ns.length (Nat.le_refl _), List.take_length]
  have h2 : ¬ ns.Nodup → (firstMet (fun i => ns.getD i 0) ns.length).length < ns.length := fun h => met_dup h
  have h3 := firstMet_length_le (fun i => ns.getD i 0) ns.length
  rw [hlen] at hS
  generalize firstMet (fun i => ns.getD i 0) ns.length = ms at *
  obtain ⟨o, es, ep, t, ho, hex, hd, _, _, _, hf, hn⟩ := hS
  have I2 : Inv X pins σ H1 { s1 with heap := h', toks := tk } := I1.kept fun b o e => hk b o (Heap.lt_size e) e
  exact call_len_set ho hex hd hf (by rw [hn] <;> omega) ⟨.int ms.length, H1, I2.tok _, ⟨_, by rw [hn]⟩, q1 ms.length h1 h2⟩
variable {K : PySem.W.Frag} {σ : Sg} {H H' : Hp} {ta te : TE} {Q : PV}
theorem e_lenSet (k : kE ta σ H fun x H1 => ∃ (l : Addr) (ns : List Int), x = .ref l ∧ SqL K H1 l (ns.map V.int) ∧ ns.length ≤ 4000 ∧ ∀ m : Nat, (ns.Nodup → m = ns.length) → (¬ ns.Nodup → m < ns.length) → Q (.int (m : Int)) H1) : kE (tLenSet K ta) σ H Q := fun H1 e _ q =>
  k H1 e _ fun x H0 H2 ⟨l, ns, ex, hs, hl, hk⟩ e2 => ⟨l, ns, ex, e2.sl hs, hl, fun m h1 h2 => q _ _ _ (hk m h1 h2) e2⟩
/-! ### lists of lists -/
theorem eqv_lls : ∀ xs ys : List (List Int), PyData.eqv (.list (xs.map fun b => PyData.list (b.map PyData.int))) (.list (ys.map fun b => PyData.list (b.map PyData.int))) = decide (xs = ys)
  | [], [] => by simp [PyData.eqv, PyData.eqvAll]
  | [], _ :: _ => by simp [PyData.eqv, PyData.eqvAll]
  | _ :: _, [] => by simp [PyData.eqv, PyData.eqvAll]
  | a :: r, b :: t => by
    have ih := eqv_lls r t
    have ia := eqv_ints a b
    rw [List.map_cons, List.map_cons]
    rw [show PyData.eqv (.list (PyData.list (a.map PyData.int) :: r.map fun b => PyData.list (b.map PyData.int))) (.list (PyData.list (b.map PyData.int) :: t.map fun b => PyData.list (b.map PyData.int))) = (PyData.eqv (.list (a.map PyData.int)) (.list (b.map PyData.int)) && PyData.eqv (.list (r.map fun b => PyData.list (b.map PyData.int))) (.list (t.map fun b => PyData.list (b.map PyData.int)))) from by simp only [PyData.eqv, PyData.eqvAll]]
    rw [ih, ia]
    by_cases h : a = b <;> by_cases h' : r = t <;> simp [h, h']
theorem lay_ints (b : List Int) : (PyData.list (b.map PyData.int)).canLay0 = true ∧ (PyData.list (b.map PyData.int)).depth ≤ 50 := by
  have h := PySem.W.ke_shaped_ints b
  unfold SeqAt.shaped at h
  rw [Bool.and_eq_true] at h
  refine ⟨h.1, ?_⟩
  simp [PyData.depth, PySem.W.ke_depthAll]
theorem shaped_lls (xs : List (List Int)) : SeqAt.shaped (.list (xs.map fun b => PyData.list (b.map PyData.int))) = true := shaped_list fun d hd => by
  obtain ⟨b, _, rfl⟩ := List.mem_map.mp hd
  exact lay_ints b
/-- a list of lists of whole numbers stands at p -/
inductive LLs (H : Hp) : List Addr → List (List Int) → Prop where
  | nil : LLs H [] []
  | cons {a : Addr} {ps : List Addr} {b : List Int} {xs : List (List Int)} (h : H a = some (.lst (b.map V.int))) (r : LLs H ps xs) : LLs H (a :: ps) (b :: xs)
theorem LLs.up (e : Ex H H') : ∀ {ps : List Addr} {xs : List (List Int)}, LLs H ps xs → LLs H' ps xs
  | _, _, .nil => .nil
  | _, _, .cons h r => .cons (e _ _ h) (r.up e)
theorem LLs.dp : ∀ {ps : List Addr} {xs : List (List Int)}, LLs H ps xs → DpAll K H (ps.map V.ref) (xs.map fun b => PyData.list (b.map PyData.int))
  | _, _, .nil => .nil
  | _, _, .cons h r => .cons (.lst (SqL.of h) (dp_ints _)) r.dp
theorem LLs.of {ps : List Addr} {xs : List (List Int)} (hl : ps.length = xs.length) (h : ∀ i (hi : i < xs.length), H (ps[i]'(by omega)) = some (.lst (xs[i].map V.int))) : LLs H ps xs := by
  induction xs generalizing ps with
  | nil =>
    cases ps with
    | nil => exact .nil
    | cons a ps => simp at hl
  | cons b xs ih =>
    cases ps with
    | nil => simp at hl
    | cons a ps => exact .cons (h 0 (by simp)) (ih (by simpa using hl) fun i hi => h (i + 1) (by simpa using hi))
theorem LLs.len : ∀ {ps : List Addr} {xs : List (List Int)}, LLs H ps xs → ps.length = xs.length
  | _, _, .nil => rfl
  | _, _, .cons _ r => congrArg (· + 1) r.len
theorem LLs.at : ∀ {ps : List Addr} {xs : List (List Int)}, LLs H ps xs → ∀ i (hi : i < ps.length) (hx : i < xs.length), H ps[i] = some (.lst (xs[i].map V.int))
  | _, _, .cons h _, 0, _, _ => h
  | _, _, .cons _ r, i + 1, hi, hx => r.at i (by simpa using hi) (by simpa using hx)
theorem r_neLL {p q : Addr} {ps qs : List Addr} {xs ys : List (List Int)} (h1 : SqL K H p (ps.map V.ref)) (l1 : LLs H ps xs) (h2 : SqL K H q (qs.map V.ref)) (l2 : LLs H qs ys) (k : Q (.bl (!decide (xs = ys))) H) : kR (rNeD K) (.ref p) (.ref q) H Q :=
  r_neD (.lst h1 l1.dp) (.lst h2 l2.dp) (shaped_lls xs) (shaped_lls ys) (eqv_lls xs ys) k
/-! ### lists by places -/
theorem filterMap_idx {α β : Type} {xs : List α} {g : α → Option β} : ∀ n, n ≤ xs.length → (List.range n).filterMap (fun i => (xs[i]?).bind g) = (xs.take n).filterMap g
  | 0, _ => by simp
  | n + 1, h => by
    have hn : n < xs.length := h
    rw [List.range_succ, List.filterMap_append, filterMap_idx n (Nat.le_of_lt h), List.take_succ, List.getElem?_eq_getElem hn, List.filterMap_append]
    simp [List.filterMap_cons, hn]
/-- one order is sorted -/
theorem sorted_one : ∀ {xs ys : List Int}, xs.Perm ys → xs.Pairwise (· ≤ ·) → ys.Pairwise (· ≤ ·) → xs = ys
  | xs, ys, h, h1, h2 => List.Perm.eq_of_pairwise (le := (· ≤ ·)) (fun a b _ _ hab hba => Int.le_antisymm hab hba) h1 h2 h
/-! ### a place that is not told -/
theorem nodup_le {α : Type} [DecidableEq α] : ∀ {l m : List α}, l.Nodup → (∀ x ∈ l, x ∈ m) → l.length ≤ m.length
  | [], _, _, _ => Nat.zero_le _
  | a :: l, m, hn, hs => by
    have ha : a ∈ m := hs a List.mem_cons_self
    obtain ⟨h1, h2⟩ := List.nodup_cons.mp hn
    have := nodup_le (l := l) (m := m.erase a) h2 fun x hx => (List.mem_erase_of_ne (fun e => h1 (by rw [← e]; exact hx))).mpr (hs x (List.mem_cons_of_mem _ hx))
    rw [List.length_erase_of_mem ha] at this
    have hp := List.length_pos_of_mem ha
    simp only [List.length_cons]
    omega
theorem free_at (found : List Nat) (key M : Nat) (h : found.length < M) : ∃ d, d ≤ found.length ∧ (key + d) % M ∉ found := by
  by_cases q : ∃ d, d ≤ found.length ∧ (key + d) % M ∉ found
  · exact q
  · have hs : ∀ x ∈ (List.range (found.length + 1)).map fun d => (key + d) % M, x ∈ found := fun x hx => by
      obtain ⟨d, hd, rfl⟩ := List.mem_map.mp hx
      by_cases z : (key + d) % M ∈ found
      · exact z
      · exact absurd ⟨d, by have := List.mem_range.mp hd; omega, z⟩ q
    have hn : ((List.range (found.length + 1)).map fun d => (key + d) % M).Nodup := by
      refine List.pairwise_map.mpr (List.Pairwise.imp_of_mem ?_ (List.nodup_range (n := found.length + 1)))
      intro a b ha hb hab e
      have h1 := List.mem_range.mp ha
      have h2 := List.mem_range.mp hb
      apply hab
      have e1 := Nat.div_add_mod (key + a) M
      have e2 := Nat.div_add_mod (key + b) M
      rcases Nat.lt_trichotomy ((key + a) / M) ((key + b) / M) with z | z | z
      · have : M * ((key + a) / M + 1) ≤ M * ((key + b) / M) := Nat.mul_le_mul_left _ z
        rw [Nat.mul_add] at this
        omega
      · rw [z] at e1
        omega
      · have : M * ((key + b) / M + 1) ≤ M * ((key + a) / M) := Nat.mul_le_mul_left _ z
        rw [Nat.mul_add] at this
        omega
    have := nodup_le hn hs
    rw [List.length_map, List.length_range] at this
    omega
theorem inV_ints {k : Nat} {ns : List Nat} : inV (.int (k : Int)) (ns.map fun n : Nat => V.int (n : Int)) = decide (k ∈ ns) := by
  rw [Bool.eq_iff_iff]
  simp only [inV, List.any_map, List.any_eq_true, Function.comp, decide_eq_true_eq, eqV]
  constructor
  · rintro ⟨x, hx, e⟩
    have : (x : Int) = k := by simpa using e
    have : x = k := by omega
    exact this ▸ hx
  · intro h
    exact ⟨k, h, by simp⟩
theorem LLs.snoc {a : Addr} {b : List Int} (h : H a = some (.lst (b.map V.int))) : ∀ {ps : List Addr} {xs : List (List Int)}, LLs H ps xs → LLs H (ps ++ [a]) (xs ++ [b])
  | _, _, .nil => .cons h .nil
  | _, _, .cons h' r => .cons h' (r.snoc h)
theorem LLs.upd_ne {D : Addr} {o : HO} : ∀ {ps : List Addr} {xs : List (List Int)}, LLs H ps xs → (∀ q ∈ ps, q ≠ D) → LLs (upd H D o) ps xs
  | _, _, .nil, _ => .nil
  | _, _, .cons h r, hn => .cons (by rw [L2.upd_ne (hn _ List.mem_cons_self)]; exact h) (r.upd_ne fun q hq => hn q (List.mem_cons_of_mem _ hq))
theorem filterMap_if {P : Int → Bool} : ∀ {ms : List Int}, ms.filterMap (fun k => if P k = true then some (V.int k) else none) = (ms.filter P).map V.int
  | [] => rfl
  | k :: ms => by
    rw [List.filterMap_cons, List.filter_cons]
    cases h : P k with
    | true => simp only [if_true, List.map_cons, filterMap_if]
    | false => simp only [Bool.false_eq_true, if_false, filterMap_if]
def nI (ns : List Nat) : List Int := ns.map fun n : Nat => (n : Int)
theorem nI_v {ns : List Nat} : (nI ns).map V.int = ns.map fun n : Nat => V.int (n : Int) := by
  unfold nI
  rw [List.map_map]
  rfl
theorem nI_nodup {ns : List Nat} : (nI ns).Nodup ↔ ns.Nodup := by
  unfold nI
  constructor
  · intro h
    exact (List.pairwise_map.mp h).imp fun h e => h (by rw [e])
  · intro h
    exact List.pairwise_map.mpr (h.imp fun h e => h (by omega))
theorem map_int_inj : ∀ {a b : List Int}, a.map V.int = b.map V.int → a = b
  | [], [], _ => rfl
  | [], _ :: _, h => by simp at h
  | _ :: _, [], h => by simp at h
  | x :: a, y :: b, h => by
    simp only [List.map_cons, List.cons.injEq, V.int.injEq] at h
    rw [h.1, map_int_inj h.2]
theorem atI_lastN {α : Type} {xs : List α} {n : Nat} {v : α} (hl : xs.length = n + 1) (h : xs[n]? = some v) : atI xs (-1) = some v := by
  have e : xs = xs.take n ++ [v] := by
    have hn : n < xs.length := by omega
    have hv : xs[n] = v := by
      rw [List.getElem?_eq_getElem hn] at h
      exact Option.some.inj h
    rw [← hv, List.take_append_getElem hn, List.take_of_length_le (by omega)]
  rw [e]
  exact L2.atI_last _ _
theorem cut1 {xs : List V} (h : 0 < xs.length) : cutV xs (some 1) none = xs.drop 1 := by
  unfold cutV HT.sIx
  have h1 : min 1 xs.length = 1 := by omega
  simp [h1]
  exact List.take_of_length_le (by simp)
theorem cut0 {xs : List V} {n : Nat} (h : n ≤ xs.length) : cutV xs none (some (n : Int)) = xs.take n := by
  unfold cutV
  rw [HT.sIx_none, HT.sIx_nat, Nat.min_eq_left h]
  simp
theorem nI_len {ns : List Nat} : (nI ns).length = ns.length := by simp [nI]
theorem nI_map {α : Type} {f : α → Nat} {l : List α} : (nI (l.map f)).map V.int = l.map fun x => V.int ((f x : Nat) : Int) := by
  rw [nI_v, List.map_map]
  rfl
theorem nI_sum {ns : List Nat} : (nI ns).sum = ((ns.sum : Nat) : Int) := by
  induction ns with
  | nil => rfl
  | cons n ns ih =>
    simp only [nI, List.map_cons, List.sum_cons] at ih ⊢
    rw [ih]
    omega
theorem nI_inj : ∀ {a b : List Nat}, nI a = nI b → a = b
  | [], [], _ => rfl
  | [], _ :: _, h => by simp [nI] at h
  | _ :: _, [], h => by simp [nI] at h
  | x :: a, y :: b, h => by
    simp only [nI, List.map_cons, List.cons.injEq] at h
    rw [nI_inj (a := a) (b := b) h.2, show x = y by omega]
theorem ixN_nat {n j : Nat} (h : j < n) : ixN n (j : Int) = some j := by
  unfold ixN
  rw [if_pos (by omega), if_pos (by omega), Int.toNat_natCast]
end Lg

/-! Dk: dicts of counts: get, set, the greatest key. -/
namespace Lg
open PySem PySem.Spec PyProof.Rows L2
variable {K : PySem.W.Frag} {σ : Sg} {H H' : Hp} {ta tb tc te : TE} {Q : PV} {v : V}
/-- a dict of counts above nought -/
structure CntD (H : Hp) (d : Addr) (f : Nat → Nat) (n : Nat) : Prop where
  ex : ∃ kvs : List (Key × V), H d = some (.dK kvs) ∧ kvs.length ≤ n ∧ (∀ k, valV kvs (.inl (k : Nat)) = if f k = 0 then none else some (.int ((f k : Nat) : Int))) ∧ ∀ p ∈ kvs, ∃ k : Nat, p.1 = .inl (k : Int) ∧ 0 < f k
theorem CntD.up (e : Ex H H') {d : Addr} {f : Nat → Nat} {n : Nat} (h : CntD H d f n) : CntD H' d f n := by
  obtain ⟨kvs, h1, h2⟩ := h.ex
  exact ⟨kvs, e _ _ h1, h2⟩
theorem cntD_new {d : Addr} : CntD (upd H d (.dK [])) d (fun _ => 0) 0 := ⟨[], upd_same, Nat.le_refl _, fun k => rfl, fun _ h => absurd h List.not_mem_nil⟩
theorem e_dnew (k : ∀ p, H p = none → Q (.ref p) (upd H p (.dK []))) : kE tDNewK σ H Q := fun H1 e _ q p hp => q _ _ _ (k p (e.fresh hp)) (e.ups p _)
/-- d.get(k, 0) -/
theorem e_getC (k : kE ta σ H fun x H1 => ∃ d, x = .ref d ∧ (∃ f n, CntD H1 d f n) ∧ kE tb σ H1 fun y H2 => ∃ f n j, CntD H2 d f n ∧ y = .int ((j : Nat) : Int) ∧ Q (.int ((f j : Nat) : Int)) H2) : kE (tDGet2 ta tb (tC (.int 0))) σ H Q := fun H1 e Q1 q =>
  k H1 e _ fun x H0 H2 ⟨d, ex, ⟨f, n, c⟩, hk⟩ e2 => by
    obtain ⟨kvs, h1, _⟩ := c.ex
    refine ⟨d, ex, .inl ⟨kvs, .inl (e2 _ _ h1)⟩, hk H2 e2 _ fun y H3 H4 ⟨f', n', j, c', ey, hq⟩ e4 => ?_⟩
    obtain ⟨kvs', h1', _, h3', _⟩ := c'.ex
    subst ey
    refine ⟨_, DGet.k (k := Sum.inl ((j : Nat) : Int)) (e4 _ _ h1'), ?_⟩
    rw [h3' j]
    by_cases z : f' j = 0
    · rw [if_pos z]
      rw [z] at hq
      exact q _ _ _ hq e4
    · rw [if_neg z]
      exact q _ _ _ hq e4
theorem g_setC {QS : PS'} (k : kE ta σ H fun o H1 => kE tb σ H1 fun i H2 => ∃ d f n j c, o = .ref d ∧ i = .int ((j : Nat) : Int) ∧ CntD H2 d f n ∧ n ≤ 100000 ∧ v = .int ((c : Nat) : Int) ∧ 0 < c ∧
      ∀ kvs, CntD (upd H2 d (.dK kvs)) d (fun k => if k = j then c else f k) (n + 1) → QS σ (upd H2 d (.dK kvs))) : kG (gSub ta tb rSetD) v σ H QS := fun H1 e _ q =>
  k H1 e _ fun o H0 H2 hx e2 => hx H2 e2 _ fun i H3 H4 ⟨d, f, n, j, c, eo, ei, cd, hn, ev, hc, hk⟩ e4 => by
    obtain ⟨kvs, h1, h2, h3, h4⟩ := cd.ex
    subst eo ei ev
    refine ⟨d, _, rfl, DPut.k (k := Sum.inl ((j : Nat) : Int)) (e4 _ _ h1) (Nat.lt_of_le_of_lt (Nat.le_trans h2 hn) (by decide)), ?_⟩
    refine q _ _ _ (hk (putK kvs (Sum.inl ((j : Nat) : Int)) (.int ((c : Nat) : Int))) ⟨_, upd_same, ?_, fun k => ?_, fun p hp => ?_⟩) (e4.ups d _)
    · exact Nat.le_trans (length_putK _ _ _) (by omega)
    · rw [valV_put]
      by_cases z : k = j
      · subst z
        simp only [if_true]
        rw [if_neg (by omega)]
      · rw [if_neg (fun e => z (by
          have := Sum.inl.inj e
          omega)), if_neg z]
        exact h3 k
    · unfold putK at hp
      split at hp
      · obtain ⟨p', hp', rfl⟩ := List.mem_map.mp hp
        obtain ⟨k, e1, e2⟩ := h4 p' hp'
        split
        · rename_i e3
          refine ⟨j, by simpa using e3, ?_⟩
          simp only [if_true]
          exact hc
        · refine ⟨k, e1, ?_⟩
          split
          · exact hc
          · exact e2
      · rcases List.mem_append.mp hp with hp | hp
        · obtain ⟨k, e1, e2⟩ := h4 p hp
          refine ⟨k, e1, ?_⟩
          split
          · exact hc
          · exact e2
        · rw [List.mem_singleton.mp hp]
          exact ⟨j, rfl, by simp only [if_true]; exact hc⟩
def rMaxK : List V → Hp → VK → Prop := fun xs H Q => ∃ (d : Addr) (kvs : List (Key × V)) (ns : List Int), xs = [.ref d] ∧ H d = some (.dK kvs) ∧ kvs.map (·.1) = ns.map Sum.inl ∧ 0 < ns.length ∧ ∀ m, m ∈ ns → (∀ y, y ∈ ns → y ≤ m) → Q (.int m) H
theorem cr_maxK {X : Cx} (hc : X.calm = true) : CallR X (.builtin "max") rMaxK := by
  intro pins s σ H xs us Q I rx h
  obtain ⟨d, kvs, ns, rfl, hd, hns, hne, q⟩ := h
  rw [Vals.ref1 rx]
  obtain ⟨_, hs, vs, kv, o, es, ep, ho, hx, hdt, r⟩ := dk_rd I.hok (.inl hd)
  have hl : kvs.length = vs.length := Paired.length kv
  have hkn : kvs.length = ns.length := by
    have e := congrArg List.length hns
    rw [List.length_map, List.length_map] at e
    exact e
  have hsz : es.size = kvs.length := by
    have l1 := r.2.1.length
    rw [Array.length_toList] at l1
    omega
  have hP : ∀ (i : Nat) (v : Value), (∃ k x, vs[i]? = some (k, x) ∧ (mixKind X.prog X.w).is k v = true) → ∃ t, v = .int (ns.getD i 0) t := fun i v ⟨k, x, he, hk⟩ => by
    have hi : i < vs.length := by
      obtain ⟨z, _⟩ := List.getElem?_eq_some_iff.mp he
      exact z
    have hi2 : i < kvs.length := by omega
    have hi3 : i < ns.length := by omega
    obtain ⟨u, hu, _⟩ := kv_get kv (i := i) (k := kvs[i].1) (v := kvs[i].2) (List.getElem?_eq_getElem hi2)
    have e0 := he.symm.trans hu
    have e1 : k = kvs[i].1 := congrArg Prod.fst (Option.some.inj e0)
    have e2 : kvs[i].1 = Sum.inl ns[i] := by
      have z : (kvs.map (·.1))[i]? = (ns.map Sum.inl)[i]? := by rw [hns]
      rw [List.getElem?_map, List.getElem?_map, List.getElem?_eq_getElem hi2, List.getElem?_eq_getElem hi3] at z
      exact Option.some.inj z
    have e3 : ns.getD i 0 = ns[i] := by rw [List.getD_eq_getElem?_getD, List.getElem?_eq_getElem hi3] <;> rfl
    have hk2 : keyIs (Sum.inl ns[i]) v = true := by
      rw [← e2, ← e1]
      exact hk
    rcases keyIs_shape hk2 with ⟨j, t, a, b⟩ | ⟨x, t, a, b⟩
    · cases a
      exact ⟨t, by rw [e3]; exact b⟩
    · cases a
  have ha : d < s.heap.objs.size := Heap.lt_size ho
  refine call_max_walk ?_
  refine iter_keys hs ho hx hdt ?_
  refine ⟨s.heap.objs.size, [s.heap.objs.size, d], [s.heap.objs.size], vs.length, _, _, fun i j => decide (ns.getD i 0 > ns.getD j 0), rfl, Walks.dictKeys (knd := mixKind X.prog X.w) (show X.A.in1.handled = none from I.ok.hd hc) s.heap.objs.size d (Nat.ne_of_lt ha) vs ep, ⟨⟨_, Heap.get?_push_size _ rfl, rfl, ?_⟩, ⟨o, es, Heap.get?_push_of_some _ ho, hx, hdt, r⟩⟩, fun b hb => ?_, by omega, CmpOf.ints_gt (fun i => ns.getD i 0) hP, fun v h' tk hv' hk => ?_⟩
  · rw [hsz, hl]
    rfl
  · show b < (s.heap.push _).objs.size
    rw [size_push']
    rcases List.mem_cons.mp hb with z | z
    · rw [z]
      exact Nat.lt_succ_self _
    · rw [List.mem_singleton.mp z]
      exact Nat.lt_succ_of_lt ha
  · obtain ⟨t, rfl⟩ := hP _ _ hv'
    obtain ⟨m1', m2'⟩ := argBest_gt (fun i => ns.getD i 0) (vs.length - 1)
    have m1 : argBest (fun i j => decide (ns.getD i 0 > ns.getD j 0)) (vs.length - 1) ≤ vs.length - 1 := m1'
    have m2 : ∀ j, j ≤ vs.length - 1 → ns.getD j 0 ≤ ns.getD (argBest (fun i j => decide (ns.getD i 0 > ns.getD j 0)) (vs.length - 1)) 0 := m2'
    have hk2 : ∀ b o, s.heap.get? b = some o → h'.get? b = some o := fun b o e => hk b o (fun z => by rw [List.mem_singleton.mp z] at e; exact absurd (Heap.lt_size e) (Nat.lt_irrefl _)) (Heap.get?_push_of_some _ e)
    refine ⟨.int _, H, I.kept (t' := tk) hk2, ⟨t, rfl⟩, q _ (PySem.getD_mem (by omega)) fun y hy => ?_⟩
    obtain ⟨j, hj, e⟩ := List.mem_iff_getElem.mp hy
    have z := m2 j (by omega)
    have e3 : ns.getD j 0 = y := by rw [List.getD_eq_getElem?_getD, List.getElem?_eq_getElem hj, ← e] <;> rfl
    rw [e3] at z
    exact z
theorem keys_inl {f : Nat → Nat} : ∀ {kvs : List (Key × V)}, (∀ p ∈ kvs, ∃ k : Nat, p.1 = .inl (k : Int) ∧ 0 < f k) → ∃ ks : List Nat, kvs.map (·.1) = (nI ks).map Sum.inl ∧ ∀ k ∈ ks, 0 < f k
  | [], _ => ⟨[], rfl, fun _ h => absurd h List.not_mem_nil⟩
  | p :: kvs, h => by
    obtain ⟨k, h1, h2⟩ := h p List.mem_cons_self
    obtain ⟨ks, h3, h4⟩ := keys_inl fun q hq => h q (List.mem_cons_of_mem _ hq)
    refine ⟨k :: ks, ?_, List.forall_mem_cons.mpr ⟨h2, h4⟩⟩
    rw [List.map_cons, h1, h3]
    rfl
theorem valV_mem {kvs : List (Key × V)} {k : Key} {v : V} (h : valV kvs k = some v) : k ∈ kvs.map (·.1) := by
  unfold valV at h
  cases e : kvs.find? fun kv => decide (kv.1 = k) with
  | none => rw [e] at h; cases h
  | some p =>
    have h1 := List.find?_some e
    have h2 := List.mem_of_find?_eq_some e
    exact List.mem_map.mpr ⟨p, h2, by simpa using h1⟩
/-- the greatest that is counted -/
theorem c_maxD {d : Addr} {f : Nat → Nat} {n j0 : Nat} (h : CntD H d f n) (h0 : 0 < f j0) (k : ∀ m : Nat, 0 < f m → (∀ j, 0 < f j → j ≤ m) → Q (.int ((m : Nat) : Int)) H) : kC rMaxK [.ref d] H Q := fun H1 e _ q => by
  obtain ⟨kvs, h1, h2, h3, h4⟩ := h.ex
  obtain ⟨ks, h5, h6⟩ := keys_inl h4
  have hall : ∀ j, 0 < f j → ((j : Nat) : Int) ∈ nI ks := fun j hj => by
    have z := h3 j
    rw [if_neg (by omega)] at z
    have z2 := valV_mem z
    rw [h5] at z2
    obtain ⟨y, hy, ey⟩ := List.mem_map.mp z2
    cases ey
    exact hy
  refine ⟨d, kvs, nI ks, rfl, e _ _ h1, h5, List.length_pos_of_mem (hall j0 h0), fun m hm hy => ?_⟩
  obtain ⟨m', h7, rfl⟩ := List.mem_map.mp hm
  refine q _ _ _ (k m' (h6 m' h7) fun j hj => ?_) e
  have := hy _ (hall j hj)
  omega
theorem units_of {k : Nat} {A : Around} (r : Room k A) : A.units + 1 < cLine := by
  have := r.un
  omega
end Lg

/-! En: enumerate of a tuple. -/
namespace Lg
open PySem PySem.Spec PyProof.Rows L2
open Sem (wp)
open AutoSeq1 (wpAny_loadPart')
theorem meets_enumT (l : Addr) (items : Array Value) (n : Nat) (dct : Option Addr) (sl : Array (Option Value)) :
    Meets (Builtin.«enumerate.__new__» ⟨[.type "enumerate", .ref l], []⟩) (fun _ R s => s.heap.get? l = some { cls := .type "tuple", dict := dct, data := .seq items n, slots := sl } ∧
      R (.ok (.ret (.ref (s.heap.push { cls := .type "tuple_iterator", data := .fields #[.ref l, .int 0 0] }).objs.size)))
        { s with heap := (s.heap.push { cls := .type "tuple_iterator", data := .fields #[.ref l, .int 0 0] }).push { cls := .type "enumerate", data := .fields #[.none, .bool false, .ref s.heap.objs.size, rawInt 0, .none, .none] } }) :=
  .of_wp fun prog w A R s h => by
    obtain ⟨hp, g, d, tk, os⟩ := s; obtain ⟨hl, h⟩ := h
    have hsub := sub_enumerate
    have hL : Heap.IsTuple (Shared.heap ⟨hp, g, d, tk, os⟩) l items := ⟨_, hl, rfl, n, rfl⟩
    wp_walk using wpAny_loadPart' hl
    refine wpAny_stack_any fun st => wpAny_pure ?_
    split
    · rename_i c _ _ _ _ _
      cases (c == Value.type "enumerate")
      · wp_walk using wpAny_loadPart' hl, wpAny_pyIter_tuple hL
        exact ⟨_, rfl, h⟩
      · wp_walk using wpAny_loadPart' hl, wpAny_pyIter_tuple hL
        exact ⟨_, rfl, h⟩
    · wp_walk using wpAny_loadPart' hl, wpAny_pyIter_tuple hL
      exact ⟨_, rfl, h⟩
section
variable {prog : Program} {w : World} {A : Around} {E : Value → Shared → Prop} {s : Shared}
theorem call_enumT {l : Addr} {items : Array Value} {Q : Value → Shared → Prop} (hL : s.heap.IsTuple l items)
    (h : ∀ h', IsEnum h' (s.heap.objs.size + 1) s.heap.objs.size 0 .none → h'.IsTupleIter s.heap.objs.size l 0 → h'.objs.size = s.heap.objs.size + 2 →
      (∀ b o, s.heap.get? b = some o → h'.get? b = some o) → Q (.ref (s.heap.objs.size + 1)) { s with heap := h' }) :
    wpAny (model prog w) A (call (.type "enumerate") [.ref l]) Q E s := by
  obtain ⟨⟨c, dct, dt, sl⟩, hl, hc, n, hd⟩ := hL
  replace hc : c = .type "tuple" := hc
  replace hd : dt = .seq items n := hd
  subst hc hd
  refine callType_new F.called_enumerate (by decide) (F.typeCall_enumerate_1 _) (F.newCall_enumerate_1 _) (fun obj => F.args_object_init_2 obj _) F.entry_enumerate_new
    (meets_enumT l items n dct sl) ⟨hl, ?_⟩
  have hz : (s.heap.push { cls := .type "tuple_iterator", data := .fields #[.ref l, .int 0 0] }).objs.size = s.heap.objs.size + 1 := Heap.size_push ..
  show _ ∧ _
  rw [hz]
  have he : IsEnum ((s.heap.push { cls := .type "tuple_iterator", data := .fields #[.ref l, .int 0 0] }).push
      { cls := .type "enumerate", data := .fields #[.none, .bool false, .ref s.heap.objs.size, rawInt 0, .none, .none] }) (s.heap.objs.size + 1) s.heap.objs.size 0 .none := by
    have := Heap.get?_push_size (s.heap.push { cls := .type "tuple_iterator", data := .fields #[.ref l, .int 0 0] })
      (o := { cls := .type "enumerate", data := .fields #[.none, .bool false, .ref s.heap.objs.size, rawInt 0, .none, .none] }) rfl
    rw [hz] at this; exact this
  refine ⟨⟨_, he, rfl⟩, h _ he ⟨_, Heap.get?_push_of_some _ (Heap.get?_push_size _ rfl), rfl, rfl⟩ (by rw [Heap.size_push, hz]) fun b o x => Heap.get?_push_of_some _ (Heap.get?_push_of_some _ x)⟩
end
/-- the tuple at a, its items in new pairs with their numbers -/
def IteT (K : PySem.W.Frag) (a : Addr) : It :=
  ⟨fun i H => ∃ (xs : List V) (x : V), SqT K H a xs ∧ xs[i]? = some x,
    fun i H v H' => ∃ T x, v = .ref T ∧ H T = none ∧ H' = upd H T (.tup [.int (i : Nat), x]) ∧ ∀ xs, SqT K H a xs → xs[i]? = some x,
    fun i H => ∃ xs : List V, SqT K H a xs ∧ xs.length ≤ i⟩
theorem turn_enumT {P : Program} {w : World} {K : PySem.W.Frag} {elts : List Expr} {kk : Nat} {tpos : Pos} (a e it : Addr) :
    Turn P w K (.Tuple elts kk tpos) (IteT K a) [e, it] e (fun i h => (∃ old, IsEnum h e it (i : Nat) old) ∧ h.IsTupleIter it a i ∧ e ≠ it) where
  mem := by simp
  obj := fun i h st b hb => by
    obtain ⟨⟨old, he⟩, ⟨o, ho, _, hd⟩, hne⟩ := st
    have e' : b = e ∨ b = it := by simpa using hb
    rcases e' with z | z
    · rw [z]; exact ⟨_, he, fun v q => nomatch q⟩
    · rw [z]; exact ⟨o, ho, fun v q => by rw [hd] at q; cases q⟩
  keep := fun i h h' st k => let ⟨⟨old, he⟩, hi, hne⟩ := st; ⟨⟨old, k e (by simp) _ he⟩, hi.at fun o q => k it (by simp) o q, hne⟩
  item := by
    intro X hP hw hK hc i pins s σ H E I hf st hg
    subst hP hw hK
    obtain ⟨⟨old, he⟩, hit, hne⟩ := st
    obtain ⟨xs, x, hq, hx⟩ := hg
    obtain ⟨its, rv, p, hz⟩ := I.tuple hq
    obtain ⟨u, hu, ru⟩ := rv.get hx
    have hel : e < s.heap.objs.size := Heap.lt_size he
    have hil : it < s.heap.objs.size := by obtain ⟨_, q, _⟩ := hit; exact Heap.lt_size q
    have hpt : s.heap.IsTuple a its.toArray := p
    have hat : a ≠ it := fun z => by
      obtain ⟨o1, e1, c1, _⟩ := hit
      obtain ⟨o2, e2, c2, _⟩ := hpt
      rw [z, e1] at e2
      have e3 := Option.some.inj e2
      rw [← e3, c1] at c2
      exact absurd (Value.type.inj c2) (by decide)
    have hae : a ≠ e := fun z => by
      obtain ⟨o2, e2, c2, _⟩ := hpt
      rw [z] at e2
      have e3 := Option.some.inj (he.symm.trans e2)
      rw [← e3] at c2
      exact absurd (Value.type.inj c2) (by decide)
    have hil2 : i < its.length := by
      have := (List.getElem?_eq_some_iff.mp hx).1
      have hl := rv.length
      omega
    refine wpAny_pyNext_enum_itemD (Draws.tuple (A := X.A.in1) (show X.A.in1.handled = none from I.ok.hd hc) it a hat its.toArray) he ⟨hit, hpt⟩ (by simpa using hil2) hne (by simp [hne, Ne.symm hae]) fun u2 h' tk hu2 ho hst hT hsz hk => ?_
    have eu : u2 = u := by
      have z : its[i]? = some u2 := by simpa using hu2
      rw [hu] at z
      exact (Option.some.inj z).symm
    subst eu
    refine ⟨_, rfl, wpAny_letOwnedTupleGo_enum (s := { s with heap := h', toks := tk + 1 }) ho fun h'' he' sb => ?_⟩
    have hT2 : h''.get? s.heap.objs.size = some { cls := .type "tuple", data := .seq #[.int i tk, u2] } := (sb.2 _ (Nat.ne_of_gt hel)).trans hT
    have new : ObjOk X.prog X.w (upd H s.heap.objs.size (.tup [.int (i : Nat), x])) h'' s.heap.objs.size (.tup [.int (i : Nat), x]) :=
      ⟨by show 2 ≤ sizeLine; decide, [.int i tk, u2], .cons ⟨_, rfl⟩ (.cons ru .nil), ⟨_, hT2, rfl, _, rfl⟩⟩
    have I1 : Inv X pins σ (upd H s.heap.objs.size (.tup [.int (i : Nat), x])) { s with heap := h'', toks := tk + 1 } :=
      I.turnedNew (ch := [e, it]) (fun b ob hb q => (sb.2 b (fun z => hb (by simp [z]))).trans (hk b ob (fun z => hb (by simp [z])) (fun z => hb (by simp [z])) q)) hf (Nat.le_refl _) new
    refine ⟨.ref s.heap.objs.size, _, I1, rfl, ⟨_, x, rfl, I.hok.fresh (Nat.le_refl _), rfl, fun ys hy => by rw [I.tuple_inj hy hq]; exact hx⟩, ⟨⟨u2, ?_⟩, hst.1.at fun o q => (sb.2 it (Ne.symm hne)).trans q, hne⟩, fun b hb => ?_⟩
    · have e1 : ((i + 1 : Nat) : Int) = (i : Int) + 1 := by omega
      rw [e1]; exact he'
    · have hb' : b < s.heap.objs.size := by
        have e' : b = e ∨ b = it := by simpa using hb
        rcases e' with z | z
        · rw [z]; exact hel
        · rw [z]; exact hil
      rw [upd_ne (Nat.ne_of_lt hb')]
      exact (hf b hb).1
  done := by
    intro X hP hw hK hc i pins s σ H E I hf st hg
    subst hP hw hK
    obtain ⟨⟨old, he⟩, hit, hne⟩ := st
    obtain ⟨xs, hq, hx⟩ := hg
    obtain ⟨its, rv, p, hz⟩ := I.tuple hq
    have hpt : s.heap.IsTuple a its.toArray := p
    obtain ⟨f0, f1, f2, f3, f4, f5⟩ := hf it (by simp)
    have hl := rv.length
    have hT : s.TypeIs (.ref e) "enumerate" := ⟨_, he, rfl⟩
    unfold pyNext
    refine wpAny_bind (wpAny_attempt (wpAny_callSpecial?_slot (name := Str.ofString "__next__") hT F.slot_enumerate_next
      (wpAny_call_entry F.slot_enumerate_next hT F.entry_enumerate_next ?_ (F.args_enumerate_next_1 _))))
    show wpAny _ _ (field (.ref e) 2 >>= _) _ _ _
    refine wpAny_bind (wpAny_field he rfl (x := .ref it) rfl ?_)
    refine wpAny_bind (wpAny_nextOf_tuple_end (A := X.A.in1) (show X.A.in1.handled = none from I.ok.hd hc) hit hpt (by simp; omega) fun h' x eb hx' => ?_)
    obtain ⟨o, ho, hc2⟩ := hx'
    refine wpAny_bind (wpAny_isInstance (T := "StopIteration") (b := true) ⟨o, ho, hc2⟩ isSubtype_stop ?_)
    exact wpAny_pure ⟨rfl, I.turned (t' := s.toks) (fun b o hb q => eb b o hb q) f0 f1 f3 f4 f5⟩
  self := fun A i s Q E st h => let ⟨⟨_, he⟩, _⟩ := st; wpAny_pyIter_enum he h
def iEnumT (K : PySem.W.Frag) (ta : TA) : TI := fun σ H R => ta σ H fun vs H1 => ∃ a xs, vs = [.ref a] ∧ SqT K H1 a xs ∧ R (IteT K a) H1
/-- over a list, or over a tuple -/
def iEnumA (K : PySem.W.Frag) (ta : TA) : TI := fun σ H R => ta σ H fun vs H1 => ∃ a xs, vs = [.ref a] ∧ ((SqL K H1 a xs ∧ R (Ite K a) H1) ∨ (SqT K H1 a xs ∧ R (IteT K a) H1))
theorem pi_enumA {X : Cx} {e : Expr} {ta : TA} {p pos tpos : Pos} {elts : List Expr} {kk : Nat} (hg : Gl X "enumerate") (hm : X.mg "enumerate" = none) (ha : PA X [e] ta) (hs : starEach [e] X.env = [(false, eval e X.env)] := by rfl) :
    PI X (.Tuple elts kk tpos) (.Call (.Name "enumerate" p) [e] [] pos) (iEnumA X.K ta) := by
  refine ⟨fun pins s σ H R I h => ?_⟩
  refine Call_ (ld_blt I hg hm boot_enumerate (PyProof.Rows.callWith_type1 (thn (ha.run pos pins s σ H _ I h) fun us s1 ⟨vs, H1, I1, r1, q1⟩ => ?_) hs rfl))
  obtain ⟨a, xs, ex, q⟩ := q1
  subst ex
  cases r1 with
  | cons r rr =>
    cases rr
    cases r
    have hb : ∀ b, b ∈ [s1.heap.objs.size + 1, s1.heap.objs.size] → FpOk X pins H1 b := fun b hb => by
      have e' : b = s1.heap.objs.size + 1 ∨ b = s1.heap.objs.size := by simpa using hb
      have hle : s1.heap.objs.size ≤ b := by
        rcases e' with z | z
        · rw [z]; exact Nat.le_add_right _ _
        · rw [z]; exact Nat.le_refl _
      exact I1.fpOk hle (I1.hok.fresh hle)
    rcases q with ⟨hq, q⟩ | ⟨hq, q⟩
    · obtain ⟨its, rv, p', hz⟩ := I1.list hq
      refine call_enumerate_list p'.isList fun h' he hit hsz hk => wpAny_pyIter_enum he ?_
      have I2 : Inv X pins σ H1 { s1 with heap := h' } := I1.kept (t' := s1.toks) hk
      exact ⟨s1.heap.objs.size + 1, [s1.heap.objs.size + 1, s1.heap.objs.size], _, _, H1, rfl, I2, turn_enum a (s1.heap.objs.size + 1) s1.heap.objs.size, ⟨⟨.none, he⟩, hit, Nat.succ_ne_self _⟩, hb, q⟩
    · obtain ⟨its, rv, p', hz⟩ := I1.tuple hq
      refine call_enumT (show s1.heap.IsTuple a its.toArray from p') fun h' he hit hsz hk => wpAny_pyIter_enum he ?_
      have I2 : Inv X pins σ H1 { s1 with heap := h' } := I1.kept (t' := s1.toks) hk
      exact ⟨s1.heap.objs.size + 1, [s1.heap.objs.size + 1, s1.heap.objs.size], _, _, H1, rfl, I2, turn_enumT a (s1.heap.objs.size + 1) s1.heap.objs.size, ⟨⟨.none, he⟩, hit, Nat.succ_ne_self _⟩, hb, q⟩
theorem walk_enumT {K : PySem.W.Frag} {a : Addr} {xs : List V} : Walk (IteT K a) xs.length (fun H => SqT K H a xs) (YPair (fun i => some (.int (i : Nat))) (fun i => xs[i]?)) := by
  refine ⟨fun i _ hi q => ⟨xs, xs[i], q, by simp [hi]⟩, fun _ q => ⟨xs, q, Nat.le_refl _⟩, fun i H v H' _ q y => ?_⟩
  obtain ⟨T, x, h1, h2, h3, h4⟩ := y
  exact ⟨T, .int (i : Nat), x, h1, h2, h3, rfl, h4 xs q⟩
theorem i_enumA {K : PySem.W.Frag} {t : TA} {σ : Sg} {H : Hp} {QI : PI'} (k : kA t σ H fun vs H1 => ∃ a xs Hb, vs = [.ref a] ∧ Ex Hb H1 ∧ (SqL K Hb a xs ∨ SqT K Hb a xs) ∧ ∀ G : Hp → Prop, (∀ H', Ex Hb H' → G H') → QI xs.length G (yPair (fun i => some (.int (i : Nat))) (fun i => xs[i]?)) H1) : kI (iEnumA K t) σ H QI := fun H1 e R r => k H1 e _ fun v H0 H2 ⟨a, xs, Hb, ev, eb, hs, q⟩ e2 => by
  refine ⟨a, xs, ev, ?_⟩
  rcases hs with hs | hs
  · exact .inl ⟨(eb.tr e2).sl hs, r _ _ _ _ H0 H2 (.ofPair walk_enum (fun _ _ e h => e.sl h)) (q _ fun H' e' => e'.sl hs) e2⟩
  · exact .inr ⟨(eb.tr e2).st hs, r _ _ _ _ H0 H2 (.ofPair walk_enumT (fun _ _ e h => e.st h)) (q _ fun H' e' => e'.st hs) e2⟩
end Lg

/-! Rg: rows in a ring, by functions: the lay by the definition is kept by laying down and taking up; what is looked at. No program in sight. -/
namespace Rg
/-- the way from a home to a place -/
def wy (n a p : Nat) : Nat := if a ≤ p then p - a else p + n - a
def nx (n p : Nat) : Nat := if p + 1 < n then p + 1 else 0
theorem wy_c (n a p : Nat) : (a ≤ p ∧ wy n a p = p - a) ∨ (p < a ∧ wy n a p = p + n - a) := by
  unfold wy
  split
  · exact .inl ⟨by assumption, rfl⟩
  · exact .inr ⟨by omega, rfl⟩
theorem nx_c (n p : Nat) : (p + 1 < n ∧ nx n p = p + 1) ∨ (n ≤ p + 1 ∧ nx n p = 0) := by
  unfold nx
  split
  · exact .inl ⟨by assumption, rfl⟩
  · exact .inr ⟨by omega, rfl⟩
theorem wy_mod {n a p : Nat} (ha : a < n) (hp : p < n) : wy n a p = (p + n - a) % n := by
  rcases wy_c n a p with ⟨h, e⟩ | ⟨h, e⟩
  · rw [e, show p + n - a = (p - a) + n by omega, Nat.add_mod_right, Nat.mod_eq_of_lt (by omega)]
  · rw [e, Nat.mod_eq_of_lt (by omega)]
theorem nx_mod {n p : Nat} (hp : p < n) : nx n p = (p + 1) % n := by
  rcases nx_c n p with ⟨h, e⟩ | ⟨h, e⟩
  · rw [e, Nat.mod_eq_of_lt h]
  · rw [e, show p + 1 = n by omega, Nat.mod_self]
theorem nx_lt {n p : Nat} (hn : 0 < n) : nx n p < n := by
  rcases nx_c n p with ⟨h, e⟩ | ⟨h, e⟩ <;> omega
theorem wy_lt {n a p : Nat} (ha : a < n) (hp : p < n) : wy n a p < n := by
  rcases wy_c n a p with ⟨h, e⟩ | ⟨h, e⟩ <;> omega
theorem wy_inj {n a p q : Nat} (ha : a < n) (hp : p < n) (hq : q < n) (e : wy n a p = wy n a q) : p = q := by
  rcases wy_c n a p with ⟨h, e1⟩ | ⟨h, e1⟩ <;> rcases wy_c n a q with ⟨h', e2⟩ | ⟨h', e2⟩ <;> omega
theorem wy_self {n a : Nat} : wy n a a = 0 := by
  rcases wy_c n a a with ⟨h, e1⟩ | ⟨h, e1⟩ <;> omega
theorem wy_nx {n a p : Nat} (ha : a < n) (hp : p < n) (h : wy n a p + 1 < n) : wy n a (nx n p) = wy n a p + 1 := by
  rcases wy_c n a p with ⟨h, e1⟩ | ⟨h, e1⟩ <;> rcases nx_c n p with ⟨h', e2⟩ | ⟨h', e2⟩ <;> rcases wy_c n a (nx n p) with ⟨h3, e3⟩ | ⟨h3, e3⟩ <;> omega
theorem wy_nx0 {n a p : Nat} (ha : a < n) (hp : p < n) (h : wy n a (nx n p) ≠ 0) : wy n a (nx n p) = wy n a p + 1 := by
  rcases wy_c n a p with ⟨h, e1⟩ | ⟨h, e1⟩ <;> rcases nx_c n p with ⟨h', e2⟩ | ⟨h', e2⟩ <;> rcases wy_c n a (nx n p) with ⟨h3, e3⟩ | ⟨h3, e3⟩ <;> omega
/-- how far it is from a place to another -/
theorem wy_step {n p e : Nat} (hp : p < n) (he : e < n) (h : p ≠ e) : wy n (nx n p) e + 1 = wy n p e := by
  rcases wy_c n p e with ⟨h, e1⟩ | ⟨h, e1⟩ <;> rcases nx_c n p with ⟨h', e2⟩ | ⟨h', e2⟩ <;> rcases wy_c n (nx n p) e with ⟨h3, e3⟩ | ⟨h3, e3⟩ <;> omega
section
variable {n : Nat} {h : Nat → Nat}
/-- a key goes ahead of another one at a place -/
def Ahd (n : Nat) (h : Nat → Nat) (a b p : Nat) : Prop := wy n (h b) p < wy n (h a) p ∨ (wy n (h a) p = wy n (h b) p ∧ a < b)
theorem Ahd.trans {a b c p : Nat} (x : Ahd n h a b p) (y : Ahd n h b c p) : Ahd n h a c p := by
  unfold Ahd at *
  omega
theorem Ahd.total {a b p : Nat} (hne : a ≠ b) (x : ¬ Ahd n h a b p) : Ahd n h b a p := by
  unfold Ahd at *
  omega
theorem Ahd.irr {a p : Nat} : ¬ Ahd n h a a p := by
  unfold Ahd
  omega
theorem Ahd.asymm {a b p : Nat} (x : Ahd n h a b p) : ¬ Ahd n h b a p := by
  unfold Ahd at *
  omega
abbrev Lay := Nat → Option Nat
def up (g : Lay) (p : Nat) (v : Option Nat) : Lay := fun q => if q = p then v else g q
theorem up_same {g : Lay} {p : Nat} {v : Option Nat} : up g p v p = v := if_pos rfl
theorem up_ne {g : Lay} {p q : Nat} {v : Option Nat} (e : q ≠ p) : up g p v q = g q := if_neg e
/-- what stands on the way to a place goes ahead -/
def OnWay (n : Nat) (h : Nat → Nat) (g : Lay) (k p : Nat) : Prop := ∀ q, q < n → wy n (h k) q < wy n (h k) p → ∃ k', g q = some k' ∧ Ahd n h k' k q
/-- a lay by the definition -/
structure IsLay (n : Nat) (h : Nat → Nat) (g : Lay) : Prop where
  way : ∀ p k, p < n → g p = some k → OnWay n h g k p
  inj : ∀ p q k, p < n → q < n → g p = some k → g q = some k → p = q
/-- a key is carried at a place -/
structure Car (n : Nat) (h : Nat → Nat) (g : Lay) (c p : Nat) (S : Nat → Prop) : Prop where
  lay : IsLay n h g
  way : OnWay n h g c p
  off : ∀ q, q < n → g q ≠ some c
  keys : ∀ k, ((∃ q, q < n ∧ g q = some k) ∨ k = c) ↔ S k
def Keys (n : Nat) (g : Lay) (S : Nat → Prop) : Prop := ∀ k, (∃ q, q < n ∧ g q = some k) ↔ S k
/-- with an empty place, a key that stands is not gone all around -/
theorem not_round {g : Lay} {k p e : Nat} (hk : h k < n) (hp : p < n) (he : e < n) (hw : OnWay n h g k p) (hpe : p ≠ e) (hg : g e = none) : wy n (h k) p + 1 < n := by
  have h1 := wy_lt hk he
  rcases Nat.lt_trichotomy (wy n (h k) e) (wy n (h k) p) with z | z | z
  · obtain ⟨k', h2, _⟩ := hw e he z
    rw [hg] at h2
    cases h2
  · exact absurd (wy_inj hk he hp z) (Ne.symm hpe)
  · omega
theorem Car.put {g : Lay} {c p : Nat} {S : Nat → Prop} (C : Car n h g c p S) (hp : p < n) (hg : g p = none) : IsLay n h (up g p (some c)) ∧ Keys n (up g p (some c)) S := by
  refine ⟨⟨fun r k hr hk q hq hw => ?_, fun r s k hr hs h1 h2 => ?_⟩, fun k => ?_⟩
  · by_cases e : r = p
    · subst e
      rw [up_same] at hk
      cases hk
      obtain ⟨k', h1, h2⟩ := C.way q hq hw
      exact ⟨k', by rw [up_ne (fun e => by rw [e, hg] at h1; cases h1)]; exact h1, h2⟩
    · rw [up_ne e] at hk
      obtain ⟨k', h1, h2⟩ := C.lay.way r k hr hk q hq hw
      exact ⟨k', by rw [up_ne (fun e => by rw [e, hg] at h1; cases h1)]; exact h1, h2⟩
  · by_cases e : r = p <;> by_cases e' : s = p
    · rw [e, e']
    · subst e
      rw [up_same] at h1
      cases h1
      rw [up_ne e'] at h2
      exact absurd h2 (C.off s hs)
    · subst e'
      rw [up_same] at h2
      cases h2
      rw [up_ne e] at h1
      exact absurd h1 (C.off r hr)
    · rw [up_ne e] at h1
      rw [up_ne e'] at h2
      exact C.lay.inj r s k hr hs h1 h2
  · rw [← C.keys k]
    constructor
    · rintro ⟨q, hq, h1⟩
      by_cases e : q = p
      · subst e
        rw [up_same] at h1
        exact .inr (Option.some.inj h1).symm
      · rw [up_ne e] at h1
        exact .inl ⟨q, hq, h1⟩
    · rintro (⟨q, hq, h1⟩ | rfl)
      · exact ⟨q, hq, by rw [up_ne (fun e => by rw [e, hg] at h1; cases h1)]; exact h1⟩
      · exact ⟨p, hp, up_same⟩
/-- it goes on -/
theorem Car.on {g : Lay} {c p o e : Nat} {S : Nat → Prop} (hh : ∀ k, h k < n) (C : Car n h g c p S) (hp : p < n) (he : e < n) (hge : g e = none) (hg : g p = some o) (ha : ¬ Ahd n h c o p) : Car n h g c (nx n p) S := by
  have hoc : o ≠ c := fun e => C.off p hp (e ▸ hg)
  have hpe : p ≠ e := fun z => by rw [z, hge] at hg; cases hg
  have hr := not_round (hh c) hp he C.way hpe hge
  refine ⟨C.lay, fun q hq hw => ?_, C.off, C.keys⟩
  rw [wy_nx (hh c) hp hr] at hw
  by_cases z : q = p
  · subst z
    exact ⟨o, hg, Ahd.total (Ne.symm hoc) ha⟩
  · have : wy n (h c) q ≠ wy n (h c) p := fun e => z (wy_inj (hh c) hq hp e)
    exact C.way q hq (by omega)
/-- it is laid down, the other one goes on -/
theorem Car.swap {g : Lay} {c p o e : Nat} {S : Nat → Prop} (hh : ∀ k, h k < n) (C : Car n h g c p S) (hp : p < n) (he : e < n) (hge : g e = none) (hg : g p = some o) (ha : Ahd n h c o p) : Car n h (up g p (some c)) o (nx n p) S := by
  have hoc : o ≠ c := fun e => C.off p hp (e ▸ hg)
  have hpe : p ≠ e := fun z => by rw [z, hge] at hg; cases hg
  have hwo := C.lay.way p o hp hg
  have hrd := not_round (hh o) hp he hwo hpe hge
  refine ⟨⟨fun r k hr hk q hq hw => ?_, fun r s k hr hs h1 h2 => ?_⟩, fun q hq hw => ?_, fun q hq h1 => ?_, fun k => ?_⟩
  · by_cases z : r = p
    · subst z
      rw [up_same] at hk
      cases hk
      obtain ⟨k', h1, h2⟩ := C.way q hq hw
      exact ⟨k', by rw [up_ne (fun e => by rw [e] at hw; exact Nat.lt_irrefl _ hw)]; exact h1, h2⟩
    · rw [up_ne z] at hk
      obtain ⟨k', h1, h2⟩ := C.lay.way r k hr hk q hq hw
      by_cases y : q = p
      · subst y
        rw [hg] at h1
        cases h1
        exact ⟨c, up_same, ha.trans h2⟩
      · exact ⟨k', by rw [up_ne y]; exact h1, h2⟩
  · by_cases z : r = p <;> by_cases z' : s = p
    · rw [z, z']
    · subst z
      rw [up_same] at h1
      cases h1
      rw [up_ne z'] at h2
      exact absurd h2 (C.off s hs)
    · subst z'
      rw [up_same] at h2
      cases h2
      rw [up_ne z] at h1
      exact absurd h1 (C.off r hr)
    · rw [up_ne z] at h1
      rw [up_ne z'] at h2
      exact C.lay.inj r s k hr hs h1 h2
  · rw [wy_nx (hh o) hp hrd] at hw
    by_cases z : q = p
    · subst z
      exact ⟨c, up_same, ha⟩
    · have : wy n (h o) q ≠ wy n (h o) p := fun e => z (wy_inj (hh o) hq hp e)
      obtain ⟨k', h1, h2⟩ := hwo q hq (by omega)
      exact ⟨k', by rw [up_ne z]; exact h1, h2⟩
  · by_cases z : q = p
    · subst z
      rw [up_same] at h1
      exact hoc (Option.some.inj h1).symm
    · rw [up_ne z] at h1
      exact z (C.lay.inj q p o hq hp h1 hg)
  · rw [← C.keys k]
    constructor
    · rintro (⟨q, hq, h1⟩ | rfl)
      · by_cases z : q = p
        · subst z
          rw [up_same] at h1
          exact .inr (Option.some.inj h1).symm
        · rw [up_ne z] at h1
          exact .inl ⟨q, hq, h1⟩
      · exact .inl ⟨p, hp, hg⟩
    · rintro (⟨q, hq, h1⟩ | rfl)
      · by_cases z : q = p
        · subst z
          rw [hg] at h1
          exact .inr (Option.some.inj h1).symm
        · exact .inl ⟨q, hq, by rw [up_ne z]; exact h1⟩
      · exact .inl ⟨p, hp, up_same⟩
/-! ### looking -/
/-- all places looked at so far have other keys that go ahead -/
def Lk (n : Nat) (h : Nat → Nat) (g : Lay) (c p : Nat) : Prop := ∀ q, q < n → wy n (h c) q < wy n (h c) p → ∃ k', g q = some k' ∧ k' ≠ c ∧ Ahd n h k' c q
theorem Lk.zero {g : Lay} {c : Nat} : Lk n h g c (h c) := fun q _ hw => by
  rw [wy_self] at hw
  exact absurd hw (Nat.not_lt_zero _)
theorem Lk.on {g : Lay} {c p o e : Nat} (hh : ∀ k, h k < n) (C : Lk n h g c p) (hp : p < n) (he : e < n) (hge : g e = none) (hg : g p = some o) (hoc : o ≠ c) (ha : Ahd n h o c p) : Lk n h g c (nx n p) ∧ wy n (h c) (nx n p) = wy n (h c) p + 1 := by
  have hpe : p ≠ e := fun z => by rw [z, hge] at hg; cases hg
  have hr := not_round (hh c) hp he (fun q hq hw => (C q hq hw).imp fun k' x => ⟨x.1, x.2.2⟩) hpe hge
  have hn := wy_nx (hh c) hp hr
  refine ⟨fun q hq hw => ?_, hn⟩
  rw [hn] at hw
  by_cases z : q = p
  · subst z
    exact ⟨o, hg, hoc, ha⟩
  · have : wy n (h c) q ≠ wy n (h c) p := fun e => z (wy_inj (hh c) hq hp e)
    exact C q hq (by omega)
/-- where it ends: at the key if it is there -/
theorem Lk.there {g : Lay} {c p r : Nat} (hh : ∀ k, h k < n) (L : IsLay n h g) (C : Lk n h g c p) (hp : p < n) (hr : r < n) (hg : g r = some c) (hs : g p = none ∨ (∃ o, g p = some o ∧ (o = c ∨ ¬ Ahd n h o c p))) : p = r := by
  rcases Nat.lt_trichotomy (wy n (h c) p) (wy n (h c) r) with z | z | z
  · obtain ⟨k', h1, h2⟩ := L.way r c hr hg p hp z
    rcases hs with hs | ⟨o, ho, hs⟩
    · rw [hs] at h1
      cases h1
    · rw [ho] at h1
      cases h1
      rcases hs with hs | hs
      · subst hs
        exact L.inj p r _ hp hr ho hg
      · exact absurd h2 hs
  · exact wy_inj (hh c) hp hr z
  · obtain ⟨k', h1, h2, _⟩ := C r hr z
    rw [hg] at h1
    exact absurd (Option.some.inj h1).symm h2
/-- from where a new key is carried -/
theorem Lk.car {g : Lay} {c p : Nat} {S : Nat → Prop} (L : IsLay n h g) (K : Keys n g S) (C : Lk n h g c p) (hc : ¬ S c) : Car n h g c p (fun k => S k ∨ k = c) :=
  ⟨L, fun q hq hw => (C q hq hw).imp fun k' x => ⟨x.1, x.2.2⟩, fun q hq e => hc ((K c).mp ⟨q, hq, e⟩), fun k => or_congr (K k) Iff.rfl⟩
/-! ### taking up -/
/-- a lay but for what stands at p, that is gone -/
structure Hol (n : Nat) (h : Nat → Nat) (g : Lay) (p : Nat) (S : Nat → Prop) : Prop where
  way : ∀ r k q, r < n → r ≠ p → g r = some k → q < n → q ≠ p → wy n (h k) q < wy n (h k) r → ∃ k', g q = some k' ∧ Ahd n h k' k q
  inj : ∀ r s k, r < n → s < n → r ≠ p → s ≠ p → g r = some k → g s = some k → r = s
  keys : ∀ k, (∃ q, q < n ∧ q ≠ p ∧ g q = some k) ↔ S k
theorem Hol.start {g : Lay} {c p : Nat} {S : Nat → Prop} (L : IsLay n h g) (K : Keys n g S) (hp : p < n) (hg : g p = some c) : Hol n h g p (fun k => S k ∧ k ≠ c) := by
  refine ⟨fun r k q hr _ hk hq _ hw => L.way r k hr hk q hq hw, fun r s k hr hs _ _ h1 h2 => L.inj r s k hr hs h1 h2, fun k => ?_⟩
  constructor
  · rintro ⟨q, hq, hne, h1⟩
    exact ⟨(K k).mp ⟨q, hq, h1⟩, fun e => hne (L.inj q p c hq hp (e ▸ h1) hg)⟩
  · rintro ⟨hs, hne⟩
    obtain ⟨q, hq, h1⟩ := (K k).mpr hs
    exact ⟨q, hq, fun e => by rw [e, hg] at h1; exact hne (Option.some.inj h1).symm, h1⟩
/-- nothing behind has to go back: the place is emptied -/
theorem Hol.stop {g : Lay} {p : Nat} {S : Nat → Prop} (hh : ∀ k, h k < n) (H : Hol n h g p S) (hp : p < n) (hs : g (nx n p) = none ∨ ∃ b, g (nx n p) = some b ∧ wy n (h b) (nx n p) = 0) (hn : nx n p ≠ p) : IsLay n h (up g p none) ∧ Keys n (up g p none) S := by
  have hn0 : 0 < n := by omega
  have free : ∀ r k, r < n → r ≠ p → g r = some k → ¬ wy n (h k) p < wy n (h k) r := fun r k hr hrp hk hw => by
    have hrn := wy_lt (hh k) hr
    have hnx := wy_nx (hh k) hp (by omega)
    have hb : ∃ b, g (nx n p) = some b ∧ wy n (h b) (nx n p) ≠ 0 := by
      by_cases z : r = nx n p
      · exact ⟨k, z ▸ hk, by omega⟩
      · have hne : wy n (h k) (nx n p) ≠ wy n (h k) r := fun e => z (wy_inj (hh k) hr (nx_lt hn0) e.symm)
        obtain ⟨k', h1, h2⟩ := H.way r k (nx n p) hr hrp hk (nx_lt hn0) hn (by omega)
        refine ⟨k', h1, ?_⟩
        unfold Ahd at h2
        omega
    obtain ⟨b, h1, h2⟩ := hb
    rcases hs with hs | ⟨b', h3, h4⟩
    · rw [hs] at h1
      cases h1
    · rw [h1] at h3
      cases h3
      exact h2 h4
  refine ⟨⟨fun r k hr hk q hq hw => ?_, fun r s k hr hs h1 h2 => ?_⟩, fun k => ?_⟩
  · by_cases z : r = p
    · subst z
      rw [up_same] at hk
      cases hk
    · rw [up_ne z] at hk
      by_cases y : q = p
      · subst y
        exact absurd hw (free r k hr z hk)
      · rw [up_ne y]
        exact H.way r k q hr z hk hq y hw
  · have hr' : r ≠ p := fun e => by rw [e, up_same] at h1; cases h1
    have hs' : s ≠ p := fun e => by rw [e, up_same] at h2; cases h2
    rw [up_ne hr'] at h1
    rw [up_ne hs'] at h2
    exact H.inj r s k hr hs hr' hs' h1 h2
  · rw [← H.keys k]
    constructor
    · rintro ⟨q, hq, h1⟩
      have hq' : q ≠ p := fun e => by rw [e, up_same] at h1; cases h1
      rw [up_ne hq'] at h1
      exact ⟨q, hq, hq', h1⟩
    · rintro ⟨q, hq, hne, h1⟩
      exact ⟨q, hq, by rw [up_ne hne]; exact h1⟩
/-- the key behind goes back -/
theorem Hol.back {g : Lay} {p b : Nat} {S : Nat → Prop} (hh : ∀ k, h k < n) (H : Hol n h g p S) (hp : p < n) (hg : g (nx n p) = some b) (hw0 : wy n (h b) (nx n p) ≠ 0) (hn : nx n p ≠ p) : Hol n h (up g p (some b)) (nx n p) S := by
  have hn0 : 0 < n := by omega
  have hnl := nx_lt (n := n) (p := p) hn0
  have hbn := wy_nx0 (hh b) hp hw0
  refine ⟨fun r k q hr hrn hk hq hqn hw => ?_, fun r s k hr hs hrn hsn h1 h2 => ?_, fun k => ?_⟩
  · by_cases z : r = p
    · subst z
      rw [up_same] at hk
      cases hk
      have hqp : q ≠ r := fun e => by rw [e] at hw; exact Nat.lt_irrefl _ hw
      rw [up_ne hqp]
      exact H.way (nx n r) _ q hnl hn hg hq hqp (by omega)
    · rw [up_ne z] at hk
      by_cases y : q = p
      · subst y
        refine ⟨b, up_same, ?_⟩
        have hrl := wy_lt (hh k) hr
        have hkn := wy_nx (hh k) hp (by omega)
        have hne : wy n (h k) (nx n q) ≠ wy n (h k) r := fun e => hrn (wy_inj (hh k) hr hnl e.symm)
        obtain ⟨k', h1, h2⟩ := H.way r k (nx n q) hr z hk hnl hn (by omega)
        rw [hg] at h1
        cases h1
        unfold Ahd at h2 ⊢
        omega
      · rw [up_ne y]
        exact H.way r k q hr z hk hq y hw
  · by_cases z : r = p <;> by_cases z' : s = p
    · rw [z, z']
    · subst z
      rw [up_same] at h1
      cases h1
      rw [up_ne z'] at h2
      exact absurd (H.inj s (nx n r) _ hs hnl z' hn h2 hg) hsn
    · subst z'
      rw [up_same] at h2
      cases h2
      rw [up_ne z] at h1
      exact absurd (H.inj r (nx n s) _ hr hnl z hn h1 hg) hrn
    · rw [up_ne z] at h1
      rw [up_ne z'] at h2
      exact H.inj r s k hr hs z z' h1 h2
  · rw [← H.keys k]
    constructor
    · rintro ⟨q, hq, hne, h1⟩
      by_cases z : q = p
      · subst z
        rw [up_same] at h1
        cases h1
        exact ⟨nx n q, hnl, hn, hg⟩
      · rw [up_ne z] at h1
        exact ⟨q, hq, z, h1⟩
    · rintro ⟨q, hq, hne, h1⟩
      by_cases z : q = nx n p
      · subst z
        rw [hg] at h1
        cases h1
        exact ⟨p, hp, Ne.symm hn, up_same⟩
      · exact ⟨q, hq, z, by rw [up_ne hne]; exact h1⟩
end
end Rg

/-! Pk: which places are taken hangs on the homes alone, and so does the sum of the ways; a lay from behind an empty place goes by homes and keys. No program in sight. -/
namespace Rg
theorem nodup_le' {α : Type} [DecidableEq α] : ∀ {l m : List α}, l.Nodup → (∀ x ∈ l, x ∈ m) → l.length ≤ m.length
  | [], _, _, _ => Nat.zero_le _
  | a :: l, m, hn, hs => by
    have ha : a ∈ m := hs a List.mem_cons_self
    obtain ⟨h1, h2⟩ := List.nodup_cons.mp hn
    have := nodup_le' (l := l) (m := m.erase a) h2 fun x hx => (List.mem_erase_of_ne (fun e => h1 (by rw [← e]; exact hx))).mpr (hs x (List.mem_cons_of_mem _ hx))
    rw [List.length_erase_of_mem ha] at this
    have hp := List.length_pos_of_mem ha
    simp only [List.length_cons]
    omega
structure Park (n : Nat) (T : Nat → Prop) (z : List (Nat × Nat)) : Prop where
  nd : (z.map (·.2)).Nodup
  lt : ∀ x ∈ z, x.1 < n ∧ x.2 < n
  tk : ∀ q, T q ↔ ∃ x ∈ z, x.2 = q
  path : ∀ x ∈ z, ∀ q, q < n → wy n x.1 q ≤ wy n x.1 x.2 → T q
variable {n : Nat} {T T' : Nat → Prop} {z z' : List (Nat × Nat)}
theorem Park.nil : Park n (fun _ => False) [] := ⟨List.nodup_nil, fun _ h => absurd h List.not_mem_nil, fun q => ⟨fun h => h.elim, fun ⟨_, h, _⟩ => absurd h List.not_mem_nil⟩, fun _ h => absurd h List.not_mem_nil⟩
theorem Park.iff (P : Park n T z) (h : ∀ q, T q ↔ T' q) : Park n T' z := ⟨P.nd, P.lt, fun q => (h q).symm.trans (P.tk q), fun x hx q hq hw => (h q).mp (P.path x hx q hq hw)⟩
theorem Park.add {a p : Nat} (P : Park n T z) (ha : a < n) (hp : p < n) (ht : ¬ T p) (hw : ∀ q, q < n → wy n a q < wy n a p → T q) : Park n (fun q => T q ∨ q = p) (z ++ [(a, p)]) := by
  refine ⟨?_, fun x hx => ?_, fun q => ?_, fun x hx q hq h => ?_⟩
  · rw [List.map_append]
    refine List.nodup_append.mpr ⟨P.nd, by simp, fun x hx y hy e => ?_⟩
    rw [List.map_singleton, List.mem_singleton] at hy
    obtain ⟨u, hu, eu⟩ := List.mem_map.mp hx
    exact ht ((P.tk p).mpr ⟨u, hu, by rw [eu, e, hy]⟩)
  · rcases List.mem_append.mp hx with hx | hx
    · exact P.lt x hx
    · rw [List.mem_singleton.mp hx]
      exact ⟨ha, hp⟩
  · constructor
    · rintro (h | h)
      · obtain ⟨x, hx, e⟩ := (P.tk q).mp h
        exact ⟨x, List.mem_append_left _ hx, e⟩
      · exact ⟨(a, p), by simp, h.symm⟩
    · rintro ⟨x, hx, e⟩
      rcases List.mem_append.mp hx with hx | hx
      · exact .inl ((P.tk q).mpr ⟨x, hx, e⟩)
      · rw [List.mem_singleton.mp hx] at e
        exact .inr e.symm
  · rcases List.mem_append.mp hx with hx | hx
    · exact .inl (P.path x hx q hq h)
    · rw [List.mem_singleton.mp hx] at h
      by_cases e : q = p
      · exact .inr e
      · have : wy n a q ≠ wy n a p := fun z => e (wy_inj ha hq hp z)
        exact .inl (hw q hq (by simp only at h; omega))
theorem Park.len_lt (P : Park n T z) {e : Nat} (he : e < n) (ht : ¬ T e) : z.length < n := by
  have h := nodup_le' (m := (List.range n).erase e) P.nd fun q hq => by
    obtain ⟨x, hx, rfl⟩ := List.mem_map.mp hq
    refine (List.mem_erase_of_ne fun z => ht ((P.tk e).mpr ⟨x, hx, z⟩)).mpr (List.mem_range.mpr (P.lt x hx).2)
  rw [List.length_map, List.length_erase_of_mem (List.mem_range.mpr he), List.length_range] at h
  omega
theorem Park.empty (P : Park n T z) (h : z.length < n) : ∃ e, e < n ∧ ¬ T e := by
  by_cases q : ∃ e, e < n ∧ ¬ T e
  · exact q
  · have h1 := nodup_le' (l := List.range n) (m := z.map (·.2)) List.nodup_range fun x hx => by
      by_cases t : T x
      · obtain ⟨y, hy, e⟩ := (P.tk x).mp t
        exact List.mem_map.mpr ⟨y, hy, e⟩
      · exact absurd ⟨x, List.mem_range.mp hx, t⟩ q
    rw [List.length_map, List.length_range] at h1
    omega
/-- the nearest place behind that is not so -/
theorem least_dist {x : Nat} (hx : x < n) : ∀ d, (∃ e, e < n ∧ ¬ T e ∧ wy n e x ≤ d) → ∃ e, e < n ∧ ¬ T e ∧ ∀ q, q < n → wy n q x < wy n e x → T q
  | 0, ⟨e, he, ht, hd⟩ => ⟨e, he, ht, fun q _ h => absurd h (by omega)⟩
  | d + 1, ⟨e, he, ht, hd⟩ => by
    by_cases q : ∃ e', e' < n ∧ ¬ T e' ∧ wy n e' x ≤ d
    · exact least_dist hx d q
    · refine ⟨e, he, ht, fun y hy h => ?_⟩
      by_cases t : T y
      · exact t
      · exact absurd ⟨y, hy, t, by omega⟩ q
theorem arc_home {a p e x : Nat} (ha : a < n) (hp : p < n) (he : e < n) (hx : x < n) (h1 : wy n p x < wy n e x) (h2 : wy n e x ≤ wy n a x) : wy n a e ≤ wy n a p := by
  rcases wy_c n p x with ⟨_, e1⟩ | ⟨_, e1⟩ <;> rcases wy_c n e x with ⟨_, e2⟩ | ⟨_, e2⟩ <;> rcases wy_c n a x with ⟨_, e3⟩ | ⟨_, e3⟩ <;> rcases wy_c n a e with ⟨_, e4⟩ | ⟨_, e4⟩ <;> rcases wy_c n a p with ⟨_, e5⟩ | ⟨_, e5⟩ <;> omega
theorem arc_place {a p x : Nat} (ha : a < n) (hp : p < n) (hx : x < n) (h1 : wy n a p < wy n a x) : wy n p x ≤ wy n a x ∧ p ≠ x := by
  refine ⟨?_, fun e => by rw [e] at h1; exact Nat.lt_irrefl _ h1⟩
  rcases wy_c n p x with ⟨_, e1⟩ | ⟨_, e1⟩ <;> rcases wy_c n a x with ⟨_, e3⟩ | ⟨_, e3⟩ <;> rcases wy_c n a p with ⟨_, e5⟩ | ⟨_, e5⟩ <;> omega
theorem cnt_homes (A : Nat → Bool) (z : List (Nat × Nat)) : (z.filter fun y => A y.1).length = ((z.map (·.1)).filter A).length := by
  rw [List.filter_map, List.length_map]
  rfl
theorem Park.sub (P : Park n T z) (P' : Park n T' z') (hp : (z.map (·.1)).Perm (z'.map (·.1))) (hl : z.length < n) {x : Nat} (hx : x < n) (ht : T' x) : T x := by
  by_cases tx : T x
  · exact tx
  · have hl' : z'.length < n := by
      have := hp.length_eq
      rw [List.length_map, List.length_map] at this
      omega
    obtain ⟨e0, he0, ht0⟩ := P'.empty hl'
    obtain ⟨e, he, hte, hmin⟩ := least_dist (T := T') hx _ ⟨e0, he0, ht0, Nat.le_refl _⟩
    let A : Nat → Bool := fun q => decide (wy n q x < wy n e x)
    have hA : ∀ q, A q = true ↔ wy n q x < wy n e x := fun q => decide_eq_true_iff
    have hxA : A x = true := by
      rw [hA, wy_self]
      rcases Nat.eq_zero_or_pos (wy n e x) with h | h
      · have : wy n e x = wy n e e := by rw [h, wy_self]
        exact absurd (wy_inj he hx he this) fun z => hte (z ▸ ht)
      · exact h
    have c1 : ((List.range n).filter A).length ≤ ((z'.filter fun y => A y.1).map (·.2)).length := nodup_le' (List.Sublist.nodup List.filter_sublist List.nodup_range) fun q hq => by
      obtain ⟨h1, h2⟩ := List.mem_filter.mp hq
      have hqn := List.mem_range.mp h1
      obtain ⟨y, hy, ey⟩ := (P'.tk q).mp (hmin q hqn ((hA q).mp h2))
      obtain ⟨l1, l2⟩ := P'.lt y hy
      refine List.mem_map.mpr ⟨y, List.mem_filter.mpr ⟨hy, ?_⟩, ey⟩
      rw [hA]
      rcases Nat.lt_or_ge (wy n y.1 x) (wy n e x) with h | h
      · exact h
      · exact absurd (P'.path y hy e he (arc_home l1 l2 he hx (by rw [ey]; exact (hA q).mp h2) h)) hte
    have c2 : ((z.filter fun y => A y.1).map (·.2)).length ≤ (((List.range n).filter A).erase x).length := nodup_le' (List.Sublist.nodup (List.Sublist.map _ List.filter_sublist) P.nd) fun q hq => by
      obtain ⟨y, hy, ey⟩ := List.mem_map.mp hq
      obtain ⟨h1, h2⟩ := List.mem_filter.mp hy
      obtain ⟨l1, l2⟩ := P.lt y h1
      have hw : wy n y.1 y.2 < wy n y.1 x := by
        rcases Nat.lt_or_ge (wy n y.1 y.2) (wy n y.1 x) with h | h
        · exact h
        · exact absurd (P.path y h1 x hx h) tx
      obtain ⟨a1, a2⟩ := arc_place l1 l2 hx hw
      subst ey
      refine (List.mem_erase_of_ne a2).mpr (List.mem_filter.mpr ⟨List.mem_range.mpr l2, (hA _).mpr ?_⟩)
      exact Nat.lt_of_le_of_lt a1 ((hA _).mp h2)
    have hxm : x ∈ (List.range n).filter A := List.mem_filter.mpr ⟨List.mem_range.mpr hx, hxA⟩
    have c3 := List.length_pos_of_mem hxm
    rw [List.length_map, cnt_homes] at c1
    rw [List.length_map, cnt_homes, List.length_erase_of_mem hxm] at c2
    have := (hp.filter A).length_eq
    omega
theorem Park.same (P : Park n T z) (P' : Park n T' z') (hp : (z.map (·.1)).Perm (z'.map (·.1))) (hl : z.length < n) {x : Nat} (hx : x < n) : T x ↔ T' x := by
  have := hp.length_eq
  rw [List.length_map, List.length_map] at this
  exact ⟨fun h => P'.sub P hp.symm (by omega) hx h, fun h => P.sub P' hp hl hx h⟩
/-! ### ways -/
theorem wy_cut {a p e : Nat} (ha : a < n) (hp : p < n) (he : e < n) (h : wy n a p < wy n a e) : wy n a p + wy n (nx n e) a = wy n (nx n e) p := by
  rcases nx_c n e with ⟨_, e0⟩ | ⟨_, e0⟩ <;> rw [e0] <;> rcases wy_c n a p with ⟨_, e1⟩ | ⟨_, e1⟩ <;> rcases wy_c n a e with ⟨_, e2⟩ | ⟨_, e2⟩
  · rcases wy_c n (e + 1) a with ⟨_, e3⟩ | ⟨_, e3⟩ <;> rcases wy_c n (e + 1) p with ⟨_, e4⟩ | ⟨_, e4⟩ <;> omega
  · rcases wy_c n (e + 1) a with ⟨_, e3⟩ | ⟨_, e3⟩ <;> rcases wy_c n (e + 1) p with ⟨_, e4⟩ | ⟨_, e4⟩ <;> omega
  · rcases wy_c n (e + 1) a with ⟨_, e3⟩ | ⟨_, e3⟩ <;> rcases wy_c n (e + 1) p with ⟨_, e4⟩ | ⟨_, e4⟩ <;> omega
  · rcases wy_c n (e + 1) a with ⟨_, e3⟩ | ⟨_, e3⟩ <;> rcases wy_c n (e + 1) p with ⟨_, e4⟩ | ⟨_, e4⟩ <;> omega
  · rcases wy_c n 0 a with ⟨_, e3⟩ | ⟨_, e3⟩ <;> rcases wy_c n 0 p with ⟨_, e4⟩ | ⟨_, e4⟩ <;> omega
  · rcases wy_c n 0 a with ⟨_, e3⟩ | ⟨_, e3⟩ <;> rcases wy_c n 0 p with ⟨_, e4⟩ | ⟨_, e4⟩ <;> omega
  · rcases wy_c n 0 a with ⟨_, e3⟩ | ⟨_, e3⟩ <;> rcases wy_c n 0 p with ⟨_, e4⟩ | ⟨_, e4⟩ <;> omega
  · rcases wy_c n 0 a with ⟨_, e3⟩ | ⟨_, e3⟩ <;> rcases wy_c n 0 p with ⟨_, e4⟩ | ⟨_, e4⟩ <;> omega
def far (n : Nat) (z : List (Nat × Nat)) : Nat := (z.map fun y => wy n y.1 y.2).sum
theorem sum_cut {e : Nat} (he : e < n) : ∀ {z : List (Nat × Nat)}, (∀ x ∈ z, x.1 < n ∧ x.2 < n ∧ wy n x.1 x.2 < wy n x.1 e) → far n z + ((z.map (·.1)).map (wy n (nx n e))).sum = ((z.map (·.2)).map (wy n (nx n e))).sum
  | [], _ => rfl
  | y :: z, h => by
    have ih := sum_cut he (z := z) fun x hx => h x (List.mem_cons_of_mem _ hx)
    obtain ⟨h1, h2, h3⟩ := h y List.mem_cons_self
    have := wy_cut h1 h2 he h3
    simp only [far, List.map_cons, List.sum_cons] at ih ⊢
    omega
theorem perm_sum {l m : List Nat} (h : l.Perm m) : l.sum = m.sum := by
  induction h with
  | nil => rfl
  | cons x _ ih => rw [List.sum_cons, List.sum_cons, ih]
  | swap x y l => simp only [List.sum_cons]; omega
  | trans _ _ h1 h2 => exact h1.trans h2
theorem Park.clear (P : Park n T z) {e : Nat} (he : e < n) (ht : ¬ T e) : ∀ x ∈ z, x.1 < n ∧ x.2 < n ∧ wy n x.1 x.2 < wy n x.1 e := fun x hx => by
  obtain ⟨h1, h2⟩ := P.lt x hx
  refine ⟨h1, h2, ?_⟩
  rcases Nat.lt_or_ge (wy n x.1 x.2) (wy n x.1 e) with h | h
  · exact h
  · exact absurd (P.path x hx e he h) ht
theorem Park.far (P : Park n T z) (P' : Park n T' z') (hp : (z.map (·.1)).Perm (z'.map (·.1))) (hl : z.length < n) : far n z = far n z' := by
  obtain ⟨e, he, ht⟩ := P.empty hl
  have ht' : ¬ T' e := fun h => ht ((P.same P' hp hl he).mpr h)
  have s1 := sum_cut he (P.clear he ht)
  have s2 := sum_cut he (P'.clear he ht')
  have q1 := perm_sum (hp.map (wy n (nx n e)))
  have q2 : (z.map (·.2)).Perm (z'.map (·.2)) := (List.perm_ext_iff_of_nodup P.nd P'.nd).mpr fun q => by
    constructor
    · intro h
      obtain ⟨x, hx, ex⟩ := List.mem_map.mp h
      have := (P.same P' hp hl (x := q) (by rw [← ex]; exact (P.lt x hx).2)).mp ((P.tk q).mpr ⟨x, hx, ex⟩)
      obtain ⟨y, hy, ey⟩ := (P'.tk q).mp this
      exact List.mem_map.mpr ⟨y, hy, ey⟩
    · intro h
      obtain ⟨x, hx, ex⟩ := List.mem_map.mp h
      have := (P.same P' hp hl (x := q) (by rw [← ex]; exact (P'.lt x hx).2)).mpr ((P'.tk q).mpr ⟨x, hx, ex⟩)
      obtain ⟨y, hy, ey⟩ := (P.tk q).mp this
      exact List.mem_map.mpr ⟨y, hy, ey⟩
  have q3 := perm_sum (q2.map (wy n (nx n e)))
  omega
/-! ### a lay's keys -/
variable {h : Nat → Nat} {g : Lay}
def keysOf (n : Nat) (g : Lay) : List Nat := (List.range n).filterMap g
theorem mem_keysOf {k : Nat} : k ∈ keysOf n g ↔ ∃ q, q < n ∧ g q = some k := by
  simp only [keysOf, List.mem_filterMap, List.mem_range]
theorem nodup_fm {α β : Type} {f : α → Option β} : ∀ {l : List α}, l.Nodup → (∀ a ∈ l, ∀ b ∈ l, ∀ k, f a = some k → f b = some k → a = b) → (l.filterMap f).Nodup
  | [], _, _ => List.nodup_nil
  | a :: l, hn, hi => by
    obtain ⟨h1, h2⟩ := List.nodup_cons.mp hn
    have ih := nodup_fm (l := l) h2 fun a ha b hb k => hi a (List.mem_cons_of_mem _ ha) b (List.mem_cons_of_mem _ hb) k
    cases e : f a with
    | none => rw [List.filterMap_cons_none e]; exact ih
    | some k =>
      rw [List.filterMap_cons_some e]
      refine List.nodup_cons.mpr ⟨fun hm => ?_, ih⟩
      obtain ⟨b, hb, eb⟩ := List.mem_filterMap.mp hm
      exact h1 (hi a List.mem_cons_self b (List.mem_cons_of_mem _ hb) k e eb ▸ hb)
theorem keysOf_perm {S : List Nat} (hS : S.Nodup) (L : IsLay n h g) (K : Keys n g (· ∈ S)) : (keysOf n g).Perm S :=
  (List.perm_ext_iff_of_nodup (nodup_fm List.nodup_range fun a ha b hb k h1 h2 => L.inj a b k (List.mem_range.mp ha) (List.mem_range.mp hb) h1 h2) hS).mpr fun k => mem_keysOf.trans (K k)
def parkOf (n : Nat) (h : Nat → Nat) (g : Lay) : List (Nat × Nat) := (List.range n).filterMap fun p => (g p).map fun k => (h k, p)
theorem parkOf_home : (parkOf n h g).map (·.1) = (keysOf n g).map h := by
  rw [parkOf, keysOf, List.map_filterMap, List.map_filterMap]
  congr 1
  funext p
  cases g p <;> rfl
theorem parkOf_mem {x : Nat × Nat} : x ∈ parkOf n h g ↔ x.2 < n ∧ ∃ k, g x.2 = some k ∧ h k = x.1 := by
  simp only [parkOf, List.mem_filterMap, List.mem_range, Option.map_eq_some_iff]
  constructor
  · rintro ⟨p, hp, k, hk, rfl⟩
    exact ⟨hp, k, hk, rfl⟩
  · rintro ⟨h1, k, h2, h3⟩
    exact ⟨x.2, h1, k, h2, Prod.ext h3 rfl⟩
/-- keys at places, all places on each one's way taken -/
theorem parkOf_ok (hh : ∀ k, h k < n) (way : ∀ p k, p < n → g p = some k → ∀ q, q < n → wy n (h k) q < wy n (h k) p → g q ≠ none) : Park n (fun q => q < n ∧ g q ≠ none) (parkOf n h g) := by
  refine ⟨?_, fun x hx => ?_, fun q => ?_, fun x hx q hq hw => ⟨hq, ?_⟩⟩
  · have : (parkOf n h g).map (·.2) = (List.range n).filter fun p => (g p).isSome := by
      rw [parkOf, List.map_filterMap]
      rw [← List.filterMap_eq_filter]
      congr 1
      funext p
      cases hg : g p <;> simp [Option.guard, hg]
    rw [this]
    exact List.Sublist.nodup List.filter_sublist List.nodup_range
  · obtain ⟨h1, k, _, h3⟩ := parkOf_mem.mp hx
    exact ⟨h3 ▸ hh k, h1⟩
  · constructor
    · rintro ⟨h1, h2⟩
      cases hg : g q with
      | none => exact absurd hg h2
      | some k => exact ⟨(h k, q), parkOf_mem.mpr ⟨h1, k, hg, rfl⟩, rfl⟩
    · rintro ⟨x, hx, rfl⟩
      obtain ⟨h1, k, h2, _⟩ := parkOf_mem.mp hx
      exact ⟨h1, by rw [h2]; exact Option.some_ne_none _⟩
  · obtain ⟨h1, k, h2, h3⟩ := parkOf_mem.mp hx
    rw [← h3] at hw
    by_cases e : q = x.2
    · rw [e, h2]
      exact Option.some_ne_none _
    · have : wy n (h k) q ≠ wy n (h k) x.2 := fun z => e (wy_inj (hh k) hq h1 z)
      exact way x.2 k h1 h2 q hq (by omega)
theorem IsLay.park (hh : ∀ k, h k < n) (L : IsLay n h g) : Park n (fun q => q < n ∧ g q ≠ none) (parkOf n h g) := parkOf_ok hh fun p k hp hg q hq hw => by
  obtain ⟨k', h1, _⟩ := L.way p k hp hg q hq hw
  rw [h1]
  exact Option.some_ne_none _
/-! ### the order from behind an empty place -/
def Lex (a b : Nat × Nat) : Prop := a.1 < b.1 ∨ (a.1 = b.1 ∧ a.2 < b.2)
theorem IsLay.sorted (hh : ∀ k, h k < n) (L : IsLay n h g) {e p q k k' : Nat} (he : e < n) (hg : g e = none) (hp : p < n) (hq : q < n) (h1 : g p = some k) (h2 : g q = some k') (hlt : wy n (nx n e) p < wy n (nx n e) q) : Lex (wy n (nx n e) (h k), k) (wy n (nx n e) (h k'), k') := by
  have hb : nx n e < n := nx_lt (by omega)
  have clear : ∀ r m, r < n → g r = some m → wy n (h m) r < wy n (h m) e := fun r m hr hm => by
    rcases Nat.lt_or_ge (wy n (h m) r) (wy n (h m) e) with z | z
    · exact z
    · have hne : wy n (h m) e ≠ wy n (h m) r := fun z2 => by
        have := wy_inj (hh m) he hr z2
        rw [this] at hg
        rw [hg] at hm
        cases hm
      obtain ⟨m', h3, _⟩ := L.way r m hr hm e he (by omega)
      rw [hg] at h3
      cases h3
  have c1 := wy_cut (hh k) hp he (clear p k hp h1)
  have c2 := wy_cut (hh k') hq he (clear q k' hq h2)
  rcases Nat.lt_or_ge (wy n (nx n e) p) (wy n (nx n e) (h k')) with z | z
  · exact .inl (by simp only; omega)
  · have hk'p : wy n (h k') p < wy n (h k') e := by
      have := clear q k' hq h2
      rcases Nat.lt_or_ge (wy n (h k') p) (wy n (h k') e) with y | y
      · exact y
      · exfalso
        generalize nx n e = b at *
        rcases nx_c n e with _ | _ <;> rcases wy_c n b p with ⟨_, e1⟩ | ⟨_, e1⟩ <;> rcases wy_c n b q with ⟨_, e2⟩ | ⟨_, e2⟩ <;> rcases wy_c n b (h k') with ⟨_, e3⟩ | ⟨_, e3⟩ <;> rcases wy_c n (h k') p with ⟨_, e4⟩ | ⟨_, e4⟩ <;> rcases wy_c n (h k') q with ⟨_, e5⟩ | ⟨_, e5⟩ <;> rcases wy_c n (h k') e with ⟨_, e6⟩ | ⟨_, e6⟩ <;> have := hh k' <;> omega
    have c3 := wy_cut (hh k') hp he hk'p
    obtain ⟨m, h3, h4⟩ := L.way q k' hq h2 p hp (by omega)
    rw [h1] at h3
    cases h3
    unfold Ahd at h4
    unfold Lex
    simp only
    omega
/-! ### from a place on, all around -/
def rot (n b i : Nat) : Nat := (b + i) % n
theorem rot_c {n b i : Nat} (hb : b < n) (hi : i < n) : (b + i < n ∧ rot n b i = b + i) ∨ (n ≤ b + i ∧ rot n b i = b + i - n) := by
  unfold rot
  rcases Nat.lt_or_ge (b + i) n with h | h
  · exact .inl ⟨h, Nat.mod_eq_of_lt h⟩
  · exact .inr ⟨h, by rw [Nat.mod_eq_sub_mod h, Nat.mod_eq_of_lt (by omega)]⟩
theorem rot_lt {n b i : Nat} (hb : b < n) (hi : i < n) : rot n b i < n := by
  rcases rot_c hb hi with ⟨_, e⟩ | ⟨_, e⟩ <;> omega
theorem wy_rot {n b i : Nat} (hb : b < n) (hi : i < n) : wy n b (rot n b i) = i := by
  rcases rot_c hb hi with ⟨_, e⟩ | ⟨_, e⟩ <;> rcases wy_c n b (rot n b i) with ⟨_, e2⟩ | ⟨_, e2⟩ <;> omega
theorem rot_wy {n b q : Nat} (hb : b < n) (hq : q < n) : rot n b (wy n b q) = q := by
  rcases rot_c hb (wy_lt hb hq) with ⟨_, e⟩ | ⟨_, e⟩ <;> rcases wy_c n b q with ⟨_, e2⟩ | ⟨_, e2⟩ <;> omega
/-- the keys from the j-th place on -/
def fromB (n b : Nat) (g : Lay) (j : Nat) : List Nat := ((List.range n).drop j).filterMap fun i => g (rot n b i)
theorem fromB_some {b j k : Nat} (hj : j < n) (h : g (rot n b j) = some k) : fromB n b g j = k :: fromB n b g (j + 1) := by
  rw [fromB, List.drop_eq_getElem_cons (by simpa using hj), List.getElem_range, List.filterMap_cons]
  simp only [h]
  rfl
theorem fromB_none {b j : Nat} (hj : j < n) (h : g (rot n b j) = none) : fromB n b g j = fromB n b g (j + 1) := by
  rw [fromB, List.drop_eq_getElem_cons (by simpa using hj), List.getElem_range, List.filterMap_cons]
  simp only [h]
  rfl
theorem fromB_perm {S : List Nat} {b : Nat} (hb : b < n) (hS : S.Nodup) (L : IsLay n h g) (K : Keys n g (· ∈ S)) : (fromB n b g 0).Perm S := by
  refine (List.perm_ext_iff_of_nodup (nodup_fm (by simpa using List.nodup_range) fun i hi j hj k h1 h2 => ?_) hS).mpr fun k => ?_
  · have hi : i < n := by simpa using hi
    have hj : j < n := by simpa using hj
    have := L.inj _ _ k (rot_lt hb hi) (rot_lt hb hj) h1 h2
    rw [← wy_rot hb hi, ← wy_rot hb hj, this]
  · refine Iff.trans ?_ (K k)
    simp only [fromB, List.drop_zero, List.mem_filterMap, List.mem_range]
    constructor
    · rintro ⟨i, hi, h1⟩
      exact ⟨_, rot_lt hb hi, h1⟩
    · rintro ⟨q, hq, h1⟩
      exact ⟨wy n b q, wy_lt hb hq, by rw [rot_wy hb hq]; exact h1⟩
theorem fromB_sorted {e : Nat} (hh : ∀ k, h k < n) (L : IsLay n h g) (he : e < n) (hg : g e = none) : (fromB n (nx n e) g 0).Pairwise fun k k' => Lex (wy n (nx n e) (h k), k) (wy n (nx n e) (h k'), k') := by
  have hb : nx n e < n := nx_lt (by omega)
  rw [fromB, List.drop_zero, List.pairwise_filterMap]
  refine List.Pairwise.imp_of_mem ?_ List.pairwise_lt_range
  intro i j hi hj hij k h1 k' h2
  have hi := List.mem_range.mp hi
  have hj := List.mem_range.mp hj
  exact L.sorted hh he hg (rot_lt hb hi) (rot_lt hb hj) h1 h2 (by rw [wy_rot hb hi, wy_rot hb hj]; exact hij)
/-- a carried key comes to stand -/
theorem Car.ends (hh : ∀ k, h k < n) : ∀ d {g : Lay} {c p e : Nat} {S : Nat → Prop}, Car n h g c p S → p < n → e < n → g e = none → wy n p e ≤ d → ∃ g', IsLay n h g' ∧ Keys n g' S
  | d, g, c, p, e, S, C, hp, he, hge, hd => by
    cases hg : g p with
    | none => exact ⟨_, C.put hp hg⟩
    | some o =>
      have hpe : p ≠ e := fun z => by rw [z, hge] at hg; cases hg
      have hst := wy_step hp he hpe
      have hnl := nx_lt (n := n) (p := p) (by omega)
      cases d with
      | zero => omega
      | succ d =>
        by_cases ha : Ahd n h c o p
        · exact Car.ends hh d (C.swap hh hp he hge hg ha) hnl he (by rw [up_ne (Ne.symm hpe)]; exact hge) (by omega)
        · exact Car.ends hh d (C.on hh hp he hge hg ha) hnl he hge (by omega)
theorem lay_ex (hh : ∀ k, h k < n) (hn : 0 < n) : ∀ {S : List Nat}, S.Nodup → S.length < n → ∃ g, IsLay n h g ∧ Keys n g (· ∈ S)
  | [], _, _ => ⟨fun _ => none, ⟨fun _ _ _ hk => by (cases hk), fun _ _ _ _ _ hk => by (cases hk)⟩, fun k => ⟨fun ⟨_, _, hk⟩ => by (cases hk), fun hk => absurd hk List.not_mem_nil⟩⟩
  | k :: S, hnd, hl => by
    obtain ⟨h1, h2⟩ := List.nodup_cons.mp hnd
    obtain ⟨g, L, K⟩ := lay_ex hh hn (S := S) h2 (by simp only [List.length_cons] at hl; omega)
    have hlen : (parkOf n h g).length < n := by
      have e1 := congrArg List.length (parkOf_home (n := n) (h := h) (g := g))
      have e2 := (keysOf_perm h2 L K).length_eq
      rw [List.length_map, List.length_map] at e1
      simp only [List.length_cons] at hl
      omega
    obtain ⟨e, he, hge⟩ := (L.park hh).empty hlen
    have hg0 : g e = none := by
      cases hg : g e with
      | none => rfl
      | some k => exact absurd ⟨he, by rw [hg]; exact Option.some_ne_none _⟩ hge
    obtain ⟨g', L', K'⟩ := Car.ends hh _ (Lk.zero.car L K h1) (hh k) he hg0 (Nat.le_refl _)
    exact ⟨g', L', fun x => (K' x).trans (by
      show (x ∈ S ∨ x = k) ↔ x ∈ k :: S
      rw [List.mem_cons, or_comm])⟩
def swp (p0 p1 q : Nat) : Nat := if q = p0 then p1 else if q = p1 then p0 else q
theorem swp_up {p0 p1 k0 k1 : Nat} (h0 : g p0 = some k0) (h1 : g p1 = some k1) (hne : p0 ≠ p1) (q : Nat) : up (up g p0 (some k1)) p1 (some k0) q = g (swp p0 p1 q) := by
  unfold up swp
  by_cases e1 : q = p1
  · subst e1
    rw [if_pos rfl, if_neg (Ne.symm hne), if_pos rfl, h0]
  · rw [if_neg e1]
    by_cases e0 : q = p0
    · subst e0
      rw [if_pos rfl, if_pos rfl, h1]
    · rw [if_neg e0, if_neg e0, if_neg e1]
theorem swp_lt {p0 p1 q : Nat} (h0 : p0 < n) (h1 : p1 < n) (hq : q < n) : swp p0 p1 q < n := by
  unfold swp
  split
  · exact h1
  · split
    · exact h0
    · exact hq
theorem swp_swp {p0 p1 q : Nat} : swp p0 p1 (swp p0 p1 q) = q := by
  unfold swp
  by_cases e0 : q = p0
  · subst e0
    rw [if_pos rfl]
    by_cases e1 : p1 = q
    · rw [if_pos e1, e1]
    · rw [if_neg e1, if_pos rfl]
  · rw [if_neg e0]
    by_cases e1 : q = p1
    · subst e1
      rw [if_pos rfl, if_pos rfl]
    · rw [if_neg e1, if_neg e0, if_neg e1]
/-- two lays of the same keys are one -/
theorem IsLay.uniq {S : List Nat} {g' : Lay} (hh : ∀ k, h k < n) (hS : S.Nodup) (hn : S.length < n) (L : IsLay n h g) (K : Keys n g (· ∈ S)) (L' : IsLay n h g') (K' : Keys n g' (· ∈ S)) : ∀ q, q < n → g q = g' q := by
  have hlen : (parkOf n h g).length < n := by
    have h1 := congrArg List.length (parkOf_home (n := n) (h := h) (g := g))
    have h2 := (keysOf_perm hS L K).length_eq
    rw [List.length_map, List.length_map] at h1
    omega
  have hp : ((parkOf n h g).map (·.1)).Perm ((parkOf n h g').map (·.1)) := by
    rw [parkOf_home, parkOf_home]
    exact (((keysOf_perm hS L K)).trans (keysOf_perm hS L' K').symm).map h
  have hT := fun q (hq : q < n) => (L.park hh).same (L'.park hh) hp hlen (x := q) hq
  obtain ⟨e, he, hge⟩ := (L.park hh).empty hlen
  have hg0 : g e = none := by
    cases hg : g e with
    | none => rfl
    | some k => exact absurd ⟨he, by rw [hg]; exact Option.some_ne_none _⟩ hge
  have hg1 : g' e = none := by
    cases hg : g' e with
    | none => rfl
    | some k => exact absurd ((hT e he).mpr ⟨he, by rw [hg]; exact Option.some_ne_none _⟩) hge
  have hb : nx n e < n := nx_lt (by omega)
  have hl : fromB n (nx n e) g 0 = fromB n (nx n e) g' 0 := by
    refine List.Perm.eq_of_pairwise (le := fun k k' => Lex (wy n (nx n e) (h k), k) (wy n (nx n e) (h k'), k')) (fun a b _ _ h1 h2 => ?_) (fromB_sorted hh L he hg0) (fromB_sorted hh L' he hg1) ((fromB_perm hb hS L K).trans (fromB_perm hb hS L' K').symm)
    unfold Lex at h1 h2
    simp only at h1 h2
    omega
  have step : ∀ d j, j + d = n → fromB n (nx n e) g j = fromB n (nx n e) g' j → ∀ i, j ≤ i → i < n → g (rot n (nx n e) i) = g' (rot n (nx n e) i) := by
    intro d
    induction d with
    | zero => intro j hj _ i h1 h2; omega
    | succ d ih =>
      intro j hj hf i h1 h2
      have hjn : j < n := by omega
      have ht := hT _ (rot_lt hb hjn)
      cases ha : g (rot n (nx n e) j) with
      | none =>
        have ha' : g' (rot n (nx n e) j) = none := by
          cases hb' : g' (rot n (nx n e) j) with
          | none => rfl
          | some k => exact absurd ha (ht.mpr ⟨rot_lt hb hjn, by rw [hb']; exact Option.some_ne_none _⟩).2
        rw [fromB_none hjn ha, fromB_none hjn ha'] at hf
        by_cases e1 : i = j
        · rw [e1, ha, ha']
        · exact ih (j + 1) (by omega) hf i (by omega) h2
      | some k =>
        cases hb' : g' (rot n (nx n e) j) with
        | none => exact absurd hb' (ht.mp ⟨rot_lt hb hjn, by rw [ha]; exact Option.some_ne_none _⟩).2
        | some k' =>
          rw [fromB_some hjn ha, fromB_some hjn hb', List.cons.injEq] at hf
          by_cases e1 : i = j
          · rw [e1, ha, hb', hf.1]
          · exact ih (j + 1) (by omega) hf.2 i (by omega) h2
  intro q hq
  have := step n 0 (by omega) hl (wy n (nx n e) q) (Nat.zero_le _) (wy_lt hb hq)
  rw [rot_wy hb hq] at this
  exact this
end Rg

/-! Ob: instances, their methods, their making, in the logic of Lg. -/
namespace Lg
open PySem PySem.Spec PyProof.Rows L2
section
variable {P : Program} {w : World} {K : PySem.W.Frag} {mg : Str → Option Value} {base : Heap} {CX : CXT} {k k' : Nat} {st : Stmt} {ps Ns : List Str} {sp : Sp} {X : Cx} {E : XK} {z m qual : Str} {p pos apos : Pos} {e o : Expr} {es : List Expr} {C : Addr} {ta : TE} {t : TA}
/-- what a caller knows of a method -/
def MetW (P : Program) (w : World) (K : PySem.W.Frag) (mg : Str → Option Value) (base : Heap) (CX : CXT) (k : Nat) (C : Addr) (m : Str) (ps : List Str) (sp : Sp) : Prop :=
  ∃ f fd, Cls K C ∧ Meth K C m f ∧ FnOk P w K mg base CX k f fd ps sp ∧ Binds K fd ps []
/-- a method's place -/
def DnM (K : PySem.W.Frag) (C : Addr) (m qual : Str) (st : Stmt) (ps : List Str) : Prop := ∃ f fd, Fun K m qual st f fd ∧ Cls K C ∧ Meth K C m f ∧ Binds K fd ps []
theorem met_mk (D : DnM K C m qual st ps) (S : FnScope Ns ps (defScope st)) (len : ∀ vs H Q E, sp vs H Q E → vs.length = ps.length)
    (hbody : ∀ (f : Addr) (cdv : Value) (A : Around) (outer : List Env) (s : Shared) (H : Hp) (vs : List V) (Q : VK) (E : XK), Room k (A.deeper (envOfC qual (defScope st) s.heap.objs.size f cdv)) → sp vs H Q E →
      ∃ t, PSs (cxOf (L2N.CX P w) P w K mg base Ns qual (defScope st) f cdv A outer s H E) (defBody st) t ∧ t { nx := fun _ H' => Q .non H', rt := Q } (start Ns vs) H) : MetW P w K mg base (L2N.CX P w) (k + 1) C m ps sp := by
  obtain ⟨f, fd, F, c, hm, hb⟩ := D
  exact ⟨f, fd, c, hm, fn_mk F S len (hbody f), hb⟩
theorem pe_met {pl : Sem Bool} (c : MetW X.prog X.w X.K X.mg X.base CX k C m ps sp) (hr : Room k' X.A) (hk : k ≤ k') (hx : Passes CX X E) (he : PE X o ta) (ha : PA X (e :: es) t)
    (hst : starEach (e :: es) X.env = (false, eval e X.env) :: starEach es X.env := by rfl) (hpl : (backTo pos (starEach es X.env)).any (·.1) = false := by rfl)
    (ht : eval (.Call (.Attribute o m apos) (e :: es) [] pos) X.env = (do
      let ov ← eval o X.env
      standAt apos.atName
      let (f, first) ← holding [ov] (getMethod ov m pl)
      callWith pos f first (backTo pos (starEach (e :: es) X.env)) (backToKw pos (keywordEach [] X.env))) := by rfl) :
    PE X (.Call (.Attribute o m apos) (e :: es) [] pos) (tMeth C m sp [] E ta t) := by
  obtain ⟨f, fd, hc, hm, F, b⟩ := c
  exact pe_meth (pl := pl) he hc hm F (hr.mono hk) b .nil hx ha hst hpl ht
theorem pe_met0 {pl : Sem Bool} (c : MetW X.prog X.w X.K X.mg X.base CX k C m ps sp) (hr : Room k' X.A) (hk : k ≤ k') (hx : Passes CX X E) (he : PE X o ta)
    (ht : eval (.Call (.Attribute o m apos) [] [] pos) X.env = (do
      let ov ← eval o X.env
      standAt apos.atName
      let (f, first) ← holding [ov] (getMethod ov m pl)
      callWith pos f first (backTo pos (starEach [] X.env)) (backToKw pos (keywordEach [] X.env))) := by rfl) :
    PE X (.Call (.Attribute o m apos) [] [] pos) (tMeth C m sp [] E ta tNil) := by
  obtain ⟨f, fd, hc, hm, F, b⟩ := c
  exact pe_meth0 (pl := pl) he hc hm F (hr.mono hk) b .nil hx ht
/-- what a caller knows of a class that he makes -/
def MakW (P : Program) (w : World) (K : PySem.W.Frag) (mg : Str → Option Value) (base : Heap) (CX : CXT) (k : Nat) (x : Str) (C : Addr) (ps : List Str) (sp : Sp) : Prop :=
  ∃ f fd, Mk K C f ∧ FnOk P w K mg base CX k f fd ps sp ∧ mg x = some (.ref C) ∧ Binds K fd ps []
theorem mak_mk (M : MetW P w K mg base CX k C "__init__" ps sp) (hm : mg z = some (.ref C)) (h1 : PySem.W.makesIn K C = true) (h2 : PySem.W.keepIn K (.ref C) = true) : MakW P w K mg base CX k z C ps sp := by
  obtain ⟨f, fd, _, me, F, b⟩ := M
  exact ⟨f, fd, ⟨h1, me.at_, me.fn, h2⟩, F, hm, b⟩
theorem pe_mkW (c : MakW X.prog X.w X.K X.mg X.base CX k z C ps sp) (hr : Room k' X.A) (hk : k + 1 ≤ k') (hg : Gl X z) (hx : Passes CX X E) (ha : PA X (e :: es) t)
    (hdb : (z == ("__debug__" : Str)) = false := by decide) (he : starEach (e :: es) X.env = (false, eval e X.env) :: starEach es X.env := by rfl) (hpl : (backTo pos (starEach es X.env)).any (·.1) = false := by rfl) :
    PE X (.Call (.Name z p) (e :: es) [] pos) (tMake C sp [] E t) := by
  obtain ⟨f, fd, M, F, hm, b⟩ := c
  exact pe_make M F (hr.mono hk) hg hm b .nil hx ha hdb he hpl
/-- o.m(e, ..) in a try's body -/
def tMethT (C : Addr) (m : Str) (sp : Sp) (E : Sg → XK) (ta : TE) (t : TA) : TE := fun σ H Q => ta σ H fun x H1 => ∃ a dx fs, x = .ref a ∧ H1 a = some (.ins C dx fs) ∧ fs.lookup m = none ∧ t σ H1 fun vs H2 => sp (x :: vs) H2 Q (E σ)
def tMakeT (C : Addr) (sp : Sp) (E : Sg → XK) (t : TA) : TE := fun σ H Q => t σ H fun vs H1 => ∀ x dx, H1 x = none → H1 dx = none → dx ≠ x → sp (.ref x :: vs) (upd (upd H1 dx (.own x)) x (.ins C dx [])) (fun v H2 => v = .non ∧ Q (.ref x) H2) (E σ)
theorem pe_metT {E : Sg → XK} {pl : Sem Bool} (c : MetW X.prog X.w X.K X.mg X.base CX k C m ps sp) (hr : Room k' X.A) (hk : k ≤ k') (hx : ∀ σ, PassesAt CX X σ (E σ)) (he : PE X o ta) (ha : PA X (e :: es) t)
    (hst : starEach (e :: es) X.env = (false, eval e X.env) :: starEach es X.env := by rfl) (hpl : (backTo pos (starEach es X.env)).any (·.1) = false := by rfl)
    (ht : eval (.Call (.Attribute o m apos) (e :: es) [] pos) X.env = (do
      let ov ← eval o X.env
      standAt apos.atName
      let (f, first) ← holding [ov] (getMethod ov m pl)
      callWith pos f first (backTo pos (starEach (e :: es) X.env)) (backToKw pos (keywordEach [] X.env))) := by rfl) :
    PE X (.Call (.Attribute o m apos) (e :: es) [] pos) (tMethT C m sp E ta t) := by
  obtain ⟨f, fd, hc, hm, F, b⟩ := c
  refine ⟨fun pins s σ H Q I h => ?_⟩
  refine PySem.W.methodCall_KW (pl := pl) (thn (he.run pins s σ H _ I h) fun u s1 ⟨x, H1, I1, rx, a, dx, fs, ex, ea, l, q⟩ => ?_) ht
  subst ex
  obtain rfl : u = Value.ref a := rx
  refine getmeth_ok I1 ea hc hm l ?_
  refine PySem.W.callWith_K (first := [.ref a]) (h₀ := X.base) I.ok.mod.kin hm.kp (thn (ha.run pos pins s1 σ H1 _ I1 q) fun us s2 ⟨vs, H2, I2, r, q2⟩ => ⟨I2.kIn, ?_⟩) hst hpl
  exact run_fnS (us := .ref a :: us) (vs := .ref a :: vs) F (hr.mono hk) b (hx σ) I2 (.cons rfl r) q2
theorem run_makeT {E : Sg → XK} {f : Addr} {fd : FuncData} {pins : List (Addr × Obj)} {σ : Sg} {H : Hp} {s : Shared} {Q : VK} {us : List Value} {vs : List V} (M : Mk X.K C f) (F : FnOk X.prog X.w X.K X.mg X.base CX k f fd ps sp) (hr : Room (k + 1) X.A) (hb : Binds X.K fd ps [])
    (hx : PassesAt CX X σ (E σ)) (I : Inv X pins σ H s) (r : Vals vs us)
    (h : ∀ x dx, H x = none → H dx = none → dx ≠ x → sp (.ref x :: vs) (upd (upd H dx (.own x)) x (.ins C dx [])) (fun v H2 => v = .non ∧ Q (.ref x) H2) (E σ)) :
    wpAny (model X.prog X.w) X.A (call (.ref C) us) (EP X pins σ Q) X.xe s := by
  have hq := h (s.heap.objs.size + 1) s.heap.objs.size (I.hok.fresh (Nat.le_succ _)) (I.hok.fresh (Nat.le_refl _)) (Nat.ne_of_lt (Nat.lt_succ_self _))
  have I2 := Inv.made (C := C) I
  have r2 : Vals (V.ref (s.heap.objs.size + 1) :: vs) (Value.ref (s.heap.objs.size + 1) :: us) := .cons rfl r
  have hl : (Value.ref (s.heap.objs.size + 1) :: us).length = ps.length := by
    have e := r2.length
    rw [F.len _ _ _ _ hq] at e
    exact e.symm
  have hbb := hb _ (Value.ref (s.heap.objs.size + 1) :: us) I2.kIn (by rw [List.append_nil]; exact hl)
  rw [List.append_nil] at hbb
  refine wpAny_call (make_map (f := f) I.kIn M.makes M.init (beq_iff_eq.mp M.fn) (codeAny_mono (F.run _ X.stack _ _ ⟨Value.ref (s.heap.objs.size + 1) :: us, []⟩ (Value.ref (s.heap.objs.size + 1) :: us) _ _ (E σ) (hr.make C us [])
    (I2.env0.make C us []) hbb r2 hq) fun r s' hq' => ?_))
  cases r with
  | error e => exact hx pins _ _ e s' I2 hq'
  | ok fl =>
    cases fl with
    | ret u =>
      obtain ⟨v, H', I3, rv, ev, q3⟩ := I2.after hq'
      subst ev
      exact ⟨rv, ⟨V.ref (s.heap.objs.size + 1), H', I3, rfl, q3⟩⟩
    | next => exact False.elim hq'
    | brk => exact False.elim hq'
    | cont => exact False.elim hq'
theorem pe_mkT {E : Sg → XK} (c : MakW X.prog X.w X.K X.mg X.base CX k z C ps sp) (hr : Room k' X.A) (hk : k + 1 ≤ k') (hg : Gl X z) (hx : ∀ σ, PassesAt CX X σ (E σ)) (ha : PA X (e :: es) t)
    (hdb : (z == ("__debug__" : Str)) = false := by decide) (he : starEach (e :: es) X.env = (false, eval e X.env) :: starEach es X.env := by rfl) (hpl : (backTo pos (starEach es X.env)).any (·.1) = false := by rfl) :
    PE X (.Call (.Name z p) (e :: es) [] pos) (tMakeT C sp E t) := by
  obtain ⟨f, fd, M, F, hm, b⟩ := c
  refine ⟨fun pins s σ H Q I h => ?_⟩
  refine wpAny_Call_Name_kw (ld_glob I hg hm ?_ hdb)
  refine PySem.W.callWith_K (h₀ := X.base) I.ok.mod.kin M.kp (thn (ha.run pos pins s σ H _ I h) fun us s1 ⟨vs, H1, I1, r, q⟩ => ⟨I1.kIn, ?_⟩) he hpl
  exact run_makeT M F (hr.mono hk) b (hx σ) I1 r q
end
variable {K : PySem.W.Frag} {σ : Sg} {H : Hp} {ta tv : TE} {t : TA} {Q : PV} {N B C' : PS'} {R : PV} {f m : Str} {sp : Sp} {E : XK} {C : Addr}
theorem e_fld (k : kE ta σ H fun x H1 => ∃ a C dx fs v, x = .ref a ∧ H1 a = some (.ins C dx fs) ∧ Cls K C ∧ NoAttr K C f ∧ fs.lookup f = some v ∧ Q v H1) : kE (tFld K ta f) σ H Q := fun H1 e _ q => k H1 e _ fun x H0 H2 ⟨a, C, dx, fs, v, h1, h2, h3, h4, h5, h6⟩ e2 =>
  ⟨a, C, dx, fs, v, h1, e2 _ _ h2, h3, h4, h5, q _ _ _ h6 e2⟩
theorem s_fld (k : kE tv σ H fun y H1 => kE ta σ H1 fun x H2 => ∃ a C dx fs, x = .ref a ∧ H2 a = some (.ins C dx fs) ∧ Cls K C ∧ NoAttr K C f ∧ fs.length < 1000 ∧ N σ (upd H2 a (.ins C dx (putF f y fs)))) : kS (sFld K ta tv f) N R B C' σ H := fun H1 e D hn _ _ _ =>
  k H1 e _ fun y H0 H2 hx e2 => hx H2 e2 _ fun x H3 H4 ⟨a, C, dx, fs, h1, h2, h3, h4, h5, h6⟩ e4 => ⟨a, C, dx, fs, h1, e4 _ _ h2, h3, h4, h5, hn _ _ _ h6 (e4.ups a _)⟩
theorem e_meth (k : kE ta σ H fun x H1 => ∃ a dx fs, x = .ref a ∧ H1 a = some (.ins C dx fs) ∧ fs.lookup m = none ∧ kA t σ H1 fun vs H2 => kC (fun ws H Q => sp ws H Q E) (x :: vs) H2 Q) : kE (tMeth C m sp [] E ta t) σ H Q := fun H1 e Q1 q => k H1 e _ fun x H0 H2 ⟨a, dx, fs, h1, h2, h3, h4⟩ e2 =>
  ⟨a, dx, fs, h1, e2 _ _ h2, h3, h4 H2 e2 _ fun vs H3 H4 hc e4 => by
    rw [List.append_nil]
    exact hc H4 e4 _ q⟩
theorem e_methT {E : Sg → XK} (k : kE ta σ H fun x H1 => ∃ a dx fs, x = .ref a ∧ H1 a = some (.ins C dx fs) ∧ fs.lookup m = none ∧ kA t σ H1 fun vs H2 => kC (fun ws H Q => sp ws H Q (E σ)) (x :: vs) H2 Q) : kE (tMethT C m sp E ta t) σ H Q := fun H1 e Q1 q => k H1 e _ fun x H0 H2 ⟨a, dx, fs, h1, h2, h3, h4⟩ e2 =>
  ⟨a, dx, fs, h1, e2 _ _ h2, h3, h4 H2 e2 _ fun vs H3 H4 hc e4 => hc H4 e4 _ q⟩
theorem e_makeT {E : Sg → XK} (k : kA t σ H fun vs H1 => ∀ x dx, H1 x = none → H1 dx = none → dx ≠ x → kC (fun ws H Q => sp ws H Q (E σ)) (.ref x :: vs) (upd (upd H1 dx (.own x)) x (.ins C dx [])) fun v H2 => v = .non ∧ Q (.ref x) H2) : kE (tMakeT C sp E t) σ H Q := fun H1 e Q1 q => k H1 e _ fun vs H0 H2 hk e2 x dx hx hdx hne =>
  hk x dx (e2.fresh hx) (e2.fresh hdx) hne _ ((e2.ups dx _).ups x _) _ fun v H3 H4 ⟨hv, hq⟩ e4 => ⟨hv, q _ _ _ hq e4⟩
theorem e_make (k : kA t σ H fun vs H1 => ∀ x dx, H1 x = none → H1 dx = none → dx ≠ x → kC (fun ws H Q => sp ws H Q E) (.ref x :: vs) (upd (upd H1 dx (.own x)) x (.ins C dx [])) fun v H2 => v = .non ∧ Q (.ref x) H2) : kE (tMake C sp [] E t) σ H Q := fun H1 e Q1 q => k H1 e _ fun vs H0 H2 hk e2 x dx hx hdx hne => by
  rw [List.append_nil]
  exact hk x dx (e2.fresh hx) (e2.fresh hdx) hne _ ((e2.ups dx _).ups x _) _ fun v H3 H4 ⟨hv, hq⟩ e4 => ⟨hv, q _ _ _ hq e4⟩
/-- what the classes must have -/
structure RingC (K : PySem.W.Frag) (C : Addr) : Prop where
  c : Cls K C
  rule : NoAttr K C "rule"
  size : NoAttr K C "size"
  places : NoAttr K C "places"
  many : NoAttr K C "many"
structure RowC (K : PySem.W.Frag) (C : Addr) : Prop where
  c : Cls K C
  ring : NoAttr K C "ring"
end Lg

/-! Ly: rows in the heap: the ring's fields, its places, what is kept beside. -/
namespace Lg
open PySem PySem.Spec PyProof.Rows L2
def oV : Option Nat → V
  | none => .non
  | some n => .int (n : Int)
theorem frO_at {l : List (Option Nat)} {p : Nat} (h : p < l.length) : ((l.map oV)[p]? = some (oV (l.getD p none))) := by
  rw [List.getElem?_map, List.getD_eq_getElem?_getD, List.getElem?_eq_getElem h]
  rfl
def gL (L : List (Option Nat)) : Rg.Lay := fun p => L.getD p none
theorem gL_at {L : List (Option Nat)} {p : Nat} (h : p < L.length) : (L.map oV)[p]? = some (oV (gL L p)) := frO_at h
theorem gL_set {L : List (Option Nat)} {p : Nat} {v : Option Nat} (h : p < L.length) : gL (L.set p v) = Rg.up (gL L) p v := by
  funext q
  unfold gL Rg.up
  rw [List.getD_eq_getElem?_getD, List.getElem?_set]
  by_cases e : q = p
  · subst e
    simp [h]
  · rw [if_neg (Ne.symm e), if_neg e, ← List.getD_eq_getElem?_getD]
theorem gL_ext {L M : List (Option Nat)} (hl : L.length = M.length) (h : ∀ p, p < L.length → gL L p = gL M p) : L = M := by
  refine List.ext_getElem hl fun i h1 h2 => ?_
  have := h i h1
  unfold gL at this
  rw [List.getD_eq_getElem?_getD, List.getD_eq_getElem?_getD, List.getElem?_eq_getElem h1, List.getElem?_eq_getElem h2] at this
  exact this
theorem gL_out {L : List (Option Nat)} {p : Nat} (h : L.length ≤ p) : gL L p = none := by
  unfold gL
  rw [List.getD_eq_getElem?_getD, List.getElem?_eq_none h]
  rfl
theorem wy_emod {n a p : Nat} (ha : a < n) (hp : p < n) : ((p : Int) - (a : Int)) % (n : Int) = ((Rg.wy n a p : Nat) : Int) := by
  rw [Rg.wy_mod ha hp, Int.natCast_emod, ← Int.add_emod_right]
  congr 1
  omega
theorem nx_emod {n p : Nat} (hp : p < n) : ((p : Int) + 1) % (n : Int) = ((Rg.nx n p : Nat) : Int) := by
  rw [Rg.nx_mod hp]
  push_cast
  rfl
/-! ### what is kept beside -/
def rest (H : Hp) (xs : List Addr) : Hp := fun x => if x ∈ xs then none else H x
theorem Ex.rest {B H : Hp} {xs : List Addr} (e : Ex B H) (h : ∀ x ∈ xs, B x = none) : Ex B (rest H xs) := fun a o ha => by
  unfold Lg.rest
  rw [if_neg fun m => by rw [h a m] at ha; cases ha]
  exact e _ _ ha
theorem rest_ex {H : Hp} {xs : List Addr} : Ex (rest H xs) H := fun a o ha => by
  unfold Lg.rest at ha
  split at ha
  · cases ha
  · exact ha
theorem rest_none {H : Hp} {xs : List Addr} {a : Addr} (h : a ∈ xs) : rest H xs a = none := if_pos h
theorem rest_get {H : Hp} {xs : List Addr} {a : Addr} (h : a ∉ xs) : rest H xs a = H a := if_neg h
/-! ### rings -/
structure WfL (r : Rl) (n : Nat) (L : List (Option Nat)) (S : List Nat) : Prop where
  lay : Rg.IsLay n (fun k => homeN r k n) (gL L)
  keys : Rg.Keys n (gL L) (· ∈ S)
  nd : S.Nodup
  room : S.length < n
  small : ∀ k ∈ S, k ≤ 999999
theorem hN_lt {r : Rl} {n : Nat} (h : 0 < n) : ∀ k, (fun k => homeN r k n) k < n := fun _ => homeN_lt h
theorem ahd_iff {r : Rl} {n one other place : Nat} : Rg.Ahd n (fun k => homeN r k n) one other place ↔ (Rg.wy n (homeN r other n) place < Rg.wy n (homeN r one n) place ∨ (Rg.wy n (homeN r one n) place = Rg.wy n (homeN r other n) place ∧ one < other)) := Iff.rfl
variable {K : PySem.W.Frag} {cs : Cs} {B H H' : Hp} {a p : Addr} {v : V} {r : Rl} {n m : Nat} {L : List (Option Nat)} {S : List Nat}
theorem WfL.park (w : WfL r n L S) : Rg.Park n (fun q => q < n ∧ gL L q ≠ none) (Rg.parkOf n (fun k => homeN r k n) (gL L)) := w.lay.park (hN_lt (by have := w.room; omega))
theorem WfL.park_len (w : WfL r n L S) : (Rg.parkOf n (fun k => homeN r k n) (gL L)).length = S.length := by
  have h1 := congrArg List.length (Rg.parkOf_home (n := n) (h := fun k => homeN r k n) (g := gL L))
  have h2 := (Rg.keysOf_perm w.nd w.lay w.keys).length_eq
  rw [List.length_map, List.length_map] at h1
  omega
theorem WfL.free (w : WfL r n L S) : ∃ e, e < n ∧ gL L e = none := by
  obtain ⟨e, he, h⟩ := w.park.empty (by rw [w.park_len]; exact w.room)
  refine ⟨e, he, ?_⟩
  cases hg : gL L e with
  | none => rfl
  | some k => exact absurd ⟨he, by rw [hg]; exact Option.some_ne_none _⟩ h
theorem WfL.nil (h : 1 ≤ n) : WfL r n (List.replicate n none) [] := by
  have e : ∀ q, gL (List.replicate n none) q = none := fun q => by
    unfold gL
    rw [List.getD_eq_getElem?_getD, List.getElem?_replicate]
    split <;> rfl
  refine ⟨⟨fun q k _ hk => ?_, fun q s k _ _ hk => ?_⟩, fun k => ⟨fun ⟨q, _, hk⟩ => ?_, fun hk => absurd hk List.not_mem_nil⟩, List.nodup_nil, h, fun k hk => absurd hk List.not_mem_nil⟩ <;> (rw [e] at hk; cases hk)
theorem WfL.at_small (w : WfL r n L S) {q k : Nat} (hq : q < n) (h : gL L q = some k) : k ≤ 999999 := w.small k ((w.keys k).mp ⟨q, hq, h⟩)
theorem gL_map {g : Rg.Lay} {p : Nat} (h : p < n) : gL ((List.range n).map g) p = g p := by
  unfold gL
  rw [List.getD_eq_getElem?_getD, List.getElem?_map, List.getElem?_range h]
  rfl
theorem WfL.ex (hn : 0 < n) (hS : S.Nodup) (hl : S.length < n) (hs : ∀ k ∈ S, k ≤ 999999) : ∃ L, L.length = n ∧ WfL r n L S := by
  obtain ⟨g, L1, K1⟩ := Rg.lay_ex (h := fun k => homeN r k n) (hN_lt hn) hn hS hl
  refine ⟨(List.range n).map g, by simp, ⟨fun p k hp hk q hq hw => ?_, fun p q k hp hq h1 h2 => ?_⟩, fun k => ?_, hS, hl, hs⟩
  · rw [gL_map hp] at hk
    rw [gL_map hq]
    exact L1.way p k hp hk q hq hw
  · rw [gL_map hp] at h1
    rw [gL_map hq] at h2
    exact L1.inj p q k hp hq h1 h2
  · rw [← K1 k]
    constructor
    · rintro ⟨q, hq, h1⟩
      exact ⟨q, hq, (gL_map (g := g) hq).symm.trans h1⟩
    · rintro ⟨q, hq, h1⟩
      exact ⟨q, hq, (gL_map (g := g) hq).trans h1⟩
def RingAt (cs : Cs) (H : Hp) (a p : Addr) (v : V) (n m : Nat) (L : List (Option Nat)) : Prop :=
  (∃ dx, H a = some (.ins cs.Ring dx [("rule", v), ("size", .int (n : Int)), ("places", .ref p), ("many", .int (m : Int))])) ∧ H p = some (.lst (L.map oV)) ∧ L.length = n
theorem RingAt.up (h : RingAt cs H a p v n m L) (e : Ex H H') : RingAt cs H' a p v n m L := ⟨h.1.imp fun _ x => e _ _ x, e _ _ h.2.1, h.2.2⟩
theorem RingAt.ne (h : RingAt cs H a p v n m L) : a ≠ p := fun e => by
  obtain ⟨⟨dx, h1⟩, h2, _⟩ := h
  rw [e, h2] at h1
  cases h1
structure RingB (cs : Cs) (B H : Hp) (a p : Addr) (v : V) (r : Rl) (n m : Nat) (L : List (Option Nat)) : Prop where
  ex : Ex B H
  ba : B a = none
  bp : B p = none
  at_ : RingAt cs H a p v n m L
  rl : IsRl B v r
  ok : r.ok
  n2 : 2 ≤ n
  n9 : n ≤ 1024
theorem RingB.up (h : RingB cs B H a p v r n m L) (e : Ex H H') : RingB cs B H' a p v r n m L := ⟨h.ex.tr e, h.ba, h.bp, h.at_.up e, h.rl, h.ok, h.n2, h.n9⟩
structure RingOk (cs : Cs) (B H : Hp) (a p : Addr) (v : V) (r : Rl) (n : Nat) (S : List Nat) (L : List (Option Nat)) : Prop where
  b : RingB cs B H a p v r n S.length L
  w : WfL r n L S
theorem RingOk.up (h : RingOk cs B H a p v r n S L) (e : Ex H H') : RingOk cs B H' a p v r n S L := ⟨h.b.up e, h.w⟩
theorem map_oV_set {L : List (Option Nat)} {q : Nat} {x : Option Nat} : (L.map oV).set q (oV x) = (L.set q x).map oV := (List.map_set).symm
theorem RingB.set (R : RingB cs B H a p v r n m L) (q : Nat) (x : Option Nat) : RingB cs B (upd H p (.lst ((L.map oV).set q (oV x)))) a p v r n m (L.set q x) := by
  refine ⟨R.ex.mutr R.bp, R.ba, R.bp, ⟨?_, ?_, ?_⟩, R.rl, R.ok, R.n2, R.n9⟩
  · obtain ⟨dx, h⟩ := R.at_.1
    exact ⟨dx, by rw [upd_ne R.at_.ne]; exact h⟩
  · rw [upd_same, map_oV_set]
  · rw [List.length_set]
    exact R.at_.2.2
theorem RingB.many (R : RingB cs B H a p v r n m L) (m' : Nat) (dx : Addr) : RingB cs B (upd H a (.ins cs.Ring dx [("rule", v), ("size", .int (n : Int)), ("places", .ref p), ("many", .int (m' : Int))])) a p v r n m' L :=
  ⟨R.ex.mutr R.ba, R.ba, R.bp, ⟨⟨dx, upd_same⟩, by rw [upd_ne (Ne.symm R.at_.ne)]; exact R.at_.2.1, R.at_.2.2⟩, R.rl, R.ok, R.n2, R.n9⟩
structure RowOk (cs : Cs) (B H : Hp) (w a p : Addr) (v : V) (r : Rl) (n : Nat) (S : List Nat) (L : List (Option Nat)) : Prop where
  row : ∃ dx, B w = some (.ins cs.Row dx [("ring", .ref a)])
  g : RingOk cs B H a p v r n S L
theorem RowOk.up {w : Addr} (h : RowOk cs B H w a p v r n S L) (e : Ex H H') : RowOk cs B H' w a p v r n S L := ⟨h.row, h.g.up e⟩
theorem WfL.perm {S' : List Nat} (w : WfL r n L S) (h : S.Perm S') : WfL r n L S' := ⟨w.lay, fun k => (w.keys k).trans h.mem_iff, h.nodup_iff.mp w.nd, by rw [← h.length_eq]; exact w.room, fun k hk => w.small k (h.mem_iff.mpr hk)⟩
theorem RowOk.new {w q : Addr} {o : HO} (R : RowOk cs B H w a p v r n S L) (hq : H q = none) : RowOk cs (upd B q o) (upd H q o) w a p v r n S L := by
  have hB : B q = none := R.g.b.ex.fresh hq
  obtain ⟨dx, hat⟩ := R.g.b.at_.1
  have hqa : a ≠ q := fun e => by rw [← e, hat] at hq; cases hq
  have hqp : p ≠ q := fun e => by rw [← e, R.g.b.at_.2.1] at hq; cases hq
  refine ⟨R.row.imp fun _ h => at_new hB h, ⟨⟨R.g.b.ex.ups q o, by rw [upd_ne hqa]; exact R.g.b.ba, by rw [upd_ne hqp]; exact R.g.b.bp, R.g.b.at_.up (Ex.news hq), R.g.b.rl.up (Ex.news hB), R.g.b.ok, R.g.b.n2, R.g.b.n9⟩, R.g.w⟩⟩
theorem RowOk.here {w : Addr} (R : RowOk cs B H w a p v r n S L) : ∃ dx, H w = some (.ins cs.Row dx [("ring", .ref a)]) := R.row.imp fun _ h => R.g.b.ex _ _ h
theorem nodup_inj' {α : Type} {l : List α} (h : l.Nodup) {i j : Nat} (hi : i < l.length) (hj : j < l.length) (e : l[i] = l[j]) : i = j := by
  rcases Nat.lt_trichotomy i j with z | z | z
  · exact absurd e (List.pairwise_iff_getElem.mp h i j hi hj z)
  · exact z
  · exact absurd e.symm (List.pairwise_iff_getElem.mp h j i hj hi z)
theorem RowOk.ex {w : Addr} (R : RowOk cs B H w a p v r n S L) : Ex B H := R.g.b.ex
theorem WfL.uniq {M : List (Option Nat)} (w : WfL r n L S) (w' : WfL r n M S) (hl : L.length = n) (hm : M.length = n) : L = M :=
  gL_ext (by omega) fun p hp => Rg.IsLay.uniq (hN_lt (by have := w.room; omega)) w.nd w.room w.lay w.keys w'.lay w'.keys p (by omega)
theorem IsRl.rest {xs : List Addr} (hx : ∀ x ∈ xs, ∀ vs, H x ≠ some (.tup vs)) : ∀ {r : Rl}, IsRl H v r → IsRl (rest H xs) v r
  | .times _ _, ⟨q, h1, h2⟩ => ⟨q, h1, by rw [rest_get fun m => hx q m _ h2]; exact h2⟩
  | .high _ _, ⟨q, h1, h2⟩ => ⟨q, h1, by rw [rest_get fun m => hx q m _ h2]; exact h2⟩
  | .told _, ⟨q, t, h1, h2, h3⟩ => ⟨q, t, h1, by rw [rest_get fun m => hx q m _ h2]; exact h2, by rw [rest_get fun m => hx t m _ h3]; exact h3⟩
/-- another base -/
theorem RowOk.base {w : Addr} {B1 : Hp} (R : RowOk cs B H w a p v r n S L) (e : Ex B1 H) (ha : B1 a = none) (hp : B1 p = none) (hr : IsRl B1 v r) (hw : ∃ dx, B1 w = some (.ins cs.Row dx [("ring", .ref a)])) : RowOk cs B1 H w a p v r n S L :=
  ⟨hw, ⟨⟨e, ha, hp, R.g.b.at_, hr, R.g.b.ok, R.g.b.n2, R.g.b.n9⟩, R.g.w⟩⟩
theorem RowOk.perm {w : Addr} {S' : List Nat} (R : RowOk cs B H w a p v r n S L) (h : S.Perm S') : RowOk cs B H w a p v r n S' L :=
  ⟨R.row, ⟨h.length_eq ▸ R.g.b, R.g.w.perm h⟩⟩
/-- what is written beside -/
theorem RowOk.aside {w q : Addr} {o : HO} (R : RowOk cs B H w a p v r n S L) (hB : B q = none) (hqa : q ≠ a) (hqp : q ≠ p) : RowOk cs B (upd H q o) w a p v r n S L := by
  refine ⟨R.row, ⟨⟨R.g.b.ex.mutr hB, R.g.b.ba, R.g.b.bp, ⟨R.g.b.at_.1.imp fun _ h => by rw [upd_ne (Ne.symm hqa)]; exact h, by rw [upd_ne (Ne.symm hqp)]; exact R.g.b.at_.2.1, R.g.b.at_.2.2⟩, R.g.b.rl, R.g.b.ok, R.g.b.n2, R.g.b.n9⟩, R.g.w⟩⟩
/-- a list beside is known for a while -/
theorem RowOk.lend {w q : Addr} {o : HO} (R : RowOk cs B H w a p v r n S L) (hB : B q = none) (hq : H q = some o) (hqa : q ≠ a) (hqp : q ≠ p) : RowOk cs (upd B q o) H w a p v r n S L :=
  R.base (fun x u hx => by
    by_cases e : x = q
    · subst e
      rw [upd_same] at hx
      rw [hq]
      exact hx
    · rw [upd_ne e] at hx
      exact R.g.b.ex _ _ hx) (by rw [upd_ne (Ne.symm hqa)]; exact R.g.b.ba) (by rw [upd_ne (Ne.symm hqp)]; exact R.g.b.bp) (R.g.b.rl.up (Ex.news hB)) (R.row.imp fun _ h => at_new hB h)
theorem RowOk.back {w q : Addr} {o : HO} (R0 : RowOk cs B H w a p v r n S L) {S' : List Nat} {L' : List (Option Nat)} (hB : B q = none) (R : RowOk cs (upd B q o) H' w a p v r n S' L') : RowOk cs B H' w a p v r n S' L' ∧ H' q = some o :=
  ⟨R.base ((Ex.news hB).tr R.g.b.ex) R0.g.b.ba R0.g.b.bp R0.g.b.rl R0.row, R.g.b.ex _ _ upd_same⟩
theorem RowOk.pne {w q : Addr} {xs : List V} (R : RowOk cs B H w a p v r n S L) (h : H q = some (.lst xs)) : q ≠ a := fun e => by
  obtain ⟨dx, h1⟩ := R.g.b.at_.1
  rw [← e, h] at h1
  cases h1
/-! ### fields -/
variable {C : Addr} {dx : Addr} {x1 x2 x3 x4 : V} {Q : PV} {QS : PS'} {σ : Sg}
theorem f_rule {P : V → Prop} (o : RingC K C) (h : H a = some (.ins C dx [("rule", x1), ("size", x2), ("places", x3), ("many", x4)])) (k : P x1) : ∃ a' C dx fs v, V.ref a = .ref a' ∧ H a' = some (.ins C dx fs) ∧ Cls K C ∧ NoAttr K C "rule" ∧ fs.lookup ("rule" : Str) = some v ∧ P v := ⟨a, C, dx, _, _, rfl, h, o.c, o.rule, rfl, k⟩
theorem f_size {P : V → Prop} (o : RingC K C) (h : H a = some (.ins C dx [("rule", x1), ("size", x2), ("places", x3), ("many", x4)])) (k : P x2) : ∃ a' C dx fs v, V.ref a = .ref a' ∧ H a' = some (.ins C dx fs) ∧ Cls K C ∧ NoAttr K C "size" ∧ fs.lookup ("size" : Str) = some v ∧ P v := ⟨a, C, dx, _, _, rfl, h, o.c, o.size, rfl, k⟩
theorem f_places {P : V → Prop} (o : RingC K C) (h : H a = some (.ins C dx [("rule", x1), ("size", x2), ("places", x3), ("many", x4)])) (k : P x3) : ∃ a' C dx fs v, V.ref a = .ref a' ∧ H a' = some (.ins C dx fs) ∧ Cls K C ∧ NoAttr K C "places" ∧ fs.lookup ("places" : Str) = some v ∧ P v := ⟨a, C, dx, _, _, rfl, h, o.c, o.places, rfl, k⟩
theorem f_many {P : V → Prop} (o : RingC K C) (h : H a = some (.ins C dx [("rule", x1), ("size", x2), ("places", x3), ("many", x4)])) (k : P x4) : ∃ a' C dx fs v, V.ref a = .ref a' ∧ H a' = some (.ins C dx fs) ∧ Cls K C ∧ NoAttr K C "many" ∧ fs.lookup ("many" : Str) = some v ∧ P v := ⟨a, C, dx, _, _, rfl, h, o.c, o.many, rfl, k⟩
theorem f_ring {P : V → Prop} (o : RowC K C) (h : H a = some (.ins C dx [("ring", x1)])) (k : P x1) : ∃ a' C dx fs v, V.ref a = .ref a' ∧ H a' = some (.ins C dx fs) ∧ Cls K C ∧ NoAttr K C "ring" ∧ fs.lookup ("ring" : Str) = some v ∧ P v := ⟨a, C, dx, _, _, rfl, h, o.c, o.ring, rfl, k⟩
theorem g_many (o : RingC K C) {y : V} (h : H a = some (.ins C dx [("rule", x1), ("size", x2), ("places", x3), ("many", x4)])) (k : QS σ (upd H a (.ins C dx [("rule", x1), ("size", x2), ("places", x3), ("many", y)]))) : ∃ a' C dx fs, V.ref a = .ref a' ∧ H a' = some (.ins C dx fs) ∧ Cls K C ∧ NoAttr K C "many" ∧ fs.length < 1000 ∧ QS σ (upd H a' (.ins C dx (putF "many" y fs))) :=
  ⟨a, C, dx, _, rfl, h, o.c, o.many, Nat.lt_of_lt_of_le (by decide : 4 < 1000) (Nat.le_refl _), k⟩
theorem ins_ne {x z dx y : Addr} {o : HO} (h1 : H x = some (.ins C dx [("ring", .ref y)])) (h2 : H z = some o) (h3 : ∀ d, o ≠ .ins C d [("ring", .ref y)]) : x ≠ z := fun e => by
  subst e
  rw [h1] at h2
  exact h3 _ (Option.some.inj h2).symm
theorem mt_at {P : Prop} {fs : List (Str × V)} {z : Str} (h : H a = some (.ins C dx fs)) (hl : fs.lookup z = none) (k : P) : ∃ a' dx fs, V.ref a = .ref a' ∧ H a' = some (.ins C dx fs) ∧ fs.lookup z = none ∧ P := ⟨a, dx, fs, rfl, h, hl, k⟩
/-! ### lists -/
theorem m_pop0 {l : Addr} {x : V} {xs : List V} (h : H l = some (.lst (x :: xs))) (k : Q x (upd H l (.lst xs))) : kM rPopAt (.ref l) [.int 0] H Q := fun H1 e _ q => ⟨l, _, 0, 0, x, rfl, rfl, e _ _ h, by decide, by decide, by simp [seqIndex?], rfl, q _ _ _ k (e.ups l _)⟩
theorem first_at : ∀ {S : List Nat} {k : Nat}, k ∈ S → ∃ j, S[j]? = some k ∧ (∀ m, m < j → S[m]? ≠ some k) ∧ S.eraseIdx j = S.erase k
  | [], _, h => absurd h List.not_mem_nil
  | x :: S, k, h => by
    by_cases e : x = k
    · subst e
      exact ⟨0, rfl, fun m hm => absurd hm (Nat.not_lt_zero _), by simp⟩
    · obtain ⟨j, h1, h2, h3⟩ := first_at (S := S) (k := k) ((List.mem_cons.mp h).resolve_left fun z => e z.symm)
      refine ⟨j + 1, by simpa using h1, fun m hm => ?_, ?_⟩
      · cases m with
        | zero => simpa using e
        | succ m => simpa using h2 m (by omega)
      · rw [List.eraseIdx_cons_succ, h3, List.erase_cons_tail (by simpa using e)]
theorem map_er {α β : Type} {f : α → β} : ∀ {S : List α} (j : Nat), (S.map f).eraseIdx j = (S.eraseIdx j).map f
  | [], _ => rfl
  | _ :: _, 0 => rfl
  | x :: S, j + 1 => by simp [List.eraseIdx_cons_succ, map_er (S := S) j]
theorem m_remove {l : Addr} {S : List Nat} {key : Nat} (h : H l = some (.lst (S.map fun n : Nat => V.int (n : Int)))) (hk : key ∈ S) (k : Q .non (upd H l (.lst ((S.erase key).map fun n : Nat => V.int (n : Int))))) : kM rRemI (.ref l) [.int (key : Int)] H Q := fun H1 e _ q => by
  have hz : ∀ T : List Nat, T.map (fun n : Nat => V.int (n : Int)) = (T.map fun n : Nat => (n : Int)).map V.int := fun T => by rw [List.map_map]; rfl
  obtain ⟨j, h1, h2, h3⟩ := first_at hk
  have hj : j < S.length := (List.getElem?_eq_some_iff.mp h1).1
  refine ⟨l, S.map fun n : Nat => (n : Int), key, j, rfl, rfl, by rw [← hz]; exact e _ _ h, ?_, ?_, ?_⟩
  · rw [List.getElem?_map, h1]
    rfl
  · intro i hi e2
    rw [List.getElem?_map] at e2
    have hi2 : i < S.length := by omega
    have h4 := h2 i hi
    rw [List.getElem?_eq_getElem hi2] at e2 h4
    have e3 : ((S[i] : Nat) : Int) = (key : Int) := Option.some.inj e2
    exact h4 (congrArg some (by omega))
  · refine q _ _ _ k ?_
    have h4 : (S.map fun n : Nat => (n : Int)).eraseIdx j = (S.erase key).map fun n : Nat => (n : Int) := by
      rw [← h3]
      exact map_er j
    rw [h4, ← hz]
    exact e.ups l _
/-- sorted of pairs, none twice -/
theorem c_sortedP {l : Addr} {ps : List Addr} {zs ws : List (Int × Int)} (h : SqL K H l (ps.map V.ref)) (hl : ps.length = zs.length) (hp : ∀ i (h1 : i < ps.length) (h2 : i < zs.length), H ps[i] = some (.tup [.int zs[i].1, .int zs[i].2]))
    (hw : ws.Perm zs) (hs : ws.Pairwise fun x y => x.1 < y.1 ∨ (x.1 = y.1 ∧ x.2 < y.2)) (hn : ps.Nodup)
    (k : ∀ (d : Addr) (qs : List Addr), H d = none → qs.length = ws.length → (∀ i (h1 : i < qs.length) (h2 : i < ws.length), H qs[i] = some (.tup [.int ws[i].1, .int ws[i].2])) → Q (.ref d) (upd H d (.lst (qs.map V.ref)))) : kC (rSortedPO K) [.ref l] H Q := fun H1 e Q1 q => by
  let kf : V → Int × Int := fun x => match x with
    | .ref t => match H t with
      | some (.tup [.int i, .int j]) => (i, j)
      | _ => (0, 0)
    | _ => (0, 0)
  have hk : ∀ i (h1 : i < ps.length) (h2 : i < zs.length), kf (.ref ps[i]) = zs[i] := fun i h1 h2 => by
    simp only [kf, hp i h1 h2]
  have hkm : (ps.map V.ref).map kf = zs := List.ext_getElem (by simpa using hl) fun i h1 h2 => by
    rw [List.getElem_map, List.getElem_map]
    exact hk i (by simpa using h1) h2
  refine ⟨l, ps.map V.ref, kf, rfl, e.sl h, fun x hx => ?_, fun ys d h1 h2 hd => ?_⟩
  · obtain ⟨t, ht, rfl⟩ := List.mem_map.mp hx
    obtain ⟨i, hi, rfl⟩ := List.mem_iff_getElem.mp ht
    refine ⟨ps[i], rfl, ?_⟩
    rw [hk i hi (by omega)]
    exact e _ _ (hp i hi (by omega))
  · have hperm : ys.Perm (ps.map V.ref) := h2.perm
    have hz2 : (ys.map kf).Perm ws := ((hperm.map kf).trans (by rw [hkm])).trans hw.symm
    have hsy : (ys.map kf).Pairwise fun x y => x.1 < y.1 ∨ (x.1 = y.1 ∧ x.2 ≤ y.2) := by
      refine List.pairwise_map.mpr (List.Pairwise.imp ?_ h1)
      intro x y hxy
      have := SrtO.lexB_no.mp hxy
      omega
    have hsw : ws.Pairwise fun x y => x.1 < y.1 ∨ (x.1 = y.1 ∧ x.2 ≤ y.2) := hs.imp fun {x y} h => by omega
    have heq : ys.map kf = ws := List.Perm.eq_of_pairwise (le := fun x y : Int × Int => x.1 < y.1 ∨ (x.1 = y.1 ∧ x.2 ≤ y.2)) (fun x y _ _ h1 h2 => Prod.ext (by omega) (by omega)) hsy hsw hz2
    have hr : ∃ qs : List Addr, ys = qs.map V.ref := by
      have : ∀ x ∈ ys, ∃ t, V.ref t = x := fun x hx => by
        obtain ⟨t, _, ht⟩ := List.mem_map.mp (hperm.mem_iff.mp hx)
        exact ⟨t, ht⟩
      clear heq hsy hz2 hperm h1 h2
      induction ys with
      | nil => exact ⟨[], rfl⟩
      | cons y ys ih =>
        obtain ⟨t, ht⟩ := this y List.mem_cons_self
        obtain ⟨qs, hq⟩ := ih fun x hx => this x (List.mem_cons_of_mem _ hx)
        exact ⟨t :: qs, by rw [List.map_cons, ← ht, ← hq]⟩
    obtain ⟨qs, rfl⟩ := hr
    have hlq : qs.length = ws.length := by rw [← heq, List.length_map, List.length_map]
    refine q _ _ _ (k d qs (e.fresh hd) hlq fun i i1 i2 => ?_) (e.ups d _)
    have hm : V.ref qs[i] ∈ ps.map V.ref := hperm.mem_iff.mp (List.mem_map.mpr ⟨_, List.getElem_mem i1, rfl⟩)
    obtain ⟨t, ht, et⟩ := List.mem_map.mp hm
    have et : t = qs[i] := V.ref.inj et
    obtain ⟨j, hj, ej⟩ := List.mem_iff_getElem.mp ht
    have h3 := hp j hj (by omega)
    rw [ej, et] at h3
    have h4 : kf (.ref qs[i]) = ws[i] := by
      have : (qs.map V.ref |>.map kf)[i]'(by simpa using i1) = ws[i] := by simp only [heq]
      simpa using this
    rw [← h4, ← et, ← ej, hk j hj (by omega)]
    rw [ej, et]
    exact h3
theorem perm_nI {ms : List Int} {T : List Nat} (h : ms.Perm (nI T)) : ∃ U : List Nat, ms = nI U ∧ U.Perm T := by
  refine ⟨ms.map Int.toNat, ?_, ?_⟩
  · unfold nI
    rw [List.map_map]
    refine (List.map_id ms).symm.trans (List.map_congr_left fun x hx => ?_)
    obtain ⟨n, _, rfl⟩ := List.mem_map.mp (h.mem_iff.mp hx)
    rfl
  · have h1 := h.map Int.toNat
    have h2 : (nI T).map Int.toNat = T := by
      unfold nI
      rw [List.map_map]
      exact (List.map_congr_left fun x _ => rfl).trans (List.map_id T)
    rw [h2] at h1
    exact h1
/-! ### lays compared -/
def oD : Option Nat → PyData
  | none => .none
  | some n => .int (n : Int)
theorem dp_o : ∀ L : List (Option Nat), DpAll K H (L.map oV) (L.map oD)
  | [] => .nil
  | none :: L => .cons .non (dp_o L)
  | some n :: L => .cons (.int (n : Int)) (dp_o L)
theorem eqv_o : ∀ L M : List (Option Nat), PyData.eqv (.list (L.map oD)) (.list (M.map oD)) = decide (L = M)
  | [], [] => by simp [PyData.eqv, PyData.eqvAll]
  | [], _ :: _ => by simp [PyData.eqv, PyData.eqvAll]
  | _ :: _, [] => by simp [PyData.eqv, PyData.eqvAll]
  | x :: L, y :: M => by
    have ih := eqv_o L M
    simp only [PyData.eqv] at ih
    cases x with
    | none =>
      cases y with
      | none =>
        simp only [List.map_cons, oD, PyData.eqv, PyData.eqvAll, ih]
        by_cases h' : L = M <;> simp [h']
      | some m => simp [oD, PyData.eqv, PyData.eqvAll]
    | some n =>
      cases y with
      | none => simp [oD, PyData.eqv, PyData.eqvAll]
      | some m =>
        simp only [List.map_cons, oD, PyData.eqv, PyData.eqvAll, ih]
        by_cases h : n = m
        · subst h
          by_cases h' : L = M <;> simp [h']
        · have hi : ¬ (n : Int) = (m : Int) := fun z => h (by omega)
          simp [h, hi]
theorem shaped_o (L : List (Option Nat)) : SeqAt.shaped (.list (L.map oD)) = true := shaped_list fun d hd => by
  obtain ⟨x, _, rfl⟩ := List.mem_map.mp hd
  cases x <;> exact ⟨rfl, Nat.zero_le _⟩
theorem r_neO {p q : Addr} {L M : List (Option Nat)} (h1 : SqL K H p (L.map oV)) (h2 : SqL K H q (M.map oV)) (k : Q (.bl (!decide (L = M))) H) : kR (rNeD K) (.ref p) (.ref q) H Q :=
  r_neD (.lst h1 (dp_o L)) (.lst h2 (dp_o M)) (shaped_o L) (shaped_o M) (eqv_o L M) k
theorem r_eqO {p q : Addr} {L M : List (Option Nat)} (h1 : SqL K H p (L.map oV)) (h2 : SqL K H q (M.map oV)) (k : Q (.bl (decide (L = M))) H) : kR (rEqD K) (.ref p) (.ref q) H Q :=
  r_eqD (.lst h1 (dp_o L)) (.lst h2 (dp_o M)) (shaped_o L) (shaped_o M) (eqv_o L M) k
theorem g_unl {n : Nat} {q : Addr} {xs : List V} {gs : TGs} (h : SqL K H q xs) (hl : xs.length = n) (k : kGs gs xs σ H QS) : kG (gUnl K n gs) (.ref q) σ H QS := fun H1 e _ q => ⟨_, xs, rfl, e.sl h, hl, k H1 e _ q⟩
theorem e_revL {ta : TE} (k : kE ta σ H fun x H1 => ∃ a xs, x = .ref a ∧ SqL K H1 a xs ∧ ∀ p, H1 p = none → Q (.ref p) (upd H1 p (.lst xs.reverse))) : kE (tRevL K ta) σ H Q := fun H1 e Q1 q => k H1 e _ fun x H0 H2 ⟨a, xs, ex, hs, hk⟩ e2 =>
  ⟨a, xs, ex, e2.sl hs, fun p hp => q _ _ _ (hk p (e2.fresh hp)) (e2.ups p _)⟩
theorem r_notB {x y : Bool} (k : Q (.bl (!decide (x = y))) H) : kR rNotB (.bl x) (.bl y) H Q := fun H1 e _ q => ⟨x, y, rfl, rfl, q _ _ _ k e⟩
theorem r_isB {x y : Bool} (k : Q (.bl (decide (x = y))) H) : kR rIsB (.bl x) (.bl y) H Q := fun H1 e _ q => ⟨x, y, rfl, rfl, q _ _ _ k e⟩
theorem r_isNRef {q : Addr} (k : Q (.bl false) H) : kR rIsNone (.ref q) .non H Q := fun H1 e _ r => ⟨rfl, by
  rw [show (decide (V.ref q = V.non)) = false from by simp]
  exact r _ _ _ k e⟩
theorem r_notRef {q : Addr} (k : Q (.bl true) H) : kR rNotNone (.ref q) .non H Q := fun H1 e _ r => ⟨rfl, by
  rw [show (!decide (V.ref q = V.non)) = true from by simp]
  exact r _ _ _ k e⟩
theorem cutD {xs : List V} {n : Nat} (h : n ≤ xs.length) : cutV xs (some (n : Int)) none = xs.drop n := by
  unfold cutV
  rw [HT.sIx_nat, HT.sIx_none, Nat.min_eq_left h]
  exact List.take_of_length_le (by simp)
theorem kS_mono {ts : TS} {σ : Sg} {N N' Bk Ct : PS'} {R : PV} (k : kS ts N R Bk Ct σ H) (h : ∀ s H', N s H' → N' s H') : kS ts N' R Bk Ct σ H := fun H1 e D hn hr hb hc => k H1 e D (fun s H0 H2 q e2 => hn s H0 H2 (h s H0 q) e2) hr hb hc
/-- one road behind all branches -/
theorem s_join {ts us : TS} {σ : Sg} {N Bk Ct : PS'} {R : PV} (P : PS') (k1 : kS ts P R Bk Ct σ H) (k2 : ∀ s H', P s H' → kS us N R Bk Ct s H') : kS (tSeq ts us) N R Bk Ct σ H := s_seq (kS_mono k1 k2)
/-- a place is none of these -/
theorem inV_nk {x : Option Nat} {key : Nat} : inV (oV x) [.non, .int (key : Int)] = decide (x = none ∨ x = some key) := by
  cases x with
  | none => simp [inV, oV, eqV]
  | some k =>
    simp only [inV, oV, List.any_cons, List.any_nil, eqV]
    by_cases h : k = key
    · subst h
      simp
    · have hi : ¬ (key : Int) = (k : Int) := fun z => h (by omega)
      simp [h, hi, Ne.symm h]
theorem r_eqSs {p q : Addr} {zs ws : List Str} (h1 : SqL K H p (zs.map V.str)) (h2 : SqL K H q (ws.map V.str)) (s1 : SeqAt.shaped (.list (zs.map PyData.str)) = true) (s2 : SeqAt.shaped (.list (ws.map PyData.str)) = true) (k : Q (.bl (decide (zs = ws))) H) : kR (rEqD K) (.ref p) (.ref q) H Q :=
  r_eqD (.lst h1 (dp_strs zs)) (.lst h2 (dp_strs ws)) s1 s2 (eqv_strs zs ws) k
theorem flat_nats (l : List Nat) : (l.map fun n : Nat => V.int (n : Int)).all flatV = true := List.all_eq_true.mpr fun x hx => by
  obtain ⟨n, _, rfl⟩ := List.mem_map.mp hx
  rfl
theorem flat_o {x : Option Nat} : flatV (oV x) = true := by cases x <;> rfl
theorem cnt_key {x : V} (h : cnt x 0 999999 = true) : ∃ key : Nat, x = .int (key : Int) ∧ key ≤ 999999 := by
  cases x with
  | int i =>
    simp only [cnt, Bool.and_eq_true, decide_eq_true_eq] at h
    exact ⟨i.toNat, congrArg V.int (by omega), by omega⟩
  | _ => cases h
end Lg

/-! Gr: tables that grow; the law's own table in a dict. -/
namespace Lg
open PySem PySem.Spec PyProof.Rows L2
variable {K : PySem.W.Frag} {cs : Cs} {B H H' : Hp} {a p t b q C dx d o nw : Addr} {v ov y x1 x2 x3 x4 x5 : V} {r : Rl} {n m st g s : Nat} {L M : List (Option Nat)} {S S' N N' : List Nat} {Q : PV} {QS : PS'} {σ : Sg} {ta tb : TE}
structure GrowingC (K : PySem.W.Frag) (C : Addr) : Prop where
  c : Cls K C
  rule : NoAttr K C "rule"
  step : NoAttr K C "step"
  older : NoAttr K C "older"
  newer : NoAttr K C "newer"
  gone : NoAttr K C "gone"
theorem f_grule {P : V → Prop} (o : GrowingC K C) (h : H a = some (.ins C dx [("rule", x1), ("step", x2), ("older", x3), ("newer", x4), ("gone", x5)])) (k : P x1) : ∃ a' C dx fs v, V.ref a = .ref a' ∧ H a' = some (.ins C dx fs) ∧ Cls K C ∧ NoAttr K C "rule" ∧ fs.lookup ("rule" : Str) = some v ∧ P v := ⟨a, C, dx, _, _, rfl, h, o.c, o.rule, rfl, k⟩
theorem f_gstep {P : V → Prop} (o : GrowingC K C) (h : H a = some (.ins C dx [("rule", x1), ("step", x2), ("older", x3), ("newer", x4), ("gone", x5)])) (k : P x2) : ∃ a' C dx fs v, V.ref a = .ref a' ∧ H a' = some (.ins C dx fs) ∧ Cls K C ∧ NoAttr K C "step" ∧ fs.lookup ("step" : Str) = some v ∧ P v := ⟨a, C, dx, _, _, rfl, h, o.c, o.step, rfl, k⟩
theorem f_golder {P : V → Prop} (o : GrowingC K C) (h : H a = some (.ins C dx [("rule", x1), ("step", x2), ("older", x3), ("newer", x4), ("gone", x5)])) (k : P x3) : ∃ a' C dx fs v, V.ref a = .ref a' ∧ H a' = some (.ins C dx fs) ∧ Cls K C ∧ NoAttr K C "older" ∧ fs.lookup ("older" : Str) = some v ∧ P v := ⟨a, C, dx, _, _, rfl, h, o.c, o.older, rfl, k⟩
theorem f_gnewer {P : V → Prop} (o : GrowingC K C) (h : H a = some (.ins C dx [("rule", x1), ("step", x2), ("older", x3), ("newer", x4), ("gone", x5)])) (k : P x4) : ∃ a' C dx fs v, V.ref a = .ref a' ∧ H a' = some (.ins C dx fs) ∧ Cls K C ∧ NoAttr K C "newer" ∧ fs.lookup ("newer" : Str) = some v ∧ P v := ⟨a, C, dx, _, _, rfl, h, o.c, o.newer, rfl, k⟩
theorem f_ggone {P : V → Prop} (o : GrowingC K C) (h : H a = some (.ins C dx [("rule", x1), ("step", x2), ("older", x3), ("newer", x4), ("gone", x5)])) (k : P x5) : ∃ a' C dx fs v, V.ref a = .ref a' ∧ H a' = some (.ins C dx fs) ∧ Cls K C ∧ NoAttr K C "gone" ∧ fs.lookup ("gone" : Str) = some v ∧ P v := ⟨a, C, dx, _, _, rfl, h, o.c, o.gone, rfl, k⟩
theorem g_golder (o : GrowingC K C) (h : H a = some (.ins C dx [("rule", x1), ("step", x2), ("older", x3), ("newer", x4), ("gone", x5)])) (k : QS σ (upd H a (.ins C dx [("rule", x1), ("step", x2), ("older", y), ("newer", x4), ("gone", x5)]))) : ∃ a' C dx fs, V.ref a = .ref a' ∧ H a' = some (.ins C dx fs) ∧ Cls K C ∧ NoAttr K C "older" ∧ fs.length < 1000 ∧ QS σ (upd H a' (.ins C dx (putF "older" y fs))) :=
  ⟨a, C, dx, _, rfl, h, o.c, o.older, Nat.lt_of_lt_of_le (by decide : 5 < 1000) (Nat.le_refl _), k⟩
theorem g_gnewer (o : GrowingC K C) (h : H a = some (.ins C dx [("rule", x1), ("step", x2), ("older", x3), ("newer", x4), ("gone", x5)])) (k : QS σ (upd H a (.ins C dx [("rule", x1), ("step", x2), ("older", x3), ("newer", y), ("gone", x5)]))) : ∃ a' C dx fs, V.ref a = .ref a' ∧ H a' = some (.ins C dx fs) ∧ Cls K C ∧ NoAttr K C "newer" ∧ fs.length < 1000 ∧ QS σ (upd H a' (.ins C dx (putF "newer" y fs))) :=
  ⟨a, C, dx, _, rfl, h, o.c, o.newer, Nat.lt_of_lt_of_le (by decide : 5 < 1000) (Nat.le_refl _), k⟩
theorem g_ggone (o : GrowingC K C) (h : H a = some (.ins C dx [("rule", x1), ("step", x2), ("older", x3), ("newer", x4), ("gone", x5)])) (k : QS σ (upd H a (.ins C dx [("rule", x1), ("step", x2), ("older", x3), ("newer", x4), ("gone", y)]))) : ∃ a' C dx fs, V.ref a = .ref a' ∧ H a' = some (.ins C dx fs) ∧ Cls K C ∧ NoAttr K C "gone" ∧ fs.length < 1000 ∧ QS σ (upd H a' (.ins C dx (putF "gone" y fs))) :=
  ⟨a, C, dx, _, rfl, h, o.c, o.gone, Nat.lt_of_lt_of_le (by decide : 5 < 1000) (Nat.le_refl _), k⟩
/-! ### rings by the heap alone -/
structure RingH (cs : Cs) (H : Hp) (a p : Addr) (v : V) (r : Rl) (n : Nat) (S : List Nat) (L : List (Option Nat)) : Prop where
  at_ : RingAt cs H a p v n S.length L
  w : WfL r n L S
  n2 : 2 ≤ n
  n9 : n ≤ 1024
theorem RingH.up (h : RingH cs H a p v r n S L) (e : Ex H H') : RingH cs H' a p v r n S L := ⟨h.at_.up e, h.w, h.n2, h.n9⟩
theorem RingH.perm (h : RingH cs H a p v r n S L) (e : S.Perm S') : RingH cs H a p v r n S' L := ⟨e.length_eq ▸ h.at_, h.w.perm e, h.n2, h.n9⟩
theorem RingH.ok (h : RingH cs H a p v r n S L) (hr : IsRl H v r) (ho : r.ok) : RingOk cs (rest H [a, p]) H a p v r n S L :=
  ⟨⟨rest_ex, rest_none (by simp), rest_none (by simp), h.at_, hr.rest (by
    intro x hx vs e
    simp only [List.mem_cons, List.not_mem_nil, or_false] at hx
    rcases hx with rfl | rfl
    · obtain ⟨dx, h1⟩ := h.at_.1
      rw [e] at h1
      cases h1
    · rw [h.at_.2.1] at e
      cases e), ho, h.n2, h.n9⟩, h.w⟩
theorem RingOk.hh (R : RingOk cs B H a p v r n S L) : RingH cs H a p v r n S L := ⟨R.b.at_, R.w, R.b.n2, R.b.n9⟩
theorem RingH.off {xs : List Addr} (h : RingH cs H b q v r n S L) (e : Ex (rest H xs) H') (h1 : b ∉ xs) (h2 : q ∉ xs) : RingH cs H' b q v r n S L := by
  obtain ⟨dx, hb⟩ := h.at_.1
  exact ⟨⟨⟨dx, e _ _ (by rw [rest_get h1]; exact hb)⟩, e _ _ (by rw [rest_get h2]; exact h.at_.2.1), h.at_.2.2⟩, h.w, h.n2, h.n9⟩
theorem RingH.set {x : Addr} {u : HO} (h : RingH cs H b q v r n S L) (h1 : b ≠ x) (h2 : q ≠ x) : RingH cs (upd H x u) b q v r n S L := by
  obtain ⟨dx, hb⟩ := h.at_.1
  exact ⟨⟨⟨dx, by rw [upd_ne h1]; exact hb⟩, by rw [upd_ne h2]; exact h.at_.2.1, h.at_.2.2⟩, h.w, h.n2, h.n9⟩
/-! ### a table -/
structure GrH (cs : Cs) (B H : Hp) (t a p : Addr) (v : V) (r : Rl) (n st g : Nat) (N : List Nat) (L : List (Option Nat)) (ov : V) : Prop where
  ex : Ex B H
  bt : B t = none
  ba : B a = none
  bp : B p = none
  rl : IsRl B v r
  ok : r.ok
  at_ : ∃ dt, H t = some (.ins cs.Growing dt [("rule", v), ("step", .int (st : Int)), ("older", ov), ("newer", .ref a), ("gone", .int (g : Int))])
  nw : RingH cs H a p v r n N L
structure OldH (cs : Cs) (B H : Hp) (a p b q : Addr) (v : V) (r : Rl) (m : Nat) (S : List Nat) (M : List (Option Nat)) : Prop where
  bb : B b = none
  bq : B q = none
  od : RingH cs H b q v r m S M
  ab : a ≠ b
  pq : p ≠ q
theorem RingAt.nep {k : Nat} (h : RingAt cs H a p v n m L) (h' : RingAt cs H b q y s k M) : a ≠ q := fun e => by
  obtain ⟨dx, h1⟩ := h.1
  rw [e, h'.2.1] at h1
  cases h1
theorem GrH.tne (h : GrH cs B H t a p v r n st g N L ov) {z : Addr} {k : Nat} (R : RingH cs H b z y r k S M) : t ≠ b ∧ t ≠ z := by
  obtain ⟨dt, h1⟩ := h.at_
  refine ⟨fun e => ?_, fun e => ?_⟩
  · obtain ⟨dx, h2⟩ := R.at_.1
    rw [e, h2] at h1
    simp at h1
  · rw [e, R.at_.2.1] at h1
    cases h1
theorem GrH.rlh (h : GrH cs B H t a p v r n st g N L ov) : IsRl H v r := h.rl.up h.ex
theorem GrH.up (h : GrH cs B H t a p v r n st g N L ov) (e : Ex H H') : GrH cs B H' t a p v r n st g N L ov := ⟨h.ex.tr e, h.bt, h.ba, h.bp, h.rl, h.ok, h.at_.imp fun _ x => e _ _ x, h.nw.up e⟩
theorem OldH.up (h : OldH cs B H a p b q v r m S M) (e : Ex H H') : OldH cs B H' a p b q v r m S M := ⟨h.bb, h.bq, h.od.up e, h.ab, h.pq⟩
theorem OldH.perm (h : OldH cs B H a p b q v r m S M) (e : S.Perm S') : OldH cs B H a p b q v r m S' M := ⟨h.bb, h.bq, h.od.perm e, h.ab, h.pq⟩
theorem GrH.perm (h : GrH cs B H t a p v r n st g N L ov) (e : N.Perm N') : GrH cs B H t a p v r n st g N' L ov := ⟨h.ex, h.bt, h.ba, h.bp, h.rl, h.ok, h.at_, h.nw.perm e⟩
theorem GrH.onNew {L' : List (Option Nat)} (h : GrH cs B H t a p v r n st g N L ov) (R : RingOk cs (rest H [a, p]) H' a p v r n N' L') : GrH cs B H' t a p v r n st g N' L' ov := by
  obtain ⟨t1, t2⟩ := h.tne h.nw
  refine ⟨(h.ex.rest (by
    intro x hx
    simp only [List.mem_cons, List.not_mem_nil, or_false] at hx
    rcases hx with rfl | rfl
    · exact h.ba
    · exact h.bp)).tr R.b.ex, h.bt, h.ba, h.bp, h.rl, h.ok, h.at_.imp fun _ x => R.b.ex _ _ (by rw [rest_get (by simp [t1, t2])]; exact x), R.hh⟩
theorem OldH.onNew {L' : List (Option Nat)} (h : OldH cs B H a p b q v r m S M) (G : RingH cs H a p v r n N L) (R : RingOk cs (rest H [a, p]) H' a p v r n N' L') : OldH cs B H' a p b q v r m S M :=
  ⟨h.bb, h.bq, h.od.off R.b.ex (by simp [Ne.symm h.ab, h.od.at_.nep G.at_]) (by simp [Ne.symm h.pq, Ne.symm (G.at_.nep h.od.at_)]), h.ab, h.pq⟩
theorem GrH.onOld {M' : List (Option Nat)} (h : GrH cs B H t a p v r n st g N L ov) (O : OldH cs B H a p b q v r m S M) (R : RingOk cs (rest H [b, q]) H' b q v r m S' M') : GrH cs B H' t a p v r n st g N L ov := by
  obtain ⟨t1, t2⟩ := h.tne O.od
  refine ⟨(h.ex.rest (by
    intro x hx
    simp only [List.mem_cons, List.not_mem_nil, or_false] at hx
    rcases hx with rfl | rfl
    · exact O.bb
    · exact O.bq)).tr R.b.ex, h.bt, h.ba, h.bp, h.rl, h.ok, h.at_.imp fun _ x => R.b.ex _ _ (by rw [rest_get (by simp [t1, t2])]; exact x), h.nw.off R.b.ex (by simp [O.ab, h.nw.at_.nep O.od.at_]) (by simp [O.pq, Ne.symm (O.od.at_.nep h.nw.at_)])⟩
theorem OldH.onOld {M' : List (Option Nat)} (O : OldH cs B H a p b q v r m S M) (R : RingOk cs (rest H [b, q]) H' b q v r m S' M') : OldH cs B H' a p b q v r m S' M' := ⟨O.bb, O.bq, R.hh, O.ab, O.pq⟩
theorem GrH.set {dt : Addr} {g' : Nat} {ov' : V} (h : GrH cs B H t a p v r n st g N L ov) : GrH cs B (upd H t (.ins cs.Growing dt [("rule", v), ("step", .int (st : Int)), ("older", ov'), ("newer", .ref a), ("gone", .int (g' : Int))])) t a p v r n st g' N L ov' := by
  obtain ⟨t1, t2⟩ := h.tne h.nw
  exact ⟨h.ex.mutr h.bt, h.bt, h.ba, h.bp, h.rl, h.ok, ⟨dt, upd_same⟩, h.nw.set (Ne.symm t1) (Ne.symm t2)⟩
theorem OldH.set {u : HO} (O : OldH cs B H a p b q v r m S M) (h : GrH cs B H t a p v r n st g N L ov) : OldH cs B (upd H t u) a p b q v r m S M := by
  obtain ⟨t1, t2⟩ := h.tne O.od
  exact ⟨O.bb, O.bq, O.od.set (Ne.symm t1) (Ne.symm t2), O.ab, O.pq⟩
/-- a table between two deeds: the keys of both rows -/
structure GrOk (cs : Cs) (B H : Hp) (t : Addr) (v : V) (r : Rl) (n st g : Nat) (S N : List Nat) : Prop where
  st1 : 1 ≤ st
  st4 : st ≤ 4
  inv : 4 * (2 * S.length + N.length) ≤ 3 * n
  dis : ∀ k ∈ S, k ∉ N
  tab : ∃ a p L ov, GrH cs B H t a p v r n st g N L ov ∧ ((S = [] ∧ ov = .non) ∨ S ≠ [] ∧ ∃ b q m M, ov = .ref b ∧ 2 * m = n ∧ OldH cs B H a p b q v r m S M)
theorem GrOk.up (h : GrOk cs B H t v r n st g S N) (e : Ex H H') : GrOk cs B H' t v r n st g S N := by
  obtain ⟨a, p, L, ov, G, O⟩ := h.tab
  refine ⟨h.st1, h.st4, h.inv, h.dis, a, p, L, ov, G.up e, O.imp id fun ⟨h1, b, q, m, M, h2, h3, h4⟩ => ⟨h1, b, q, m, M, h2, h3, h4.up e⟩⟩
theorem GrOk.perm (h : GrOk cs B H t v r n st g S N) (e1 : S.Perm S') (e2 : N.Perm N') : GrOk cs B H t v r n st g S' N' := by
  obtain ⟨a, p, L, ov, G, O⟩ := h.tab
  refine ⟨h.st1, h.st4, by rw [← e1.length_eq, ← e2.length_eq]; exact h.inv, fun k hk hn => h.dis k (e1.mem_iff.mpr hk) (e2.mem_iff.mpr hn), a, p, L, ov, G.perm e2, O.imp (fun ⟨h1, h2⟩ => ⟨?_, h2⟩) fun ⟨h1, b, q, m, M, h2, h3, h4⟩ => ⟨fun z => ?_, b, q, m, M, h2, h3, h4.perm e1⟩⟩
  · subst h1
    exact List.Perm.nil_eq e1 ▸ rfl
  · subst z
    exact h1 (List.Perm.eq_nil e1)
theorem GrOk.ex (h : GrOk cs B H t v r n st g S N) : Ex B H := by
  obtain ⟨a, p, L, ov, G, O⟩ := h.tab
  exact G.ex
theorem GrOk.here (h : GrOk cs B H t v r n st g S N) : ∃ dt ov a, H t = some (.ins cs.Growing dt [("rule", v), ("step", .int (st : Int)), ("older", ov), ("newer", .ref a), ("gone", .int (g : Int))]) := by
  obtain ⟨a, p, L, ov, G, O⟩ := h.tab
  obtain ⟨dt, h1⟩ := G.at_
  exact ⟨dt, ov, a, h1⟩
/-! ### the model: keys of the older row, of the newer one -/
def srt (S : List Nat) : List Nat := S.mergeSort (fun a b => decide (a ≤ b))
theorem srt_perm : (srt S).Perm S := List.mergeSort_perm S _
theorem srt_sorted : (srt S).Pairwise (· ≤ ·) := by
  have := List.pairwise_mergeSort (le := fun a b : Nat => decide (a ≤ b)) (fun a b c h1 h2 => by simp at h1 h2 ⊢; omega) (fun a b => by simp; omega) S
  exact this.imp fun h => by simpa using h
/-- some keys go over -/
def movS (st : Nat) (S : List Nat) : List Nat := (srt S).drop st
def movN (st : Nat) (S N : List Nat) : List Nat := N ++ (srt S).take st
/-- what stands behind a deed ahead of the going over: keys, size -/
def Deed6 (way key n : Nat) (S N : List Nat) : Nat × List Nat × List Nat :=
  if way = 0 then (if key ∈ S ++ N then (n, S, N) else if S = [] ∧ 4 * (N.length + 1) > 3 * n then (2 * n, N, [key]) else (n, S, N ++ [key]))
  else if way = 1 then (if key ∈ S then (n, S.erase key, N) else (n, S, N.erase key))
  else (n, S, N)
/-! ### the law's own table -/
def ownK (o nw : Addr) (s st g : Nat) : List (Key × V) := [(.inr "older", .ref o), (.inr "newer", .ref nw), (.inr "size", .int (s : Int)), (.inr "step", .int (st : Int)), (.inr "gone", .int (g : Int))]
theorem e_dget (k : kE ta σ H fun x H1 => kE tb σ H1 fun y H2 => ∃ a kvs k v, x = .ref a ∧ y = kV k ∧ H2 a = some (.dK kvs) ∧ valV kvs k = some v ∧ Q v H2) : kE (tDGet ta tb) σ H Q := fun H1 e Q1 q => k H1 e _ fun x H0 H2 hx e2 => hx H2 e2 _ fun y H3 H4 ⟨a, kvs, k, v, h1, h2, h3, h4, h5⟩ e4 => by
  subst h2
  refine ⟨a, v, h1, ?_, q _ _ _ h5 e4⟩
  rw [← h4]
  exact DGet.k (e4 _ _ h3)
theorem own_older {P : V → Prop} (h : H d = some (.dK (ownK o nw s st g))) (k : P (.ref o)) : ∃ a kvs k v, V.ref d = .ref a ∧ V.str "older" = kV k ∧ H a = some (.dK kvs) ∧ valV kvs k = some v ∧ P v := ⟨d, _, .inr "older", _, rfl, rfl, h, rfl, k⟩
theorem own_newer {P : V → Prop} (h : H d = some (.dK (ownK o nw s st g))) (k : P (.ref nw)) : ∃ a kvs k v, V.ref d = .ref a ∧ V.str "newer" = kV k ∧ H a = some (.dK kvs) ∧ valV kvs k = some v ∧ P v := ⟨d, _, .inr "newer", _, rfl, rfl, h, rfl, k⟩
theorem own_size {P : V → Prop} (h : H d = some (.dK (ownK o nw s st g))) (k : P (.int (s : Int))) : ∃ a kvs k v, V.ref d = .ref a ∧ V.str "size" = kV k ∧ H a = some (.dK kvs) ∧ valV kvs k = some v ∧ P v := ⟨d, _, .inr "size", _, rfl, rfl, h, rfl, k⟩
theorem own_step {P : V → Prop} (h : H d = some (.dK (ownK o nw s st g))) (k : P (.int (st : Int))) : ∃ a kvs k v, V.ref d = .ref a ∧ V.str "step" = kV k ∧ H a = some (.dK kvs) ∧ valV kvs k = some v ∧ P v := ⟨d, _, .inr "step", _, rfl, rfl, h, rfl, k⟩
theorem own_gone {P : V → Prop} (h : H d = some (.dK (ownK o nw s st g))) (k : P (.int (g : Int))) : ∃ a kvs k v, V.ref d = .ref a ∧ V.str "gone" = kV k ∧ H a = some (.dK kvs) ∧ valV kvs k = some v ∧ P v := ⟨d, _, .inr "gone", _, rfl, rfl, h, rfl, k⟩
theorem g_subD (k : kE ta σ H fun o H1 => kE tb σ H1 fun i H2 => ∃ d kvs k, o = .ref d ∧ i = kV k ∧ H2 d = some (.dK kvs) ∧ kvs.length < 1000 ∧ QS σ (upd H2 d (.dK (putK kvs k v)))) : kG (gSub ta tb rSetD) v σ H QS := fun H1 e _ q =>
  k H1 e _ fun o H0 H2 hx e2 => hx H2 e2 _ fun i H3 H4 ⟨d, kvs, k, h1, h2, h3, h4, h5⟩ e4 => by
    subst h1 h2
    exact ⟨d, _, rfl, DPut.k (e4 _ _ h3) (Nat.lt_of_lt_of_le h4 (by decide)), q _ _ _ h5 (e4.ups d _)⟩
theorem own_sold {w : Addr} (h : H d = some (.dK (ownK o nw s st g))) (k : QS σ (upd H d (.dK (ownK w nw s st g)))) : ∃ d' kvs k, V.ref d = .ref d' ∧ V.str "older" = kV k ∧ H d' = some (.dK kvs) ∧ kvs.length < 1000 ∧ QS σ (upd H d' (.dK (putK kvs k (.ref w)))) := ⟨d, _, .inr "older", rfl, rfl, h, Nat.lt_of_lt_of_le (by decide : 5 < 1000) (Nat.le_refl _), k⟩
theorem own_snew {w : Addr} (h : H d = some (.dK (ownK o nw s st g))) (k : QS σ (upd H d (.dK (ownK o w s st g)))) : ∃ d' kvs k, V.ref d = .ref d' ∧ V.str "newer" = kV k ∧ H d' = some (.dK kvs) ∧ kvs.length < 1000 ∧ QS σ (upd H d' (.dK (putK kvs k (.ref w)))) := ⟨d, _, .inr "newer", rfl, rfl, h, Nat.lt_of_lt_of_le (by decide : 5 < 1000) (Nat.le_refl _), k⟩
theorem own_ssize {i : Int} {w : Nat} (hi : i = w) (h : H d = some (.dK (ownK o nw s st g))) (k : QS σ (upd H d (.dK (ownK o nw w st g)))) : ∃ d' kvs k, V.ref d = .ref d' ∧ V.str "size" = kV k ∧ H d' = some (.dK kvs) ∧ kvs.length < 1000 ∧ QS σ (upd H d' (.dK (putK kvs k (.int i)))) := by
  subst hi
  exact ⟨d, _, .inr "size", rfl, rfl, h, Nat.lt_of_lt_of_le (by decide : 5 < 1000) (Nat.le_refl _), k⟩
theorem own_sgone {i : Int} {w : Nat} (hi : i = w) (h : H d = some (.dK (ownK o nw s st g))) (k : QS σ (upd H d (.dK (ownK o nw s st w)))) : ∃ d' kvs k, V.ref d = .ref d' ∧ V.str "gone" = kV k ∧ H d' = some (.dK kvs) ∧ kvs.length < 1000 ∧ QS σ (upd H d' (.dK (putK kvs k (.int i)))) := by
  subst hi
  exact ⟨d, _, .inr "gone", rfl, rfl, h, Nat.lt_of_lt_of_le (by decide : 5 < 1000) (Nat.le_refl _), k⟩
/-- a display of pairs -/
def kP (trs : List (TE × TE)) (σ : Sg) (H : Hp) (QP : List (V × V) → Hp → Prop) : Prop := ∀ H1, Ex H H1 → ∀ Q1 : List (V × V) → Hp → Prop, (∀ ps H0 H2, QP ps H0 → Ex H0 H2 → Q1 ps H2) → tPairs trs σ H1 Q1
theorem p_nil {QP : List (V × V) → Hp → Prop} (k : QP [] H) : kP [] σ H QP := fun H1 e _ q => q [] H H1 k e
theorem p_cons {trs : List (TE × TE)} {QP : List (V × V) → Hp → Prop} (k : kE ta σ H fun x H1 => kE tb σ H1 fun y H2 => kP trs σ H2 fun ps H3 => QP ((x, y) :: ps) H3) : kP ((ta, tb) :: trs) σ H QP := fun H1 e _ q =>
  k H1 e _ fun x H0 H2 hx e2 => hx H2 e2 _ fun y H3 H4 hy e4 => hy H4 e4 _ fun ps H5 H6 hp e6 => q _ _ _ hp e6
theorem e_disp {trs : List (TE × TE)} (k : ∀ p, H p = none → kP trs σ (upd H p (.dK [])) fun ps H2 => H2 p = some (.dK []) ∧ ∃ kvs : List (Key × V), ps = kvs.map (fun kv => (kV kv.1, kv.2)) ∧ kvs.length ≤ 15 ∧ Q (.ref p) (upd H2 p (.dK (mergeK [] kvs)))) : kE (tDisp trs) σ H Q := fun H1 e _ q p hp =>
  k p (e.fresh hp) _ (e.ups p _) _ fun ps H0 H2 ⟨h1, kvs, h2, h3, h4⟩ e2 => ⟨e2 _ _ h1, kvs, h2, h3, q _ _ _ h4 (e2.ups p _)⟩
theorem cutA {xs : List V} {n : Nat} : cutV xs none (some (n : Int)) = xs.take n := by
  by_cases h : n ≤ xs.length
  · exact cut0 h
  · unfold cutV
    rw [HT.sIx_none, HT.sIx_nat, Nat.min_eq_right (by omega), Nat.sub_zero, List.drop_zero, List.take_length, List.take_of_length_le (by omega)]
/-- a table in the midst of a deed: the older row may have no keys -/
structure GrMid (cs : Cs) (B H : Hp) (t : Addr) (v : V) (r : Rl) (n st g : Nat) (S N : List Nat) : Prop where
  st1 : 1 ≤ st
  st4 : st ≤ 4
  inv0 : S = [] → 4 * N.length ≤ 3 * n
  inv : S ≠ [] → 4 * (2 * S.length + N.length) ≤ 3 * n + 4
  dis : ∀ k ∈ S, k ∉ N
  tab : ∃ a p L ov, GrH cs B H t a p v r n st g N L ov ∧ ((S = [] ∧ ov = .non) ∨ ∃ b q m M, ov = .ref b ∧ 2 * m = n ∧ OldH cs B H a p b q v r m S M)
theorem GrOk.mid {cs : Cs} {B H : Hp} {t : Addr} {v : V} {r : Rl} {n st g : Nat} {S N : List Nat} (h : GrOk cs B H t v r n st g S N) : GrMid cs B H t v r n st g S N := by
  obtain ⟨a, p, L, ov, G, O⟩ := h.tab
  have := h.inv
  exact ⟨h.st1, h.st4, fun z => by subst z; simpa using this, fun _ => by omega, h.dis, a, p, L, ov, G, O.imp id fun ⟨_, z⟩ => z⟩
theorem GrMid.up {cs : Cs} {B H H' : Hp} {t : Addr} {v : V} {r : Rl} {n st g : Nat} {S N : List Nat} (h : GrMid cs B H t v r n st g S N) (e : Ex H H') : GrMid cs B H' t v r n st g S N := by
  obtain ⟨a, p, L, ov, G, O⟩ := h.tab
  refine ⟨h.st1, h.st4, h.inv0, h.inv, h.dis, a, p, L, ov, G.up e, O.imp id fun ⟨b, q, m, M, h2, h3, h4⟩ => ⟨b, q, m, M, h2, h3, h4.up e⟩⟩
theorem GrOk.room {cs : Cs} {B H : Hp} {t : Addr} {v : V} {r : Rl} {n st g : Nat} {S N : List Nat} (G : GrOk cs B H t v r n st g S N) : S.length + N.length < n := by
  obtain ⟨a, p, L, ov, G1, _⟩ := G.tab
  have := G.inv
  have := G1.nw.n2
  omega
end Lg

/-! Mx: sum of a tuple; zip of a list and a tuple; the least of three. -/
namespace Lg
open PySem PySem.Spec PyProof.Rows L2
section
variable {prog : Program} {w : World} {A : Around} {E : Value → Shared → Prop} {s : Shared} {l : Addr} {its : List Value} {ns : List Int} {Q : Value → Shared → Prop}
theorem sum_tup (hh : A.handled = none) (hl : s.heap.IsTuple l its.toArray) (hi : IntsAre its ns)
    (h : ∀ h' tk t', (∀ b o, s.heap.get? b = some o → h'.get? b = some o) → Q (.int ns.sum t') { s with heap := h', toks := tk }) : wpAny (model prog w) A (call (.builtin "sum") [.ref l]) Q E s := by
  obtain ⟨xs, e⟩ := hi.allInts.items
  have hn : numsOf (intItems xs).toList = ns := by rw [← e]; exact hi.numsOf
  rw [nums_intItems] at hn
  rw [e] at hl
  have hne : l ≠ s.heap.objs.size := by
    obtain ⟨o, ho, _⟩ := id hl
    exact Nat.ne_of_lt (Heap.lt_size ho)
  refine call_sum_walkG (wpAny_pyIter_tuple hl ?_)
  refine ⟨_, [_, l], [_], _, _, _, numAt xs, rfl, Walks.tuple (A := A.in1) hh _ l hne (intItems xs), ⟨⟨_, Heap.get?_push_size _ rfl, rfl, rfl⟩, hl.push _⟩, fun d hd => ?_, (fun _ _ => intItems_at), fun h' tk t' hk => ?_⟩
  · rcases List.mem_cons.mp hd with rfl | hd
    · show _ < (s.heap.push _).objs.size
      rw [Heap.size_push]
      exact Nat.lt_succ_self _
    · rw [List.mem_singleton.mp hd]
      obtain ⟨o, ho, _⟩ := id hl
      show _ < (s.heap.push _).objs.size
      rw [Heap.size_push]
      exact Nat.lt_succ_of_lt (Heap.lt_size ho)
  · have := h h' tk t' fun b o e2 => hk b o (fun hm => by
      rw [List.mem_singleton.mp hm] at e2
      exact Nat.lt_irrefl _ (Heap.lt_size e2)) (Heap.get?_push_of_some _ e2)
    simp only [intItems, Array.size_map] at this ⊢
    rw [preSum_eq, List.take_of_length_le (by simp), hn]
    exact this
end
def rSumT (K : PySem.W.Frag) : List V → Hp → VK → Prop := fun vs H Q => ∃ (a : Addr) (ns : List Int), vs = [V.ref a] ∧ SqT K H a (ns.map V.int) ∧ Q (.int ns.sum) H
theorem cr_sumT {X : Cx} (hc : X.calm = true) : CallR X (.builtin "sum") (rSumT X.K) := by
  intro pins s σ H vs us Q I r h
  obtain ⟨a, ns, rfl, hs, q⟩ := h
  obtain ⟨its, rv, hl, _⟩ := I.tuple hs
  rw [Vals.ref1 r]
  exact sum_tup (I.ok.hd hc) hl rv.ints fun h' tk t' hk => ⟨.int _, H, I.kept hk, ⟨_, rfl⟩, q⟩
/-- the list at a and the tuple at b, of one length, the items in new pairs -/
def ItzM (K : PySem.W.Frag) (a b : Addr) : It :=
  ⟨fun i H => ∃ (xs ys : List V) (x y : V), SqL K H a xs ∧ SqT K H b ys ∧ xs[i]? = some x ∧ ys[i]? = some y,
    fun i H v H' => ∃ T x y, v = .ref T ∧ H T = none ∧ H' = upd H T (.tup [x, y]) ∧ (∀ xs, SqL K H a xs → xs[i]? = some x) ∧ ∀ ys, SqT K H b ys → ys[i]? = some y,
    fun i H => ∃ xs ys : List V, SqL K H a xs ∧ SqT K H b ys ∧ xs.length = i ∧ ys.length = i⟩
theorem turn_zipM {P : Program} {w : World} {K : PySem.W.Frag} {elts : List Expr} {kk : Nat} {tpos : Pos} {a b z TI TO i1 i2 : Addr} (D : ZipSep2 z TI TO i1 i2 [i1, a] [i2, b]) (n1 : a ≠ i1) (n2 : b ≠ i2) :
    Turn P w K (.Tuple elts kk tpos) (ItzM K a b) [z, TI, TO, i1, i2] z (fun i h => IsZip h z TI TO .none ∧ IsTupOf2 h TI (.ref i1) (.ref i2) ∧ (∃ x y, IsTupOf2 h TO x y) ∧ h.IsListIter i1 a i ∧ h.IsTupleIter i2 b i) where
  mem := by simp
  obj := fun i h st c hc => by
    obtain ⟨hz, hTI, ⟨x, y, hTO⟩, ⟨o1, e1, _, d1⟩, ⟨o2, e2, _, d2⟩⟩ := st
    have e' : c = z ∨ c = TI ∨ c = TO ∨ c = i1 ∨ c = i2 := by simpa using hc
    rcases e' with q | q | q | q | q
    · rw [q]; exact ⟨_, hz, fun v q => nomatch q⟩
    · rw [q]; exact ⟨_, hTI, fun v q => nomatch q⟩
    · rw [q]; exact ⟨_, hTO, fun v q => nomatch q⟩
    · rw [q]; exact ⟨o1, e1, fun v q => by rw [d1] at q; cases q⟩
    · rw [q]; exact ⟨o2, e2, fun v q => by rw [d2] at q; cases q⟩
  keep := fun i h h' st k => by
    obtain ⟨hz, hTI, ⟨x, y, hTO⟩, h1, h2⟩ := st
    exact ⟨k z (by simp) _ hz, k TI (by simp) _ hTI, ⟨x, y, k TO (by simp) _ hTO⟩, h1.at fun o q => k i1 (by simp) o q, h2.at fun o q => k i2 (by simp) o q⟩
  item := by
    intro X hP hw hK hc i pins s σ H E I hf st hg
    subst hP hw hK
    obtain ⟨hz, hTI, ⟨x0, y0, hTO⟩, h1, h2⟩ := st
    obtain ⟨xs, ys, x, y, hqx, hqy, hx, hy⟩ := hg
    obtain ⟨its, rv, p, _⟩ := I.list hqx
    obtain ⟨its2, rv2, p2, _⟩ := I.tuple hqy
    obtain ⟨u, hu, ru⟩ := rv.get hx
    obtain ⟨u2, hu2, ru2⟩ := rv2.get hy
    have hzl : z < s.heap.objs.size := Heap.lt_size hz
    have hi1 : i < its.toArray.size := by
      have := (List.getElem?_eq_some_iff.mp hu).1
      simpa using this
    have hi2 : i < its2.toArray.size := by
      have := (List.getElem?_eq_some_iff.mp hu2).1
      simpa using this
    refine wpAny_pyNext_zipD2_item D (Draws.list (A := X.A.in1) (show X.A.in1.handled = none from I.ok.hd hc) i1 a n1 its.toArray) (Draws.tuple (A := X.A.in1) (show X.A.in1.handled = none from I.ok.hd hc) i2 b n2 its2.toArray) hz hTI hTO ⟨h1, p.isList⟩ ⟨h2, p2⟩ hi1 hi2 fun v1 v2 h' tk y1 y2 z' TO' st1 st2 hT hsz hk => ?_
    have ev1 : v1 = u := by
      have q : its[i]? = some v1 := by simpa using y1
      rw [hu] at q
      exact (Option.some.inj q).symm
    have ev2 : v2 = u2 := by
      have q : its2[i]? = some v2 := by simpa using y2
      rw [hu2] at q
      exact (Option.some.inj q).symm
    subst ev1 ev2
    obtain ⟨h1', _⟩ := st1
    obtain ⟨h2', _⟩ := st2
    refine ⟨_, rfl, wpAny_letOwnedTupleGo_zip (s := { s with heap := h', toks := tk }) z' fun h'' z'' sb => ?_⟩
    have hT2 : h''.get? s.heap.objs.size = some { cls := .type "tuple", data := .seq #[v1, v2] } := (sb.2 _ (Nat.ne_of_gt hzl)).trans hT
    have new : ObjOk X.prog X.w (upd H s.heap.objs.size (.tup [x, y])) h'' s.heap.objs.size (.tup [x, y]) :=
      ⟨by show 2 ≤ sizeLine; decide, [v1, v2], .cons ru (.cons ru2 .nil), ⟨_, hT2, rfl, _, rfl⟩⟩
    have I1 : Inv X pins σ (upd H s.heap.objs.size (.tup [x, y])) { s with heap := h'', toks := tk } :=
      I.turnedNew (t' := tk) (ch := [z, TI, TO, i1, i2]) (fun c o hb q => (sb.2 c (fun q' => hb (by simp [q']))).trans (hk c o (fun q' => hb (by simp [q'])) (fun q' => hb (by simp [q'])) (fun q' => hb (by simp [q'])) (fun q' => hb (by simp [q'])) q)) hf (Nat.le_refl _) new
    refine ⟨.ref s.heap.objs.size, _, I1, rfl, ⟨_, x, y, rfl, I.hok.fresh (Nat.le_refl _), rfl, fun l hl => by rw [I.list_inj hl hqx]; exact hx, fun l hl => by rw [I.tuple_inj hl hqy]; exact hy⟩, ⟨z'', ?_, ⟨v1, v2, ?_⟩, ?_, ?_⟩, fun c hcm => ?_⟩
    · exact (sb.2 _ D.TIz).trans (hk _ _ D.TIz D.TITO D.TIi1 D.TIi2 hTI)
    · exact (sb.2 _ D.TOz).trans TO'
    · exact h1'.at fun o q => (sb.2 _ (Ne.symm D.zi1)).trans q
    · exact h2'.at fun o q => (sb.2 _ (Ne.symm D.zi2)).trans q
    · have hlt : c < s.heap.objs.size := by
        have e' : c = z ∨ c = TI ∨ c = TO ∨ c = i1 ∨ c = i2 := by simpa using hcm
        rcases e' with q | q | q | q | q
        · rw [q]; exact hzl
        · rw [q]; exact Heap.lt_size hTI
        · rw [q]; exact Heap.lt_size hTO
        · rw [q]; obtain ⟨_, e1, _⟩ := h1; exact Heap.lt_size e1
        · rw [q]; obtain ⟨_, e2, _⟩ := h2; exact Heap.lt_size e2
      rw [upd_ne (Nat.ne_of_lt hlt)]
      exact (hf c hcm).1
  done := by
    intro X hP hw hK hc i pins s σ H E I hf st hg
    subst hP hw hK
    obtain ⟨hz, hTI, ⟨x0, y0, hTO⟩, h1, h2⟩ := st
    obtain ⟨xs, ys, hqx, hqy, e1, e2⟩ := hg
    obtain ⟨its, rv, p, _⟩ := I.list hqx
    obtain ⟨its2, rv2, p2, _⟩ := I.tuple hqy
    have l1 := rv.length
    have l2 := rv2.length
    have q1 : i = its.toArray.size := by simp; omega
    have q2 : i = its2.toArray.size := by simp; omega
    exact wpAny_pyNext_zipD2_end D (Draws.list (A := X.A.in1) (show X.A.in1.handled = none from I.ok.hd hc) i1 a n1 its.toArray) (Draws.tuple (A := X.A.in1) (show X.A.in1.handled = none from I.ok.hd hc) i2 b n2 its2.toArray) hz hTI hTO ⟨h1, p.isList⟩ ⟨h2, p2⟩ (by omega) (by omega) (.inl q1) fun h' tk hk => ⟨rfl, I.turnedL (t' := tk) (ch := [z, TI, TO, i1, i2]) (fun c o hb q =>
      hk c o (fun q' => hb (by simp [q'])) (fun q' => hb (by simp [q'])) (fun q' => hb (by simp [q'])) (fun q' => hb (by simp [q'])) q) hf⟩
  self := fun A i s Q E st h => wpAny_pyIter_zip st.1 h
def iZipM (K : PySem.W.Frag) (ta : TA) : TI := fun σ H R => ta σ H fun vs H1 => ∃ a b xs ys, vs = [.ref a, .ref b] ∧ SqL K H1 a xs ∧ SqT K H1 b ys ∧ R (ItzM K a b) H1
theorem pi_zipM {X : Cx} {e e2 : Expr} {ta : TA} {p pos tpos : Pos} {elts : List Expr} {kk : Nat} (hg : Gl X "zip") (hm : X.mg "zip" = none) (ha : PA X [e, e2] ta)
    (hs : starEach [e, e2] X.env = (false, eval e X.env) :: starEach [e2] X.env := by rfl) (hpl : (backTo pos (starEach [e2] X.env)).any (·.1) = false := by rfl) :
    PI X (.Tuple elts kk tpos) (.Call (.Name "zip" p) [e, e2] [] pos) (iZipM X.K ta) := by
  refine ⟨fun pins s σ H R I h => ?_⟩
  refine Call_ (ld_blt I hg hm PyProof.Rows.boot_zip (PyProof.Rows.callWith_type1 (thn (ha.run pos pins s σ H _ I h) fun us s1 ⟨vs, H1, I1, r1, q1⟩ => ?_) hs hpl))
  obtain ⟨a, b, xs, ys, ex, hqx, hqy, q⟩ := q1
  subst ex
  cases r1 with
  | cons r rr =>
    cases rr with
    | cons r' rr =>
      cases rr
      cases r
      cases r'
      have fresh5 : ∀ c, c ∈ [s1.heap.objs.size + 4, s1.heap.objs.size + 2, s1.heap.objs.size + 3, s1.heap.objs.size, s1.heap.objs.size + 1] → FpOk X pins H1 c := fun c hcm => by
        have e' : c = s1.heap.objs.size + 4 ∨ c = s1.heap.objs.size + 2 ∨ c = s1.heap.objs.size + 3 ∨ c = s1.heap.objs.size ∨ c = s1.heap.objs.size + 1 := by simpa using hcm
        have hle : s1.heap.objs.size ≤ c := by
          rcases e' with z | z | z | z | z
          · rw [z]; exact Nat.le_add_right _ _
          · rw [z]; exact Nat.le_add_right _ _
          · rw [z]; exact Nat.le_add_right _ _
          · rw [z]; exact Nat.le_refl _
          · rw [z]; exact Nat.le_add_right _ _
        exact I1.fpOk hle (I1.hok.fresh hle)
      obtain ⟨its, rv, p1, _⟩ := I1.list hqx
      obtain ⟨its2, rv2, p2, _⟩ := I1.tuple hqy
      have la : a < s1.heap.objs.size := p1.lt
      have lb : b < s1.heap.objs.size := by
        obtain ⟨o, ho, _⟩ := id p2
        exact Heap.lt_size ho
      refine zip_begins2 (begins_list a its.toArray) (begins_tuple b its2.toArray) p1.isList p2 fun h' hz hTI hTO h1 h2 hsz hk => wpAny_pyIter_zip hz ?_
      have I2 : Inv X pins σ H1 { s1 with heap := h' } := I1.kept (t' := s1.toks) hk
      have D := PySem.W.ktu_apart s1.heap.objs.size a b la lb
      have nin : ∀ {x y z : Addr}, x ≠ y → x ≠ z → x ∉ [y, z] := fun h1 h2 h => by
        simp only [List.mem_cons, List.not_mem_nil, or_false] at h
        rcases h with h | h
        · exact h1 h
        · exact h2 h
      exact ⟨s1.heap.objs.size + 4, [s1.heap.objs.size + 4, s1.heap.objs.size + 2, s1.heap.objs.size + 3, s1.heap.objs.size, s1.heap.objs.size + 1], _, _, H1, rfl, I2, turn_zipM ⟨D.TIz, D.TOz, D.TITO, D.TIi1, by simp, nin (Ne.symm D.i1z) (Ne.symm D.l1z), nin D.TOi1 (Ne.symm D.l1TO), D.TIi2, by simp, nin (Ne.symm D.i2z) (Ne.symm D.l2z), nin D.TOi2 (Ne.symm D.l2TO), nin D.i12 (Ne.symm D.l2i1), nin (Ne.symm D.i12) (Ne.symm D.l1i2)⟩ D.l1i1 D.l2i2, ⟨hz, hTI, ⟨_, _, hTO⟩, ⟨_, h1, rfl, rfl⟩, ⟨_, h2, rfl, rfl⟩⟩, fresh5, q⟩
theorem walk_zipM {K : PySem.W.Frag} {a b : Addr} {xs ys : List V} (hn : xs.length = ys.length) : Walk (ItzM K a b) xs.length (fun H => SqL K H a xs ∧ SqT K H b ys) (YPair (fun i => xs[i]?) (fun i => ys[i]?)) := by
  refine ⟨fun i _ hi q => ⟨xs, ys, xs[i], ys[i]'(by omega), q.1, q.2, by simp [hi], List.getElem?_eq_getElem _⟩, fun _ q => ⟨xs, ys, q.1, q.2, rfl, hn.symm⟩, fun i H v H' hi q y => ?_⟩
  obtain ⟨T, x, y, h1, h2, h3, h4, h5⟩ := y
  exact ⟨T, x, y, h1, h2, h3, h4 xs q.1, h5 ys q.2⟩
theorem i_zipM {K : PySem.W.Frag} {t : TA} {σ : Sg} {H : Hp} {QI : PI'} (k : kA t σ H fun vs H1 => ∃ a b xs ys, vs = [.ref a, .ref b] ∧ SqL K H1 a xs ∧ SqT K H1 b ys ∧ xs.length = ys.length ∧ QI xs.length (fun H => SqL K H a xs ∧ SqT K H b ys) (yPair (fun i => xs[i]?) (fun i => ys[i]?)) H1) : kI (iZipM K t) σ H QI := fun H1 e R r => k H1 e _ fun vs H0 H2 ⟨a, b, xs, ys, ev, h1, h2, hn, q⟩ e2 =>
  ⟨a, b, xs, ys, ev, e2.sl h1, e2.st h2, r _ _ _ _ H0 H2 (.ofPair (walk_zipM hn) (fun _ _ e h => ⟨e.sl h.1, e.st h.2⟩)) q e2⟩
theorem c_sumT {K : PySem.W.Frag} {H : Hp} {Q : PV} {p : Addr} {ns : List Int} (h : SqT K H p (ns.map V.int)) (k : Q (.int ns.sum) H) : kC (rSumT K) [.ref p] H Q := fun H1 e _ q => ⟨p, ns, rfl, e.st h, q _ _ _ k e⟩
theorem c_min3 {H : Hp} {Q : PV} {i j k : Int} (q : Q (.int (if k < (if j < i then j else i) then k else (if j < i then j else i))) H) : kC (rNuC3 nuMin3) [.int i, .int j, .int k] H Q := fun H1 e _ r => by
  refine ⟨.int i, .int j, .int k, _, rfl, ?_, r _ _ _ q e⟩
  have lt : ∀ x y : Int, nuLt (.int x) (.int y) = some (decide (x < y)) := fun x y => rfl
  simp only [nuMin3, nuMin2, lt, Option.map_some, Option.bind_some]
  by_cases h1 : j < i
  · rw [decide_eq_true h1, if_pos rfl, lt, Option.map_some]
    by_cases h2 : k < j
    · rw [decide_eq_true h2, if_pos rfl, if_pos h1, if_pos h2]
    · rw [decide_eq_false h2, if_neg (by decide), if_pos h1, if_neg h2]
  · rw [decide_eq_false h1, if_neg (by decide), lt, Option.map_some]
    by_cases h2 : k < i
    · rw [decide_eq_true h2, if_pos rfl, if_neg h1, if_pos h2]
    · rw [decide_eq_false h2, if_neg (by decide), if_neg h1, if_neg h2]
end Lg

/-! St: sorted(set(xs)) of a list of whole numbers, as one step. -/
namespace Lg
open PySem PySem.Spec PyProof.Rows L2
/-- a set without members, as it is made -/
abbrev bare0 (w : World) : Obj := { cls := .type "set", dict := none, data := .set #[] 0 (.fresh 0 0 (!w.params.followText "set-order")) }
section
variable {P : Program} {w : World} {A : Around} {E : Value → Shared → Prop} {s : Shared} {l : Addr} {its : Array Value} {ns : List Int}
/-- the filling of a new set by a list -/
theorem fill_set {R : Result → Shared → Prop} (hq : A.handled = none) (hl : s.heap.IsList l its) (hi : IntsAre its.toList ns) (hb : ns.length + 1 < scanBound)
    (k : ∀ (h' : Heap) (tk c : Nat), SetR w h' s.heap.objs.size (fun j => decide (j ∈ ns)) c → c ≤ ns.length → (∀ b o, s.heap.get? b = some o → h'.get? b = some o) → R (.ok (.ret .none)) { s with heap := h', toks := tk }) :
    codeAny (model P w) A (.builtin "set.update.loop" ⟨[.ref s.heap.objs.size, .ref (s.heap.objs.size + 1)], []⟩) R
      { s with heap := (s.heap.push (bare0 w)).push { cls := .type "list_iterator", data := .fields #[.ref l, .int 0 0] } } := by
  have hsz : its.size = ns.length := by
    have := hi.length
    rwa [Array.length_toList] at this
  have one : (s.heap.push (bare0 w)).objs.size = s.heap.objs.size + 1 := Heap.size_push ..
  have g0 : (s.heap.push (bare0 w)).get? s.heap.objs.size = some (bare0 w) := Heap.get?_push_size _ rfl
  have llt : l < s.heap.objs.size := by
    obtain ⟨o, ho, _⟩ := id hl
    exact Heap.lt_size ho
  have git : ((s.heap.push (bare0 w)).push { cls := .type "list_iterator", data := .fields #[.ref l, .int 0 0] }).IsListIter (s.heap.objs.size + 1) l 0 := by
    have := Heap.get?_push_size (s.heap.push (bare0 w)) (o := { cls := .type "list_iterator", data := .fields #[.ref l, .int 0 0] }) rfl
    rw [one] at this
    exact ⟨_, this, rfl, rfl⟩
  refine set_update_ints (I := s.heap.objs.size + 1) ((Walks.list (A := A.in1) hq (s.heap.objs.size + 1) l (Nat.ne_of_lt (Nat.lt_succ_of_lt llt)) its).toS) s.heap.objs.size ?_ ns hsz hb ?_ (its.size - 0) 0 _ rfl (Nat.zero_le _) ⟨git, (Heap.IsList.push (Heap.IsList.push hl _) _)⟩ ⟨0, Nat.le_refl 0, setR_new_at (Heap.get?_push_of_some _ g0)⟩ ?_
  · intro hm
    rcases List.mem_cons.mp hm with z | z
    · exact Nat.ne_of_lt (Nat.lt_succ_self _) z
    · exact Nat.ne_of_gt llt (List.mem_singleton.mp z)
  · intro i v hv
    have hlt : i < ns.length := hsz ▸ (Array.getElem?_eq_some_iff.mp hv).1
    obtain ⟨t, e⟩ := hi.int_at i v (by rw [Array.getElem?_toList]; exact hv)
    rw [List.getD_eq_getElem?_getD, List.getElem?_eq_getElem hlt] at e
    exact ⟨_, t, List.getElem?_eq_getElem hlt, e⟩
  · rintro ⟨h', g', d', tk', os'⟩ c hm hc R'
    obtain rfl : g' = s.gens := hm.gens
    obtain rfl : d' = s.drawn := hm.drawn
    obtain rfl : os' = s.os := hm.os
    refine k h' tk' c R' (hsz ▸ hc) fun b o e => hm.heap b o (fun z => ?_) (Heap.get?_push_of_some _ (Heap.get?_push_of_some _ e))
    have hlt := Heap.lt_size e
    rcases List.mem_cons.mp z with z | z
    · exact Nat.ne_of_lt hlt z
    · exact Nat.ne_of_lt (Nat.lt_succ_of_lt hlt) (List.mem_singleton.mp z)
/-- set(xs), a list of whole numbers -/
theorem set_call {Q : Value → Shared → Prop} (hq : A.handled = none) (hl : s.heap.IsList l its) (hi : IntsAre its.toList ns) (hb : ns.length + 1 < scanBound)
    (k : ∀ (h' : Heap) (tk c : Nat), SetR w h' s.heap.objs.size (fun j => decide (j ∈ ns)) c → c ≤ ns.length → (∀ b o, s.heap.get? b = some o → h'.get? b = some o) → Q (.ref s.heap.objs.size) { s with heap := h', toks := tk }) :
    wpAny (model P w) A (call (.type "set") [.ref l]) Q E s := by
  obtain ⟨_, _, mro⟩ := F.called_set.mro
  have f1 := F.called_set.made
  have f2 := F.called_set.sub
  have f3 := F.called_set.notType
  have f4 := F.called_set.canCreate
  have f5 := F.typeCall_set_1 (.ref l)
  have f6 := F.called_set.init.lookup
  refine wpAny_call (codeAny_of_tree (show wpAny _ _ (callAny (.type "set") _) _ _ _ from wpAny_pure ⟨Code.quiet_builtin _ (by decide +kernel), codeAny_builtin F.entry_type_call ?_⟩))
  rw [Around.under_plain (weight_type_call_type "set" [.ref l] []) rfl]
  repeat (any_goals (first | assumption | wp_step))
  refine codeAny_mono (code_set_led1 (.ref l) (E := E) (Q₁ := fun u s1 => u = .ref s.heap.objs.size ∧ s1 = { s with heap := s.heap.push (bare0 w) }) ⟨rfl, rfl⟩) fun res s1 hres => ?_
  match res, hres with
  | .error _, hres => exact hres
  | .ok .next, hres => exact hres.elim
  | .ok .brk, hres => exact hres.elim
  | .ok .cont, hres => exact hres.elim
  | .ok (.ret u), ⟨hu, hs1⟩ =>
    subst hu hs1
    have g0 : (s.heap.push (bare0 w)).get? s.heap.objs.size = some (bare0 w) := Heap.get?_push_size _ rfl
    have ty : Shared.TypeIs { s with heap := s.heap.push (bare0 w) } (.ref s.heap.objs.size) "set" := ⟨_, g0, rfl⟩
    have f7 := F.called_set.init.bind (.ref s.heap.objs.size)
    repeat (any_goals (first | assumption | wp_step))
    refine codeAny_mono (codeAny_call_builtin (R := wants (fun u s2 => u = .none ∧ ∃ h' tk c, s2 = { s with heap := h', toks := tk } ∧ SetR w h' s.heap.objs.size (fun j => decide (j ∈ ns)) c ∧ c ≤ ns.length ∧ (∀ b o, s.heap.get? b = some o → h'.get? b = some o)) E) F.called_set.init.plain F.entry_set_init (check_set_init_1 ty ?_)) fun res2 s2 hres2 => ?_
    · have lpush : (s.heap.push (bare0 w)).IsList l its := Heap.IsList.push hl _
      obtain ⟨⟨oc, od, odt, osl⟩, ho, oc2, nn, od2⟩ := id lpush
      simp only at oc2 od2
      subst oc2 od2
      have f8 := F.sub_list_set
      have f9 := F.sub_list_frozenset
      have f10 : (Value.type "list" == Value.type "dict") = false := by decide
      unfold Builtin.«set.__init__» noKeywords Builtin.Frozenset.updateFrom
      generalize ePI : pyIter = PI
      wp_walk
      subst ePI
      refine wpAny_pyIter_list lpush (wpAny_bind (wpAny_runValue ?_))
      have one : (s.heap.push (bare0 w)).objs.size = s.heap.objs.size + 1 := Heap.size_push ..
      show codeAny (model P w) A.in1.in1 (.builtin "set.update.loop" ⟨[.ref s.heap.objs.size, .ref (s.heap.push (bare0 w)).objs.size], []⟩) _ _
      rw [one]
      refine fill_set (A := A.in1.in1) hq hl hi hb fun h' tk c R' hc kp => ?_
      refine wpAny_pure ?_
      show wpAny _ _ (ret Value.none) _ _ _
      exact wpAny_pure ⟨rfl, h', tk, c, rfl, R', hc, kp⟩
    · match res2, hres2 with
      | .error _, hres2 => exact hres2
      | .ok .next, hres2 => exact hres2.elim
      | .ok .brk, hres2 => exact hres2.elim
      | .ok .cont, hres2 => exact hres2.elim
      | .ok (.ret u2), ⟨hu2, h', tk, c, hs2, R', hc, kp⟩ =>
        subst hu2 hs2
        repeat (any_goals (first | assumption | wp_step))
        exact k _ _ _ R' hc kp
end
/-- sorted(set(xs)) -/
def tSortSet (K : PySem.W.Frag) (ta : TE) : TE := fun σ H Q => ta σ H fun x H1 => ∃ (l : Addr) (ns : List Int), x = V.ref l ∧ SqL K H1 l (ns.map V.int) ∧ ns.length < 64 ∧ ∀ (ws : List Int) (p : Addr) (H2 : Hp), ws.Pairwise (· < ·) → (∀ k, k ∈ ws ↔ k ∈ ns) → Ex H1 H2 → H1 p = none → H2 p = some (.lst (ws.map V.int)) → Q (.ref p) H2
theorem pe_sortSet {X : Cx} {a : Expr} {ta : TE} {p p2 q pos : Pos} (hc : X.calm = true) (hg : Gl X "sorted") (hm : X.mg "sorted" = none) (hg2 : Gl X "set") (hm2 : X.mg "set" = none) (ha : PE X a ta)
    (na : starEach [a] X.env = (false, eval a X.env) :: starEach [] X.env := by rfl) : PE X (.Call (.Name "sorted" p) [.Call (.Name "set" p2) [a] [] q] [] pos) (tSortSet X.K ta) := by
  refine ⟨fun pins s σ H Q I h => ?_⟩
  refine Call_ (ld_blt I hg hm boot_sorted ?_)
  refine PyProof.Rows.callWith_builtin1 (PyProof.Rows.args_cons ?_ rfl) rfl rfl
  refine Call_ (ld_blt I hg2 hm2 PyProof.Rows.boot_set ?_)
  refine PyProof.Rows.callWith_type1 (PyProof.Rows.args_cons (thn (ha.run pins s σ H _ I h) fun v s1 ⟨x, H1, I1, r1, q1⟩ => PyProof.Rows.args_nil ?_) na) na rfl
  obtain ⟨l, ns, rfl, hs, h64, q1⟩ := q1
  cases r1
  obtain ⟨its, r, pl, hz⟩ := I1.list hs
  have hi : IntsAre its.toArray.toList ns := by simpa using r.ints
  refine set_call (I1.ok.hd hc) pl.isList hi (by unfold scanBound; omega) fun h' tk c R hc2 kp => ?_
  refine PyProof.Rows.args_nil ?_
  have hf : H1 s1.heap.objs.size = none := I1.hok.fresh (Nat.le_refl _)
  have I2 : L2.Inv X pins σ (upd H1 s1.heap.objs.size (SetO X.w s1.heap.objs.size (fun j => decide (j ∈ ns)) c)) { s1 with heap := h', toks := tk } := I1.laid (t' := tk) kp (Nat.le_refl _) (setO_new R)
  have hcn : c < 64 := by omega
  exact cr_sortedSet hc pins _ σ _ [.ref s1.heap.objs.size] [.ref s1.heap.objs.size] Q I2 (.cons rfl .nil) ⟨_, _, _, rfl, upd_same, hcn, fun ws p0 h1 h2 h3 h4 => q1 ws p0 _ h1 (fun k => by rw [h2 k, decide_eq_true_eq]) ((Ex.news hf).newr h4) ((Ex.news hf).fresh h4) upd_same⟩
theorem e_sortSet {K : PySem.W.Frag} {σ : Sg} {H : Hp} {Q : PV} {ta : TE} (k : kE ta σ H fun x H1 => ∃ (l : Addr) (ns : List Int), x = V.ref l ∧ SqL K H1 l (ns.map V.int) ∧ ns.length < 64 ∧ ∀ (ws : List Int) (p : Addr) (H2 : Hp), ws.Pairwise (· < ·) → (∀ k, k ∈ ws ↔ k ∈ ns) → Ex H1 H2 → H1 p = none → H2 p = some (.lst (ws.map V.int)) → Q (.ref p) H2) : kE (tSortSet K ta) σ H Q := fun H1 e _ q => k H1 e _ fun x H0 H2 ⟨l, ns, h1, h2, h3, h4⟩ e2 =>
  ⟨l, ns, h1, e2.sl h2, h3, fun ws p H3 a1 a2 a3 a4 a5 => q _ _ _ (h4 ws p H3 a1 a2 (e2.tr a3) (e2.fresh a4) a5) Ex.rf⟩
end Lg

namespace Lg
open PySem PySem.Spec PyProof.Rows L2 L2H LgH
local macro_rules | `(tactic| k_memK) => `(tactic| first
  | with_reducible assumption
  | with_reducible exact SqT.of upd_same
  | with_reducible exact SqL.of upd_same
  | with_reducible exact upd_same
  | ((with_reducible refine' st_new ?k1 ?k2); (case k1 => with_reducible assumption); (case k2 => k_memK))
  | ((with_reducible refine' sl_new ?k1 ?k2); (case k1 => with_reducible assumption); (case k2 => k_memK))
  | ((with_reducible refine' at_new ?k1 ?k2); (case k1 => with_reducible assumption); (case k2 => k_memK))
  | (with_reducible refine' SqT.of ?k1); (case k1 => k_memK)
  | ((with_reducible refine' SqL.of ?k1); (case k1 => k_memK))
  | ((with_reducible refine' Ex.get ?k1 ?k2); (case k2 => with_reducible assumption); (case k1 => k_offL))
  | ((with_reducible refine' Ex.sl ?k1 ?k2); (case k2 => with_reducible assumption); (case k1 => k_offL))
  | ((with_reducible refine' Ex.st ?k1 ?k2); (case k2 => with_reducible assumption); (case k1 => k_offL)))
local macro_rules | `(tactic| k_allIn) => `(tactic| first | with_reducible assumption | with_reducible exact mulxR (by decide) (by decide) | with_reducible exact cdivL (by decide) (by decide) | with_reducible exact cdivL (by omega) (by omega) | with_reducible exact mulxL (by decide) (by decide) | with_reducible exact mulxR (by omega) (by omega) | with_reducible exact mulxL (by omega) (by omega) | omega | decide)
local macro_rules | `(tactic| k_ownIn) => `(tactic| first
  | with_reducible exact Ty5.int _ | with_reducible exact Ty5.bl _ | with_reducible exact Ty5.non | with_reducible exact Ty5.str _ | with_reducible assumption
  | ((with_reducible refine' Ty5.lst (xs := ?k2) ?k1); (case k1 => k_memK)) | ((with_reducible refine' Ty5.tup (xs := ?k2) ?k1); (case k1 => k_memK))
  | ((with_reducible refine' Ty5.up (IsT.ty ?k1) ?k2); (case k1 => with_reducible assumption); (case k2 => k_offL))
  | ((with_reducible refine' Ty5.up ?k1 ?k2); (case k1 => with_reducible assumption); (case k2 => k_offL))
  | with_reducible exact IsT.int _ | with_reducible exact IsT.bl _ | with_reducible exact IsT.non | with_reducible exact IsT.str _
  | ((with_reducible refine' IsT.up ?k2 ?k1); (case k1 => with_reducible assumption); (case k2 => k_offL))
  | ((with_reducible refine' IsT.up ?k2 (IsRl.th ?k1)); (case k1 => with_reducible assumption); (case k2 => k_offL))
  | ((with_reducible refine' IsRl.up ?k2 ?k1); (case k1 => with_reducible assumption); (case k2 => k_offL))
  | with_reducible exact IsTs.nil | with_reducible exact isTs_rep _
  | ((with_reducible refine' IsTs.cons ?k1 ?k2); (case k1 => k_ownIn); (case k2 => k_ownIn))
  | ((with_reducible refine' IsT.lst (vs := ?k2) ?k1); (case k1 => k_memK))
  | ((with_reducible refine' IsT.tup (vs := ?k2) ?k1 ?k3); (case k1 => k_memK); (case k3 => k_ownIn)))
local macro_rules | `(tactic| k_places) => `(tactic| first
  | ((with_reducible refine' e_var ?k1 ?_); (case k1 => rfl))
  | (with_reducible refine' e_c ?_)
  | (with_reducible refine' e_op ?_)
  | (with_reducible refine' a_cons ?_)
  | (with_reducible refine' a_nil ?_)
  | (with_reducible refine' r_I0 ?_)
  | (with_reducible refine' s_seq ?_)
  | (with_reducible refine' s_asg ?_)
  | (with_reducible refine' t_test ?_)
  | (with_reducible refine' t_not ?_)
  | (with_reducible refine' t_B ?_)
  | (with_reducible refine ⟨_, rfl, ?_⟩)
  | (with_reducible refine' r_eqI ?_)
  | (with_reducible refine' r_neI ?_)
  | (with_reducible refine' e_call ?_)
  | (with_reducible refine' e_cb ?_)
  | (with_reducible refine' s_if ?_)
  | (with_reducible refine' s_ret ?_)
  | (with_reducible refine' r_p16 ?_) | (with_reducible refine' r_p20 ?_) | (with_reducible refine' r_p24 ?_) | (with_reducible refine' r_p30 ?_) | (with_reducible refine' r_p40 ?_) | (with_reducible refine' r_p46 ?_) | (with_reducible refine' r_p50 ?_)
  | (with_reducible refine' s_next ?_)
  | ((with_reducible refine' r_I ?k1 ?_); (case k1 => k_allIn))
  | (refine ⟨fun h => Bool.noConfusion h, fun _ => ?_⟩)
  | (refine ⟨fun _ => ?_, fun h => Bool.noConfusion h⟩)
  | ((with_reducible refine' r_ixT ?k1 ?k2 ?_); (case k1 => k_memK); (case k2 => rfl))
  | ((with_reducible refine' r_ixL ?k1 ?k2 ?_); (case k1 => k_memK); (case k2 => rfl))
  | ((with_reducible refine' r_eq ?k1 ?_); (case k1 => rfl))
  | ((with_reducible refine' r_ne ?k1 ?_); (case k1 => rfl))
  | (with_reducible refine' e_un ?_) | (with_reducible refine' u_U ?_)
  | (with_reducible refine' e_tup ?_) | (with_reducible refine' e_lst ?_)
  | (with_reducible refine' ⟨szl (Nat.le_of_ble_eq_true rfl), fun _ _ => ?_⟩)
  | (with_reducible refine' e_if ?_) | (with_reducible refine' e_andV ?_) | (with_reducible refine' e_orV ?_) | (with_reducible refine' e_notV ?_) | (with_reducible refine' e_chain ?_)
  | (with_reducible refine' t_and ?_) | (with_reducible refine' t_or ?_)
  | (with_reducible refine' s_drop ?_) | (with_reducible refine' s_brk ?_) | (with_reducible refine' s_cont ?_) | (with_reducible refine' s_par ?_)
  | (with_reducible refine ⟨_, _, rfl, ?_⟩)
  | (with_reducible refine' c_abs ?_) | (with_reducible refine' c_max2 ?_) | (with_reducible refine' c_min2 ?_)
  | ((with_reducible refine' c_lenL ?k1 ?_); (case k1 => k_memK)) | ((with_reducible refine' c_lenT ?k1 ?_); (case k1 => k_memK))
  | ((with_reducible refine' r_cat ?k1 ?k2 ?k3 (fun _ _ => ?_)); (case k1 => k_memK); (case k2 => k_memK); (case k3 => with_reducible exact szl (Nat.le_of_ble_eq_true rfl)))
  | (with_reducible refine' e_bm ?_)
  | ((with_reducible refine ⟨_, ?k0, rfl, ?k1, ?_⟩); (case k1 => k_memK))
  | ((with_reducible refine' m_append ?k1 ?k2 ?_); (case k1 => k_memK); (case k2 => first | with_reducible exact Nat.le_of_ble_eq_true rfl | omega))
  | (with_reducible refine' c_int1 ?_) | (with_reducible refine' c_intB ?_)
  | ((with_reducible refine' c_listL ?k1 (fun _ _ => ?_)); (case k1 => k_memK)) | ((with_reducible refine' c_tupL ?k1 (fun _ _ => ?_)); (case k1 => k_memK))
  | ((with_reducible refine' r_inT ?k1 ?k2 ?k3 ?_); (case k1 => k_memK); (case k2 => rfl); (case k3 => rfl)) | ((with_reducible refine' r_ninT ?k1 ?k2 ?k3 ?_); (case k1 => k_memK); (case k2 => rfl); (case k3 => rfl))
  | (with_reducible refine' s_retN ?_) | (with_reducible refine' e_slL ?_) | (with_reducible refine' o_no ?_) | (with_reducible refine' o_part ?_)
  | ((with_reducible refine' c_tupL ?k1 (fun _ _ => ?_)); (case k1 => k_memK))
  | (with_reducible refine' t_yes ?_) | (with_reducible refine' e_dnew fun _ _ => ?_) | (with_reducible refine' i_enumA ?_) | (with_reducible refine' r_notNon ?_) | (with_reducible refine' r_notInt ?_)
  | (with_reducible refine' i_rng1 ?_) | (with_reducible refine' i_rng2 ?_) | (with_reducible refine' i_list ?_) | (with_reducible refine' i_tup ?_) | (with_reducible refine' i_enum ?_) | (with_reducible refine' i_zip ?_)
  | ((with_reducible refine' c_isi ?k1 ?k2 ?_); (case k1 => k_ownIn); (case k2 => first | with_reducible exact kb_int_int | with_reducible exact kb_int_bool | with_reducible exact kb_int_tuple | with_reducible exact kb_int_list | with_reducible exact kb_bool_int | with_reducible exact kb_bool_bool | with_reducible exact kb_bool_tuple | with_reducible exact kb_bool_list | with_reducible exact kb_NoneType_int | with_reducible exact kb_NoneType_bool | with_reducible exact kb_NoneType_tuple | with_reducible exact kb_NoneType_list | with_reducible exact kb_str_int | with_reducible exact kb_str_bool | with_reducible exact kb_str_tuple | with_reducible exact kb_str_list | with_reducible exact kb_list_int | with_reducible exact kb_list_bool | with_reducible exact kb_list_tuple | with_reducible exact kb_list_list | with_reducible exact kb_tuple_int | with_reducible exact kb_tuple_bool | with_reducible exact kb_tuple_tuple | with_reducible exact kb_tuple_list))
  | (with_reducible refine' s_asgG ?_) | (with_reducible refine' g_name ?_) | (with_reducible refine' g_cons ?_) | (with_reducible refine' g_nil ?_)
  | ((with_reducible refine' g_tup ?k1 ?k2 ?_); (case k1 => k_memK); (case k2 => rfl))
  | (with_reducible refine' r_notB ?_) | (with_reducible refine' r_isB ?_) | (with_reducible refine' e_revL ?_) | (with_reducible refine' r_isNRef ?_) | (with_reducible refine' r_notRef ?_) | (with_reducible refine' r_isNon ?_) | (with_reducible refine' r_isNInt ?_)
  | (with_reducible refine' e_fld ?_) | (with_reducible refine' e_meth ?_) | (with_reducible refine' e_methT ?_) | (with_reducible refine' s_fld ?_)
  | ((with_reducible refine' f_rule ?k1 ?k2 ?_); (case k1 => with_reducible assumption); (case k2 => k_memK))
  | ((with_reducible refine' f_size ?k1 ?k2 ?_); (case k1 => with_reducible assumption); (case k2 => k_memK))
  | ((with_reducible refine' f_places ?k1 ?k2 ?_); (case k1 => with_reducible assumption); (case k2 => k_memK))
  | ((with_reducible refine' f_many ?k1 ?k2 ?_); (case k1 => with_reducible assumption); (case k2 => k_memK))
  | ((with_reducible refine' f_ring ?k1 ?k2 ?_); (case k1 => with_reducible assumption); (case k2 => k_memK))
  | ((with_reducible refine' mt_at ?k1 ?k2 ?_); (case k1 => k_memK); (case k2 => rfl))
  | (with_reducible refine' e_dget ?_) | (with_reducible refine' g_subD ?_)
  | ((with_reducible refine' own_older ?k1 ?_); (case k1 => k_memK)) | ((with_reducible refine' own_newer ?k1 ?_); (case k1 => k_memK)) | ((with_reducible refine' own_size ?k1 ?_); (case k1 => k_memK)) | ((with_reducible refine' own_step ?k1 ?_); (case k1 => k_memK)) | ((with_reducible refine' own_gone ?k1 ?_); (case k1 => k_memK))
  | ((with_reducible refine' own_sold ?k1 ?_); (case k1 => k_memK)) | ((with_reducible refine' own_snew ?k1 ?_); (case k1 => k_memK))
  | ((with_reducible refine' f_grule ?k1 ?k2 ?_); (case k1 => with_reducible assumption); (case k2 => k_memK))
  | ((with_reducible refine' f_gstep ?k1 ?k2 ?_); (case k1 => with_reducible assumption); (case k2 => k_memK))
  | ((with_reducible refine' f_golder ?k1 ?k2 ?_); (case k1 => with_reducible assumption); (case k2 => k_memK))
  | ((with_reducible refine' f_gnewer ?k1 ?k2 ?_); (case k1 => with_reducible assumption); (case k2 => k_memK))
  | ((with_reducible refine' f_ggone ?k1 ?k2 ?_); (case k1 => with_reducible assumption); (case k2 => k_memK))
  | ((with_reducible refine' g_golder ?k1 ?k2 ?_); (case k1 => with_reducible assumption); (case k2 => k_memK))
  | ((with_reducible refine' g_gnewer ?k1 ?k2 ?_); (case k1 => with_reducible assumption); (case k2 => k_memK))
  | ((with_reducible refine' g_ggone ?k1 ?k2 ?_); (case k1 => with_reducible assumption); (case k2 => k_memK))
  | (with_reducible refine' i_zipM ?_) | (with_reducible refine' e_sortSet ?_) | (with_reducible refine' c_min3 ?_) | ((with_reducible refine' c_sumT ?k1 ?_); (case k1 => k_memK))
  | (with_reducible refine' s_asgG ?_))
local macro_rules | `(tactic| k_clsL) => `(tactic| repeat k_places)
local macro_rules | `(tactic| k_offL) => `(tactic| first
  | with_reducible assumption | with_reducible exact Ex.rf
  | ((with_reducible refine' Ex.newr ?k1 ?k2); (case k2 => with_reducible assumption); (case k1 => k_offL))
  | ((with_reducible refine' Ex.mutr ?k1 ?k2); (case k2 => k_offL); (case k1 => k_offL))
  | ((with_reducible refine' Ex.tr ?k1 ?k2); (case k1 => with_reducible assumption); (case k2 => k_offL))
  | ((with_reducible refine' Ex.fresh ?k1 ?k2); (case k2 => with_reducible assumption); (case k1 => k_offL)))
def topS (i : Nat) : Stmt := PySem.Challenge.pw_strewn_k70_whole_worst.main.body.getD i (.Pass ⟨0, 0, 0, 0⟩)
/-! ### k40: scatterings laid -/
def prb (free : Nat → Bool) (size : Nat) : Nat → Nat → Nat
  | 0, p => p
  | k + 1, p => if free p then p else prb free size k ((p + 1) % size)
/-- how many steps it goes -/
def stp (free : Nat → Bool) (size : Nat) : Nat → Nat → Nat
  | 0, _ => 0
  | k + 1, p => if free p then 0 else stp free size k ((p + 1) % size) + 1
def frO (l : List (Option Nat)) (p : Nat) : Bool := (l.getD p none).isNone
def laidI (size : Nat) (homes : List Nat) : Nat → List (Option Nat)
  | 0 => List.replicate size none
  | i + 1 => (laidI size homes i).set (prb (frO (laidI size homes i)) size size (homes.getD i 0)) (some i)
def wayAt (size : Nat) (homes : List Nat) (place : Nat) : Option Nat → Nat
  | none => 0
  | some n => (place + size - homes.getD n 0) % size
def wayS (size : Nat) (homes : List Nat) (l : List (Option Nat)) : Nat → Nat
  | 0 => 0
  | p + 1 => wayS size homes l p + wayAt size homes p (l.getD p none)
def wayN (size : Nat) (homes : List Nat) : Nat := wayS size homes (laidI size homes homes.length) size
theorem laidI_val {size : Nat} {homes : List Nat} : ∀ i, ∀ o ∈ laidI size homes i, ∀ n, o = some n → n < i
  | 0, o, h, n, e => by
    have := (List.mem_replicate.mp h).2
    rw [this] at e
    cases e
  | i + 1, o, h, n, e => by
    rw [laidI] at h
    rcases List.mem_or_eq_of_mem_set h with h | h
    · exact Nat.lt_succ_of_lt (laidI_val i o h n e)
    · rw [h] at e
      cases e
      exact Nat.lt_succ_self i
theorem prb_lt {free : Nat → Bool} {size : Nat} (h : 0 < size) : ∀ k p, p < size → prb free size k p < size
  | 0, p, hp => hp
  | k + 1, p, hp => by
    unfold prb
    split
    · exact hp
    · exact prb_lt h k _ (Nat.mod_lt _ h)
theorem prb_free {free : Nat → Bool} {size : Nat} : ∀ k p, p < size → (∃ d, d ≤ k ∧ free ((p + d) % size) = true) → free (prb free size k p) = true
  | 0, p, hp, ⟨d, hd, hf⟩ => by
    rw [Nat.le_zero.mp hd, Nat.add_zero, Nat.mod_eq_of_lt hp] at hf
    exact hf
  | k + 1, p, hp, ⟨d, hd, hf⟩ => by
    unfold prb
    split
    · assumption
    · rename_i hn
      cases d with
      | zero =>
        rw [Nat.add_zero, Nat.mod_eq_of_lt hp] at hf
        exact absurd hf hn
      | succ d =>
        refine prb_free k _ (Nat.mod_lt _ (by omega)) ⟨d, by omega, ?_⟩
        rw [Nat.mod_add_mod, show p + 1 + d = p + (d + 1) by omega]
        exact hf
theorem free_some {free : Nat → Bool} {size p : Nat} (hs : 0 < size) (occ : List Nat) (hn : occ.length < size) (ho : ∀ j, j < size → free j = false → j ∈ occ) : ∃ d, d ≤ size ∧ free ((p + d) % size) = true := by
  obtain ⟨d, h1, h2⟩ := free_at occ p size hn
  refine ⟨d, by omega, ?_⟩
  cases h : free ((p + d) % size) with
  | true => rfl
  | false => exact absurd (ho _ (Nat.mod_lt _ hs) h) h2
/-! ### first come -/
theorem prb_path {free : Nat → Bool} {n a e : Nat} (ha : a < n) (he : e < n) (hf : free e = true) : ∀ k p, p < n → (∀ q, q < n → Rg.wy n a q < Rg.wy n a p → free q = false) → ∀ q, q < n → Rg.wy n a q < Rg.wy n a (prb free n k p) → free q = false
  | 0, p, hp, hw => hw
  | k + 1, p, hp, hw => by
    unfold prb
    split
    · exact hw
    · rename_i hn
      have hn : free p = false := by simpa using hn
      have hpe : p ≠ e := fun y => by rw [y, hf] at hn; cases hn
      have hlt : Rg.wy n a p < Rg.wy n a e := by
        rcases Nat.lt_trichotomy (Rg.wy n a p) (Rg.wy n a e) with y | y | y
        · exact y
        · exact absurd (Rg.wy_inj ha hp he y) hpe
        · rw [hw e he y] at hf
          cases hf
      have hen := Rg.wy_lt ha he
      have hnx := Rg.wy_nx ha hp (by omega)
      have hnl := Rg.nx_lt (n := n) (p := p) (by omega)
      rw [← Rg.nx_mod hp]
      refine prb_path ha he hf k _ hnl fun q hq hq2 => ?_
      by_cases y : q = p
      · exact y ▸ hn
      · have : Rg.wy n a q ≠ Rg.wy n a p := fun y2 => y (Rg.wy_inj ha hq hp y2)
        exact hw q hq (by omega)
structure FcOk (n : Nat) (h : Nat → Nat) (L : List (Option Nat)) (S : List Nat) : Prop where
  len : L.length = n
  way : ∀ p k, p < n → gL L p = some k → ∀ q, q < n → Rg.wy n (h k) q < Rg.wy n (h k) p → gL L q ≠ none
  inj : ∀ p q k, p < n → q < n → gL L p = some k → gL L q = some k → p = q
  keys : Rg.Keys n (gL L) (· ∈ S)
section
variable {n : Nat} {h : Nat → Nat} {L M : List (Option Nat)} {S T : List Nat}
theorem frO_iff {q : Nat} : frO L q = true ↔ gL L q = none := by
  unfold frO gL
  cases L.getD q none <;> simp
theorem FcOk.nil : FcOk n h (List.replicate n none) [] := by
  have e : ∀ q, gL (List.replicate n none) q = none := fun q => by
    unfold gL
    rw [List.getD_eq_getElem?_getD, List.getElem?_replicate]
    split <;> rfl
  refine ⟨List.length_replicate, fun p k _ hk => ?_, fun p q k _ _ hk => ?_, fun k => ⟨fun ⟨q, _, hk⟩ => ?_, fun hk => absurd hk List.not_mem_nil⟩⟩ <;> (rw [e] at hk; cases hk)
theorem FcOk.perm (F : FcOk n h L S) (p : S.Perm T) : FcOk n h L T := ⟨F.len, F.way, F.inj, fun k => (F.keys k).trans p.mem_iff⟩
theorem FcOk.keysP (F : FcOk n h L S) (hS : S.Nodup) : (Rg.keysOf n (gL L)).Perm S :=
  (List.perm_ext_iff_of_nodup (Rg.nodup_fm List.nodup_range fun a ha b hb k h1 h2 => F.inj a b k (List.mem_range.mp ha) (List.mem_range.mp hb) h1 h2) hS).mpr fun k => Rg.mem_keysOf.trans (F.keys k)
theorem FcOk.park (hh : ∀ k, h k < n) (F : FcOk n h L S) : Rg.Park n (fun q => q < n ∧ gL L q ≠ none) (Rg.parkOf n h (gL L)) := Rg.parkOf_ok hh F.way
theorem FcOk.homes (F : FcOk n h L S) (hS : S.Nodup) : ((Rg.parkOf n h (gL L)).map (·.1)).Perm (S.map h) := by
  rw [Rg.parkOf_home]
  exact (F.keysP hS).map h
theorem FcOk.plen (F : FcOk n h L S) (hS : S.Nodup) : (Rg.parkOf n h (gL L)).length = S.length := by
  have := (F.homes hS).length_eq
  rw [List.length_map, List.length_map] at this
  exact this
theorem FcOk.empty (hh : ∀ k, h k < n) (F : FcOk n h L S) (hS : S.Nodup) (hl : S.length < n) : ∃ e, e < n ∧ gL L e = none := by
  obtain ⟨e, he, z⟩ := (F.park hh).empty (by rw [F.plen hS]; exact hl)
  refine ⟨e, he, ?_⟩
  cases hg : gL L e with
  | none => rfl
  | some k => exact absurd ⟨he, by rw [hg]; exact Option.some_ne_none _⟩ z
theorem FcOk.tgt (hh : ∀ k, h k < n) (F : FcOk n h L S) (hS : S.Nodup) (hl : S.length < n) (k : Nat) : prb (frO L) n n (h k) < n ∧ gL L (prb (frO L) n n (h k)) = none := by
  obtain ⟨e, he, hg⟩ := F.empty hh hS hl
  refine ⟨prb_lt (by omega) _ _ (hh k), frO_iff.mp (prb_free _ _ (hh k) ⟨Rg.wy n (h k) e, ?_, ?_⟩)⟩
  · have := Rg.wy_lt (hh k) he
    omega
  · have : (h k + Rg.wy n (h k) e) % n = e := Rg.rot_wy (hh k) he
    rw [this]
    exact frO_iff.mpr hg
theorem FcOk.add (hh : ∀ k, h k < n) (F : FcOk n h L S) (hS : S.Nodup) (hl : S.length < n) {k : Nat} (hk : k ∉ S) : FcOk n h (L.set (prb (frO L) n n (h k)) (some k)) (S ++ [k]) := by
  obtain ⟨h1, h2⟩ := F.tgt hh hS hl k
  obtain ⟨e, he, hg⟩ := F.empty hh hS hl
  have hw := prb_path (free := frO L) (hh k) he (frO_iff.mpr hg) n (h k) (hh k) (fun q _ z => by rw [Rg.wy_self] at z; omega)
  generalize prb (frO L) n n (h k) = t at *
  have hgs : gL (L.set t (some k)) = Rg.up (gL L) t (some k) := gL_set (by rw [F.len]; exact h1)
  have hu : ∀ q, Rg.up (gL L) t (some k) q = if q = t then some k else gL L q := fun _ => rfl
  refine ⟨by rw [List.length_set]; exact F.len, fun p k' hp hk' q hq hlt => ?_, fun p q k' hp hq e1 e2 => ?_, fun k' => ?_⟩
  · rw [hgs, hu] at hk' ⊢
    by_cases y : q = t
    · rw [if_pos y]
      exact Option.some_ne_none _
    · rw [if_neg y]
      by_cases z : p = t
      · rw [if_pos z] at hk'
        have := Option.some.inj hk'
        subst this
        rw [z] at hlt
        have := hw q hq hlt
        intro y2
        rw [frO_iff.mpr y2] at this
        cases this
      · rw [if_neg z] at hk'
        exact F.way p k' hp hk' q hq hlt
  · rw [hgs, hu] at e1 e2
    by_cases y : p = t <;> by_cases z : q = t
    · rw [y, z]
    · rw [if_pos y] at e1
      rw [if_neg z] at e2
      have := Option.some.inj e1
      subst this
      exact absurd ((F.keys k).mp ⟨q, hq, e2⟩) hk
    · rw [if_neg y] at e1
      rw [if_pos z] at e2
      have := Option.some.inj e2
      subst this
      exact absurd ((F.keys k).mp ⟨p, hp, e1⟩) hk
    · rw [if_neg y] at e1
      rw [if_neg z] at e2
      exact F.inj p q k' hp hq e1 e2
  · rw [hgs]
    show (∃ q, q < n ∧ Rg.up (gL L) t (some k) q = some k') ↔ k' ∈ S ++ [k]
    rw [List.mem_append, List.mem_singleton]
    constructor
    · rintro ⟨q, hq, e1⟩
      rw [hu] at e1
      by_cases y : q = t
      · rw [if_pos y] at e1
        exact .inr (Option.some.inj e1).symm
      · rw [if_neg y] at e1
        exact .inl ((F.keys k').mp ⟨q, hq, e1⟩)
    · rintro (y | rfl)
      · obtain ⟨q, hq, e1⟩ := (F.keys k').mpr y
        refine ⟨q, hq, ?_⟩
        rw [hu, if_neg fun z => ?_]
        · exact e1
        · rw [z, h2] at e1
          cases e1
      · exact ⟨t, h1, by rw [hu, if_pos rfl]⟩
/-- what stands where by first come -/
def fcI (h : Nat → Nat) (n : Nat) (ks : List Nat) : Nat → List (Option Nat)
  | 0 => List.replicate n none
  | i + 1 => (fcI h n ks i).set (prb (frO (fcI h n ks i)) n n (h (ks.getD i 0))) (some (ks.getD i 0))
theorem fcI_ok {ks : List Nat} (hh : ∀ k, h k < n) (hS : ks.Nodup) (hl : ks.length < n) : ∀ i, i ≤ ks.length → FcOk n h (fcI h n ks i) (ks.take i)
  | 0, _ => FcOk.nil
  | i + 1, hi => by
    have ih := fcI_ok hh hS hl i (by omega)
    have hg : ks.getD i 0 = ks[i]'(by omega) := by rw [List.getD_eq_getElem?_getD, List.getElem?_eq_getElem (by omega)]; rfl
    have ht : ks.take (i + 1) = ks.take i ++ [ks[i]'(by omega)] := by rw [List.take_succ, List.getElem?_eq_getElem (by omega)]; rfl
    unfold fcI
    rw [hg, ht]
    refine ih.add hh ((List.take_sublist i ks).nodup hS) (by rw [List.length_take]; omega) fun hm => ?_
    have hn := List.nodup_append.mp (ht ▸ (List.take_sublist (i + 1) ks).nodup hS)
    exact hn.2.2 _ hm _ (List.mem_singleton.mpr rfl) rfl
theorem fcI_all {ks : List Nat} (hh : ∀ k, h k < n) (hS : ks.Nodup) (hl : ks.length < n) : FcOk n h (fcI h n ks ks.length) ks := by
  have := fcI_ok hh hS hl ks.length (Nat.le_refl _)
  rwa [List.take_length] at this
theorem fcI_laid {ks : List Nat} : ∀ i, i ≤ ks.length → fcI h n ks i = (laidI n (ks.map h) i).map (Option.map fun j => ks.getD j 0)
  | 0, _ => by simp [fcI, laidI]
  | i + 1, hi => by
    have ih : fcI h n ks i = (laidI n (ks.map h) i).map (Option.map fun j => ks.getD j 0) := fcI_laid i (by omega)
    have hf : frO (fcI h n ks i) = frO (laidI n (ks.map h) i) := by
      funext q
      rw [ih]
      unfold frO
      rw [List.getD_eq_getElem?_getD, List.getD_eq_getElem?_getD, List.getElem?_map]
      cases (laidI n (ks.map h) i)[q]? with
      | none => rfl
      | some o => cases o <;> rfl
    have hd : (ks.map h).getD i 0 = h (ks.getD i 0) := by
      rw [List.getD_eq_getElem?_getD, List.getD_eq_getElem?_getD, List.getElem?_map, List.getElem?_eq_getElem (by omega)]
      rfl
    unfold fcI laidI
    rw [hf, hd, ih, List.map_set]
    rfl
/-- the taken places and the ways hang on the keys alone -/
theorem FcOk.same (hh : ∀ k, h k < n) (A : FcOk n h L S) (B : FcOk n h M T) (hp : S.Perm T) (hS : S.Nodup) (hl : S.length < n) : (∀ q, q < n → (gL L q = none ↔ gL M q = none)) ∧ Rg.far n (Rg.parkOf n h (gL L)) = Rg.far n (Rg.parkOf n h (gL M)) := by
  have B := B.perm hp.symm
  have e := (A.homes hS).trans (B.homes hS).symm
  have hl2 : (Rg.parkOf n h (gL L)).length < n := by rw [A.plen hS]; exact hl
  refine ⟨fun q hq => ?_, (A.park hh).far (B.park hh) e hl2⟩
  have := (A.park hh).same (B.park hh) e hl2 (x := q) hq
  constructor
  · intro y
    cases hg : gL M q with
    | none => rfl
    | some k => exact absurd y (this.mpr ⟨hq, by rw [hg]; exact Option.some_ne_none _⟩).2
  · intro y
    cases hg : gL L q with
    | none => rfl
    | some k => exact absurd y (this.mp ⟨hq, by rw [hg]; exact Option.some_ne_none _⟩).2
theorem FcOk.bits (hh : ∀ k, h k < n) (A : FcOk n h L S) (B : FcOk n h M T) (hp : S.Perm T) (hS : S.Nodup) (hl : S.length < n) : L.map Option.isNone = M.map Option.isNone := by
  have hq := (A.same hh B hp hS hl).1
  have h1 := A.len
  have h2 := B.len
  refine List.ext_getElem (by rw [List.length_map, List.length_map, h1, h2]) fun i i1 i2 => ?_
  rw [List.length_map] at i1 i2
  rw [List.getElem_map, List.getElem_map]
  have := hq i (by omega)
  unfold gL at this
  rw [List.getD_eq_getElem?_getD, List.getD_eq_getElem?_getD, List.getElem?_eq_getElem i1, List.getElem?_eq_getElem i2] at this
  have this : L[i] = none ↔ M[i] = none := this
  cases e1 : L[i] <;> cases e2 : M[i]
  · rfl
  · rw [e1, e2] at this
    exact absurd (this.mp rfl) (Option.some_ne_none _)
  · rw [e1, e2] at this
    exact absurd (this.mpr rfl) (Option.some_ne_none _)
  · rfl
/-- ways so far, place by place -/
def farI (n : Nat) (h : Nat → Nat) (g : Rg.Lay) (i : Nat) : List Nat := (List.range i).filterMap fun p => (g p).map fun k => Rg.wy n (h k) p
theorem farI_all {g : Rg.Lay} : (farI n h g n).sum = Rg.far n (Rg.parkOf n h g) := by
  unfold farI Rg.far Rg.parkOf
  rw [List.map_filterMap]
  congr 2
  funext p
  cases g p <;> rfl
theorem farI_none {g : Rg.Lay} {i : Nat} (hg : g i = none) : farI n h g (i + 1) = farI n h g i := by
  unfold farI
  rw [List.range_succ, List.filterMap_append]
  simp [hg]
theorem farI_some {g : Rg.Lay} {i k : Nat} (hg : g i = some k) : farI n h g (i + 1) = farI n h g i ++ [Rg.wy n (h k) i] := by
  unfold farI
  rw [List.range_succ, List.filterMap_append]
  simp [hg]
end
theorem WfL.fc {r : Rl} {n : Nat} {L : List (Option Nat)} {S : List Nat} (w : WfL r n L S) (hl : L.length = n) : FcOk n (fun k => homeN r k n) L S :=
  ⟨hl, fun p k hp hg q hq hw => by
    obtain ⟨k', h1, _⟩ := w.lay.way p k hp hg q hq hw
    rw [h1]
    exact Option.some_ne_none _, w.lay.inj, w.keys⟩
theorem sum_cast : ∀ l : List Nat, (l.map fun n : Nat => (n : Int)).sum = ((l.sum : Nat) : Int)
  | [] => rfl
  | a :: l => by
    rw [List.map_cons, List.sum_cons, List.sum_cons, sum_cast l]
    omega
/-! ### ways by homes alone -/
section
variable {n : Nat} {hs hs' : List Nat}
theorem hs_lt (hn : 0 < n) (hh : ∀ x ∈ hs, x < n) (k : Nat) : (fun j => hs.getD j 0) k < n := by
  show hs.getD k 0 < n
  rw [List.getD_eq_getElem?_getD]
  by_cases z : k < hs.length
  · rw [List.getElem?_eq_getElem z]
    exact hh _ (List.getElem_mem z)
  · rw [List.getElem?_eq_none (by omega)]
    exact hn
theorem hs_map : (List.range hs.length).map (fun j => hs.getD j 0) = hs := by
  refine List.ext_getElem (by simp) fun i h1 h2 => ?_
  rw [List.getElem_map, List.getElem_range, List.getD_eq_getElem?_getD, List.getElem?_eq_getElem h2]
  rfl
theorem laidI_fc (hl : hs.length < n) (hh : ∀ x ∈ hs, x < n) : FcOk n (fun j => hs.getD j 0) (laidI n hs hs.length) (List.range hs.length) := by
  have F := fcI_all (h := fun j => hs.getD j 0) (n := n) (ks := List.range hs.length) (hs_lt (by omega) hh) List.nodup_range (by simpa using hl)
  have e := fcI_laid (h := fun j => hs.getD j 0) (n := n) (ks := List.range hs.length) hs.length (by simp)
  rw [hs_map] at e
  rw [List.length_range, e] at F
  have e2 : (laidI n hs hs.length).map (Option.map fun j => (List.range hs.length).getD j 0) = laidI n hs hs.length := by
    refine (List.map_congr_left fun o ho => ?_).trans (List.map_id _)
    cases o with
    | none => rfl
    | some j =>
      have hj := laidI_val _ _ ho j rfl
      simp only [Option.map_some, id]
      rw [List.getD_eq_getElem?_getD, List.getElem?_range hj]
      rfl
  rw [e2] at F
  exact F
theorem wayS_farI {L : List (Option Nat)} (hh : ∀ k, (fun j => hs.getD j 0) k < n) : ∀ i, i ≤ n → wayS n hs L i = (farI n (fun j => hs.getD j 0) (gL L) i).sum
  | 0, _ => rfl
  | i + 1, hi => by
    have ih := wayS_farI (L := L) hh i (by omega)
    have hg : L.getD i none = gL L i := rfl
    rw [wayS, ih, hg]
    cases h : gL L i with
    | none => rw [farI_none h]; rfl
    | some k =>
      rw [farI_some h, List.sum_append]
      have hk := hh k
      simp only at hk
      simp only [List.sum_cons, List.sum_nil, Nat.add_zero, wayAt, Rg.wy_mod hk (by omega : i < n)]
theorem wayN_far (hl : hs.length < n) (hh : ∀ x ∈ hs, x < n) : wayN n hs = Rg.far n (Rg.parkOf n (fun j => hs.getD j 0) (gL (laidI n hs hs.length))) := by
  unfold wayN
  rw [wayS_farI (hs_lt (by omega) hh) n (Nat.le_refl _), farI_all]
theorem wayN_homes (hl : hs.length < n) (hh : ∀ x ∈ hs, x < n) : ((Rg.parkOf n (fun j => hs.getD j 0) (gL (laidI n hs hs.length))).map (·.1)).Perm hs := by
  have := (laidI_fc hl hh).homes List.nodup_range
  rwa [hs_map] at this
theorem wayN_park {T : Nat → Prop} {z : List (Nat × Nat)} (hl : hs.length < n) (hh : ∀ x ∈ hs, x < n) (P : Rg.Park n T z) (hp : (z.map (·.1)).Perm hs) : wayN n hs = Rg.far n z := by
  have e := (wayN_homes hl hh).trans hp.symm
  have hlen : (Rg.parkOf n (fun j => hs.getD j 0) (gL (laidI n hs hs.length))).length < n := by
    have := (wayN_homes hl hh).length_eq
    rw [List.length_map] at this
    omega
  rw [wayN_far hl hh]
  exact ((laidI_fc hl hh).park (hs_lt (by omega) hh)).far P e hlen
theorem wayN_perm (hl : hs.length < n) (hh : ∀ x ∈ hs, x < n) (hp : hs.Perm hs') : wayN n hs = wayN n hs' := by
  have hl' : hs'.length < n := by rw [← hp.length_eq]; exact hl
  have hh' : ∀ x ∈ hs', x < n := fun x hx => hh x (hp.mem_iff.mpr hx)
  rw [wayN_far hl' hh']
  exact wayN_park hl hh ((laidI_fc hl' hh').park (hs_lt (by omega) hh')) ((wayN_homes hl' hh').trans hp.symm)
end
/-! ### counts dealt to homes -/
def dlLo (room : List Nat) (many k : Nat) (one : List Nat) : Nat := (many - one.sum) - (room.drop (k + 1)).sum
def dlHi (room : List Nat) (many k : Nat) (one : List Nat) : Nat := min (room.getD k 0) (many - one.sum)
def dlN (room : List Nat) (many k : Nat) (one : List Nat) : List (List Nat) := (List.range (dlHi room many k one + 1 - dlLo room many k one)).map fun i => one ++ [dlLo room many k one + i]
def dealtK (room : List Nat) (many : Nat) : Nat → List (List Nat)
  | 0 => [[]]
  | k + 1 => (dealtK room many k).flatMap (dlN room many k)
section
variable {room : List Nat} {many : Nat}
theorem drop_sum {l : List Nat} {k : Nat} (h : k < l.length) : (l.drop k).sum = l.getD k 0 + (l.drop (k + 1)).sum := by
  rw [List.drop_eq_getElem_cons h, List.sum_cons, List.getD_eq_getElem?_getD, List.getElem?_eq_getElem h]
  rfl
theorem take_sum {l : List Nat} {k : Nat} (h : k < l.length) : (l.take (k + 1)).sum = (l.take k).sum + l.getD k 0 := by
  rw [List.take_succ, List.getElem?_eq_getElem h, List.sum_append, List.getD_eq_getElem?_getD, List.getElem?_eq_getElem h]
  simp
theorem dlN_mem {k : Nat} {one c : List Nat} : c ∈ dlN room many k one ↔ ∃ x, c = one ++ [x] ∧ dlLo room many k one ≤ x ∧ x ≤ dlHi room many k one := by
  unfold dlN
  rw [List.mem_map]
  constructor
  · rintro ⟨i, hi, rfl⟩
    rw [List.mem_range] at hi
    exact ⟨_, rfl, by omega, by omega⟩
  · rintro ⟨x, rfl, h1, h2⟩
    exact ⟨x - dlLo room many k one, List.mem_range.mpr (by omega), by rw [show dlLo room many k one + (x - dlLo room many k one) = x by omega]⟩
theorem dealt_ok (hm : many ≤ room.sum) : ∀ k, k ≤ room.length → ∀ one ∈ dealtK room many k, one.length = k ∧ one.sum ≤ many ∧ (∀ i, i < k → one.getD i 0 ≤ room.getD i 0) ∧ many - one.sum ≤ (room.drop k).sum
  | 0, _, one, h => by
    rw [dealtK, List.mem_singleton] at h
    subst h
    exact ⟨rfl, Nat.zero_le _, fun i hi => absurd hi (Nat.not_lt_zero _), by simpa using hm⟩
  | k + 1, hk, c, h => by
    rw [dealtK] at h
    obtain ⟨one, h1, h2⟩ := List.mem_flatMap.mp h
    obtain ⟨x, rfl, lo, hi⟩ := dlN_mem.mp h2
    obtain ⟨i1, i2, i3, i4⟩ := dealt_ok hm k (by omega) one h1
    have hd := drop_sum (l := room) (k := k) hk
    unfold dlLo at lo
    unfold dlHi at hi
    refine ⟨by simp [i1], ?_, fun i hi2 => ?_, ?_⟩
    · simp only [List.sum_append, List.sum_cons, List.sum_nil]
      omega
    · rw [List.getD_eq_getElem?_getD]
      by_cases z : i < k
      · rw [List.getElem?_append_left (by omega), ← List.getD_eq_getElem?_getD]
        exact i3 i z
      · have : i = k := by omega
        subst this
        rw [List.getElem?_append_right (by omega), i1, Nat.sub_self]
        simp only [List.getElem?_cons_zero, Option.getD_some]
        omega
    · simp only [List.sum_append, List.sum_cons, List.sum_nil]
      omega
theorem sum_le : ∀ {a b : List Nat}, a.length = b.length → (∀ i, i < a.length → a.getD i 0 ≤ b.getD i 0) → a.sum ≤ b.sum
  | [], [], _, _ => Nat.le_refl _
  | [], _ :: _, h, _ => by simp at h
  | _ :: _, [], h, _ => by simp at h
  | x :: a, y :: b, h, hle => by
    have h0 := hle 0 (by simp)
    have ih := sum_le (a := a) (b := b) (by simpa using h) fun i hi => by
      have := hle (i + 1) (by simpa using hi)
      simpa using this
    simp only [List.sum_cons]
    simp at h0
    omega
theorem getD_drop {l : List Nat} {k i : Nat} : (l.drop k).getD i 0 = l.getD (k + i) 0 := by
  rw [List.getD_eq_getElem?_getD, List.getD_eq_getElem?_getD, List.getElem?_drop]
theorem dealt_all {c : List Nat} (hl : c.length = room.length) (hle : ∀ i, i < room.length → c.getD i 0 ≤ room.getD i 0) (hs : c.sum = many) : ∀ k, k ≤ room.length → c.take k ∈ dealtK room many k
  | 0, _ => by simp [dealtK]
  | k + 1, hk => by
    have ih := dealt_all hl hle hs k (by omega)
    have hk2 : k < c.length := by omega
    rw [dealtK]
    refine List.mem_flatMap.mpr ⟨_, ih, dlN_mem.mpr ⟨c.getD k 0, ?_, ?_, ?_⟩⟩
    · rw [List.take_succ, List.getElem?_eq_getElem hk2, List.getD_eq_getElem?_getD, List.getElem?_eq_getElem hk2]
      rfl
    · have e1 : c.sum = (c.take k).sum + (c.drop k).sum := by
        rw [← List.sum_append, List.take_append_drop]
      have e2 := drop_sum (l := c) (k := k) hk2
      have e3 : (c.drop (k + 1)).sum ≤ (room.drop (k + 1)).sum := sum_le (by simp [hl]) fun i hi => by
        rw [getD_drop, getD_drop]
        rw [List.length_drop] at hi
        exact hle _ (by omega)
      unfold dlLo
      omega
    · have e1 : c.sum = (c.take k).sum + (c.drop k).sum := by
        rw [← List.sum_append, List.take_append_drop]
      have e2 := drop_sum (l := c) (k := k) hk2
      have := hle k hk
      unfold dlHi
      omega
theorem flat_le {α β : Type} {f : α → List β} {m : Nat} : ∀ {l : List α}, (∀ x ∈ l, (f x).length ≤ m) → (l.flatMap f).length ≤ l.length * m
  | [], _ => by simp
  | a :: l, h => by
    rw [List.flatMap_cons, List.length_append, List.length_cons, Nat.succ_mul]
    have := h a List.mem_cons_self
    have := flat_le (l := l) fun x hx => h x (List.mem_cons_of_mem _ hx)
    omega
theorem succ_le_pow (n : Nat) : n + 1 ≤ 2 ^ n := Nat.lt_two_pow_self
theorem dealt_len : ∀ k, k ≤ room.length → (dealtK room many k).length ≤ 2 ^ (room.take k).sum
  | 0, _ => by simp [dealtK]
  | k + 1, hk => by
    have ih := dealt_len k (by omega)
    rw [dealtK, take_sum hk, Nat.pow_add]
    refine Nat.le_trans (flat_le (m := room.getD k 0 + 1) fun one _ => ?_) (Nat.mul_le_mul ih (succ_le_pow _))
    unfold dlN dlHi
    rw [List.length_map, List.length_range]
    omega
theorem flat_take {α β : Type} {f : α → List β} {l : List α} {j : Nat} : ((l.take j).flatMap f).length ≤ (l.flatMap f).length := by
  have h : l.flatMap f = (l.take j).flatMap f ++ (l.drop j).flatMap f := by
    rw [← List.flatMap_append, List.take_append_drop]
  rw [h, List.length_append]
  omega
end
/-! ### homes of so many keys each -/
def homesB (c : List Nat) : List Nat := (List.range c.length).flatMap fun p => List.replicate (c.getD p 0) p
theorem rep_count (f : Nat → Nat) (a : Nat) : ∀ n, ((List.range n).flatMap fun p => List.replicate (f p) p).count a = if a < n then f a else 0
  | 0 => by simp
  | n + 1 => by
    rw [List.range_succ, List.flatMap_append, List.count_append, rep_count f a n]
    simp only [List.flatMap_cons, List.flatMap_nil, List.append_nil, List.count_replicate]
    by_cases h : n = a
    · subst h
      simp
    · have : (n == a) = false := by simpa using h
      by_cases h2 : a < n
      · have h3 : a < n + 1 := by omega
        simp [h2, h3, this]
      · have h3 : ¬ a < n + 1 := by omega
        simp [h2, h3, this]
theorem rep_len (f : Nat → Nat) : ∀ n, ((List.range n).flatMap fun p => List.replicate (f p) p).length = ((List.range n).map f).sum
  | 0 => rfl
  | n + 1 => by
    rw [List.range_succ, List.flatMap_append, List.length_append, rep_len f n, List.map_append, List.sum_append]
    simp
theorem map_getD (c : List Nat) : (List.range c.length).map (fun p => c.getD p 0) = c := by
  refine List.ext_getElem (by simp) fun i h1 h2 => ?_
  rw [List.getElem_map, List.getElem_range, List.getD_eq_getElem?_getD, List.getElem?_eq_getElem h2]
  rfl
theorem homesB_len {c : List Nat} : (homesB c).length = c.sum := by
  unfold homesB
  rw [rep_len, map_getD]
theorem homesB_lt {c : List Nat} : ∀ x ∈ homesB c, x < c.length := fun x hx => by
  obtain ⟨p, hp, hx⟩ := List.mem_flatMap.mp hx
  rw [(List.mem_replicate.mp hx).2]
  exact List.mem_range.mp hp
def cntH (n : Nat) (hs : List Nat) : List Nat := (List.range n).map fun p => hs.count p
theorem cntH_at {n p : Nat} {hs : List Nat} (h : p < n) : (cntH n hs).getD p 0 = hs.count p := by
  unfold cntH
  rw [List.getD_eq_getElem?_getD, List.getElem?_map, List.getElem?_range h]
  rfl
theorem homesB_cnt {n : Nat} {hs : List Nat} (hh : ∀ x ∈ hs, x < n) : (homesB (cntH n hs)).Perm hs := by
  refine List.perm_iff_count.mpr fun a => ?_
  unfold homesB
  rw [rep_count, show (cntH n hs).length = n by simp [cntH]]
  by_cases h : a < n
  · rw [if_pos h, cntH_at h]
  · rw [if_neg h]
    exact (List.count_eq_zero.mpr fun hm => h (hh a hm)).symm
theorem cntH_sum {n : Nat} {hs : List Nat} (hh : ∀ x ∈ hs, x < n) : (cntH n hs).sum = hs.length := by
  rw [← homesB_len, (homesB_cnt hh).length_eq]
/-! ### keys by homes -/
def ownK' (h : Nat → Nat) (limit p : Nat) : List Nat := (List.range limit).filter fun k => h k == p
def roomK (h : Nat → Nat) (n limit : Nat) : List Nat := (List.range n).map fun p => (ownK' h limit p).length
section
variable {h : Nat → Nat} {n limit many far : Nat} {best ms ks : List Nat}
theorem cnt_map {ks : List Nat} {p : Nat} : (ks.map h).count p = (ks.filter fun k => h k == p).length := by
  rw [List.count_eq_length_filter, List.filter_map, List.length_map]
  rfl
theorem room_cnt : roomK h n limit = cntH n ((List.range limit).map h) := by
  unfold roomK cntH
  exact List.map_congr_left fun p _ => by rw [cnt_map]; rfl
theorem room_at {p : Nat} (hp : p < n) : (roomK h n limit).getD p 0 = (ownK' h limit p).length := by
  unfold roomK
  rw [List.getD_eq_getElem?_getD, List.getElem?_map, List.getElem?_range hp]
  rfl
theorem room_sum (hh : ∀ k, h k < n) : (roomK h n limit).sum = limit := by
  rw [room_cnt, cntH_sum fun x hx => by
    obtain ⟨k, _, rfl⟩ := List.mem_map.mp hx
    exact hh k]
  simp
theorem room_len : (roomK h n limit).length = n := by simp [roomK]
def keysB (h : Nat → Nat) (limit : Nat) (best : List Nat) : List Nat := (List.range best.length).flatMap fun p => (ownK' h limit p).take (best.getD p 0)
theorem keysB_mem {k : Nat} : k ∈ keysB h limit best → k < limit ∧ h k < best.length := fun hk => by
  obtain ⟨p, hp, hk⟩ := List.mem_flatMap.mp hk
  have := List.mem_filter.mp (List.mem_of_mem_take hk)
  have e : h k = p := by simpa using this.2
  exact ⟨List.mem_range.mp this.1, e ▸ List.mem_range.mp hp⟩
theorem keysB_map (hle : ∀ p, p < best.length → best.getD p 0 ≤ (ownK' h limit p).length) : (keysB h limit best).map h = homesB best := by
  unfold keysB homesB
  have aux : ∀ l : List Nat, (∀ p ∈ l, p < best.length) → (l.flatMap fun p => (ownK' h limit p).take (best.getD p 0)).map h = l.flatMap fun p => List.replicate (best.getD p 0) p := fun l hl => by
    induction l with
    | nil => rfl
    | cons p l ih =>
      rw [List.flatMap_cons, List.map_append, ih fun q hq => hl q (List.mem_cons_of_mem _ hq), List.flatMap_cons]
      congr 1
      refine List.eq_replicate_iff.mpr ⟨?_, fun x hx => ?_⟩
      · rw [List.length_map, List.length_take, Nat.min_eq_left (hle p (hl p List.mem_cons_self))]
      · obtain ⟨k, hk, rfl⟩ := List.mem_map.mp hx
        have := (List.mem_filter.mp (List.mem_of_mem_take hk)).2
        simpa using this
  exact aux _ fun p hp => List.mem_range.mp hp
theorem keysB_nd : (keysB h limit best).Nodup := by
  unfold keysB
  have aux : ∀ l : List Nat, l.Nodup → (l.flatMap fun p => (ownK' h limit p).take (best.getD p 0)).Nodup := fun l hl => by
    induction l with
    | nil => exact List.nodup_nil
    | cons p l ih =>
      obtain ⟨h1, h2⟩ := List.nodup_cons.mp hl
      rw [List.flatMap_cons]
      refine List.nodup_append.mpr ⟨(List.take_sublist _ _).nodup (List.nodup_range.filter _), ih h2, fun x hx y hy e => ?_⟩
      subst e
      obtain ⟨q, hq, hy⟩ := List.mem_flatMap.mp hy
      have e1 : h x = p := by simpa using (List.mem_filter.mp (List.mem_of_mem_take hx)).2
      have e2 : h x = q := by simpa using (List.mem_filter.mp (List.mem_of_mem_take hy)).2
      exact h1 (by rw [← e1, e2]; exact hq)
  exact aux _ List.nodup_range
theorem dealt_choice {ks : List Nat} (hh : ∀ k, h k < n) (k1 : ks.Nodup) (k2 : ∀ k ∈ ks, k < limit) (k3 : ks.length = many) : cntH n (ks.map h) ∈ dealtK (roomK h n limit) many n := by
  have hlt : ∀ x ∈ ks.map h, x < n := fun x hx => by
    obtain ⟨k, _, rfl⟩ := List.mem_map.mp hx
    exact hh k
  have := dealt_all (room := roomK h n limit) (many := many) (c := cntH n (ks.map h)) (by rw [room_len]; simp [cntH]) (fun i hi => ?_) (by rw [cntH_sum hlt, List.length_map, k3]) n (by rw [room_len]; exact Nat.le_refl _)
  · rwa [List.take_of_length_le (by simp [cntH])] at this
  · rw [room_len] at hi
    rw [cntH_at hi, room_at hi, cnt_map]
    refine Rg.nodup_le' (k1.filter _) fun k hk => ?_
    obtain ⟨q1, q2⟩ := List.mem_filter.mp hk
    exact List.mem_filter.mpr ⟨List.mem_range.mpr (k2 k q1), q2⟩
theorem dealt_sum {c : List Nat} (hh : ∀ k, h k < n) (hml : many ≤ limit) (hc : c ∈ dealtK (roomK h n limit) many n) : c.length = n ∧ c.sum = many := by
  obtain ⟨b1, b2, b3, b4⟩ := dealt_ok (room := roomK h n limit) (by rw [room_sum hh]; exact hml) n (by rw [room_len]; exact Nat.le_refl _) c hc
  rw [List.drop_of_length_le (by rw [room_len]; exact Nat.le_refl _)] at b4
  simp at b4
  exact ⟨b1, by omega⟩
theorem own_next {p key : Nat} : ownK' h (key + 1) p = ownK' h key p ++ (if h key = p then [key] else []) := by
  unfold ownK'
  rw [List.range_succ, List.filter_append]
  by_cases z : h key = p <;> simp [z]
theorem own_len {p : Nat} : (ownK' h limit p).length ≤ limit := by
  unfold ownK'
  exact Nat.le_trans (List.length_filter_le _ _) (by simp)
/-- what worst answers -/
structure WorstOk (h : Nat → Nat) (n many limit : Nat) (ms : List Nat) (far : Nat) : Prop where
  best : ∃ best, best ∈ dealtK (roomK h n limit) many n ∧ far = wayN n (homesB best) ∧ ms.Perm (keysB h limit best) ∧ ∃ j : Nat, (dealtK (roomK h n limit) many n)[j]? = some best ∧ ∀ i, i < j → ∀ c, (dealtK (roomK h n limit) many n)[i]? = some c → wayN n (homesB c) < far
  top : ∀ c ∈ dealtK (roomK h n limit) many n, wayN n (homesB c) ≤ far
  srt : ms.Pairwise (· ≤ ·)
theorem WorstOk.uniq {ms' : List Nat} {far' : Nat} (W : WorstOk h n many limit ms far) (W' : WorstOk h n many limit ms' far') : ms = ms' ∧ far = far' := by
  obtain ⟨b, hb, hf, hp, j, hj, hlt⟩ := W.best
  obtain ⟨b', hb', hf', hp', j', hj', hlt'⟩ := W'.best
  have e1 : far = far' := Nat.le_antisymm (hf ▸ W'.top b hb) (hf' ▸ W.top b' hb')
  subst e1
  have ej : j = j' := by
    rcases Nat.lt_trichotomy j j' with z | z | z
    · have := hlt' j z b hj
      omega
    · exact z
    · have := hlt j' z b' hj'
      omega
  subst ej
  rw [hj] at hj'
  have eb := Option.some.inj hj'
  subst eb
  exact ⟨List.Perm.eq_of_pairwise (le := (· ≤ ·)) (fun a b _ _ hab hba => Nat.le_antisymm hab hba) W.srt W'.srt (hp.trans hp'.symm), rfl⟩
theorem WorstOk.law (hh : ∀ k, h k < n) (hmn : many < n) (hml : many ≤ limit) (W : WorstOk h n many limit ms far) : ms.Pairwise (· < ·) ∧ ms.length = many ∧ (∀ k ∈ ms, k < limit) ∧ wayN n (ms.map h) = far ∧
    ∀ ks : List Nat, ks.Nodup → (∀ k ∈ ks, k < limit) → ks.length = many → wayN n (ks.map h) ≤ far := by
  obtain ⟨best, hb, hfar, hp, _⟩ := W.best
  have hm : many ≤ (roomK h n limit).sum := by rw [room_sum hh]; exact hml
  obtain ⟨b1, b2, b3, b4⟩ := dealt_ok hm n (by rw [room_len]; exact Nat.le_refl _) best hb
  rw [List.drop_of_length_le (by rw [room_len]; exact Nat.le_refl _)] at b4
  have bs : best.sum = many := by
    simp at b4
    omega
  have hle : ∀ p, p < best.length → best.getD p 0 ≤ (ownK' h limit p).length := fun p hp => by
    rw [b1] at hp
    have := b3 p hp
    rwa [room_at hp] at this
  have nd : ms.Nodup := hp.nodup_iff.mpr keysB_nd
  have hmap := keysB_map hle
  have hl : ms.length = many := by
    rw [hp.length_eq, ← List.length_map (f := h), hmap, homesB_len, bs]
  refine ⟨?_, hl, fun k hk => (keysB_mem (hp.mem_iff.mp hk)).1, ?_, fun ks k1 k2 k3 => ?_⟩
  · exact (W.srt.and nd).imp fun {a b} h => Nat.lt_of_le_of_ne h.1 h.2
  · rw [hfar, ← hmap]
    refine wayN_perm (by rw [List.length_map]; omega) (fun x hx => ?_) (hp.map h)
    obtain ⟨k, _, rfl⟩ := List.mem_map.mp hx
    exact hh k
  · have hlt : ∀ x ∈ ks.map h, x < n := fun x hx => by
      obtain ⟨k, _, rfl⟩ := List.mem_map.mp hx
      exact hh k
    have hc : cntH n (ks.map h) ∈ dealtK (roomK h n limit) many n := by
      have := dealt_all (room := roomK h n limit) (many := many) (c := cntH n (ks.map h)) (by rw [room_len]; simp [cntH]) (fun i hi => ?_) (by rw [cntH_sum hlt, List.length_map, k3]) n (by rw [room_len]; exact Nat.le_refl _)
      · rwa [List.take_of_length_le (by simp [cntH])] at this
      · rw [room_len] at hi
        rw [cntH_at hi, room_at hi, cnt_map]
        refine Rg.nodup_le' (k1.filter _) fun k hk => ?_
        obtain ⟨q1, q2⟩ := List.mem_filter.mp hk
        exact List.mem_filter.mpr ⟨List.mem_range.mpr (k2 k q1), q2⟩
    have := W.top _ hc
    rwa [← wayN_perm (by rw [List.length_map]; omega) hlt (homesB_cnt hlt).symm] at this
end
/-! ### choices -/
def chN (many : Nat) : Nat → List (List Nat)
  | 0 => [[]]
  | k + 1 => chN many k ++ ((chN many k).filter fun one => decide (one.length < many)).map fun one => one ++ [k]
theorem chN_mem {many : Nat} : ∀ {k : Nat} {ks : List Nat}, ks ∈ chN many k ↔ ks.Pairwise (· < ·) ∧ (∀ x ∈ ks, x < k) ∧ ks.length ≤ many
  | 0, ks => by
    rw [chN, List.mem_singleton]
    constructor
    · rintro rfl
      exact ⟨.nil, fun _ h => absurd h List.not_mem_nil, Nat.zero_le _⟩
    · rintro ⟨_, h, _⟩
      cases ks with
      | nil => rfl
      | cons x ks => exact absurd (h x List.mem_cons_self) (Nat.not_lt_zero _)
  | k + 1, ks => by
    rw [chN, List.mem_append, chN_mem, List.mem_map]
    constructor
    · rintro (⟨h1, h2, h3⟩ | ⟨one, h1, rfl⟩)
      · exact ⟨h1, fun x hx => Nat.lt_succ_of_lt (h2 x hx), h3⟩
      · obtain ⟨q1, q2⟩ := List.mem_filter.mp h1
        obtain ⟨h1, h2, h3⟩ := chN_mem.mp q1
        have q2 := of_decide_eq_true q2
        refine ⟨List.pairwise_append.mpr ⟨h1, List.pairwise_singleton _ _, fun x hx y hy => ?_⟩, fun x hx => ?_, by simp; omega⟩
        · rw [List.mem_singleton.mp hy]
          exact h2 x hx
        · rcases List.mem_append.mp hx with hx | hx
          · exact Nat.lt_succ_of_lt (h2 x hx)
          · rw [List.mem_singleton.mp hx]
            exact Nat.lt_succ_self k
    · rintro ⟨h1, h2, h3⟩
      by_cases hk : k ∈ ks
      · obtain ⟨a, b, rfl⟩ := List.append_of_mem hk
        obtain ⟨p1, p2, p3⟩ := List.pairwise_append.mp h1
        have hb : b = [] := by
          cases b with
          | nil => rfl
          | cons y b =>
            have q1 := (List.pairwise_cons.mp p2).1 y List.mem_cons_self
            have q2 := h2 y (by simp)
            omega
        subst hb
        refine .inr ⟨a, List.mem_filter.mpr ⟨chN_mem.mpr ⟨p1, fun x hx => p3 x hx k (by simp), by simp at h3; omega⟩, decide_eq_true (by simp at h3; omega)⟩, rfl⟩
      · refine .inl ⟨h1, fun x hx => ?_, h3⟩
        have := h2 x hx
        have : x ≠ k := fun e => hk (e ▸ hx)
        omega
theorem chN_len {many : Nat} : ∀ k, (chN many k).length ≤ 2 ^ k
  | 0 => Nat.le_refl _
  | k + 1 => by
    have ih := chN_len (many := many) k
    rw [chN, List.length_append, List.length_map, Nat.pow_succ]
    have := List.length_filter_le (fun one => decide (one.length < many)) (chN many k)
    omega
/-! ### the two told cases -/
theorem dealt_small {h : Nat → Nat} {n limit many : Nat} (hh : ∀ k, h k < n) (hl : limit ≤ 9) : ∀ k, k ≤ n → (dealtK (roomK h n limit) many k).length ≤ 512 := fun k hk => by
  refine Nat.le_trans (dealt_len k (by rw [room_len]; exact hk)) (Nat.le_trans (Nat.pow_le_pow_right (by decide) ?_ : _ ≤ 2 ^ 9) (by decide))
  have e : (roomK h n limit).sum = ((roomK h n limit).take k).sum + ((roomK h n limit).drop k).sum := by
    rw [← List.sum_append, List.take_append_drop]
  rw [room_sum hh] at e
  omega
set_option maxRecDepth 1000000 in
theorem same_few : ∀ k ∈ List.range 65, (dealtK (roomK (fun k => homeN (.told [3]) k 64) 64 64) 40 k).length ≤ 4000 := by decide +kernel
set_option maxRecDepth 1000000 in
theorem same_780 : ∀ c ∈ dealtK (roomK (fun k => homeN (.told [3]) k 64) 64 64) 40 64, wayN 64 (homesB c) = 780 := by decide +kernel
set_option maxRecDepth 1000000 in
theorem many_pre : ∀ k ∈ List.range 12, (dealtK (roomK (fun k => homeN (.times 1 0) k 32) 32 32) 12 (k + 1)).length ≤ 90000 := by decide +kernel
set_option maxRecDepth 1000000 in
theorem many_too : 4000 < (dealtK (roomK (fun k => homeN (.times 1 0) k 32) 32 32) 12 12).length := by decide +kernel
abbrev s__law_cell : Stmt := topS 32
abbrev s__law_drawn : Stmt := topS 33
abbrev s__law_rule : Stmt := topS 35
abbrev s__law_word : Stmt := topS 34
abbrev s_is_count : Stmt := topS 14
abbrev s_is_numbers : Stmt := topS 15
abbrev s_is_rule : Stmt := topS 16
abbrev s_need_rule : Stmt := topS 17
abbrev s_need_size : Stmt := topS 18
abbrev s_need_count : Stmt := topS 19
abbrev s_home_of : Stmt := topS 20
abbrev s_dealt : Stmt := topS 28
abbrev s_homes_by : Stmt := topS 29
abbrev s_laid : Stmt := topS 22
abbrev s_ways_of : Stmt := topS 24
abbrev s_worst : Stmt := topS 30
abbrev s__law_told : Stmt := topS 38
abbrev s__law_home : Stmt := topS 36
abbrev s__law_ways : Stmt := topS 39
abbrev s__law_choices : Stmt := topS 40
abbrev s_law : Stmt := topS 41
theorem sc__law_cell : FnScope ["_law_script", "_law_k"] ["_law_script", "_law_k"] (defScope s__law_cell) := ⟨rfl, rfl, rfl, by decide +kernel, rfl, by decide +kernel, by decide +kernel⟩
theorem sc__law_cell_v0 : (defScope s__law_cell).names.lookup ("_law_script" : Str) = some .local := by decide +kernel
theorem sc__law_cell_v1 : (defScope s__law_cell).names.lookup ("_law_k" : Str) = some .local := by decide +kernel
def t__law_cell (K : PySem.W.Frag) (cs : Cs) (E : XK) : TS :=
  (tSeq (tIfS (tTest (tOp (rEqD K) (tVar 0) (tLst tNil)))
  (tRet (tOp (rI IntMulOk fun i j => .int (i * j)) (tVar 1) (tC (.int 7919))))
  tNext)
  (tRet (tOp (rI0 fun i j => .int (i + j)) (tOp (rIxL K) (tVar 0) (tOp (rI (fun _ j => 0 < j) fun i j => .int (i % j)) (tVar 1) (tCB (fun xs H Q => ∃ p ys, xs = [V.ref p] ∧ (SqL K H p ys ∨ SqT K H p ys) ∧ Q (.int ys.length) H) (tCons (tVar 0) tNil)))) (tOp (rI IntMulOk fun i j => .int (i * j)) (tOp (rI CDivW fun i j => .int (i / j)) (tVar 1) (tCB (fun xs H Q => ∃ p ys, xs = [V.ref p] ∧ (SqL K H p ys ∨ SqT K H p ys) ∧ Q (.int ys.length) H) (tCons (tVar 0) tNil))) (tC (.int 104729))))))
def sp__law_cell (K : PySem.W.Frag) (_ : Cs) : Sp := fun vs H Q _ => ∃ (a : Addr) (ns : List Int) (k : Nat), vs = [.ref a, .int k] ∧ SqL K H a (ns.map V.int) ∧ ns.length ≤ 63 ∧ k < 1000 ∧ ∀ z : Int, upR Q (.int z) H
theorem c__law_cell {K : PySem.W.Frag} {cs : Cs} {H : Hp} {a : Addr} {ns : List Int} {k : Nat} {Q : PV} {E : XK} (h : SqL K H a (ns.map V.int)) (hl : ns.length ≤ 63) (hk : k < 1000) (q : ∀ z : Int, Q (.int z) H) : kC (fun ws H Q => sp__law_cell K cs ws H Q E) [.ref a, .int k] H Q :=
  fun H1 e _ qq => ⟨a, ns, k, rfl, e.sl h, hl, hk, fun z H2 e2 => qq _ _ _ (q z) (e.tr e2)⟩
local macro_rules | `(tactic| k_places) => `(tactic| ((with_reducible refine' c__law_cell ?k1 ?k2 ?k3 (fun _ => ?_)); (case k1 => k_memK); (case k2 => with_reducible assumption); (case k3 => omega)))
theorem pure__law_cell {K : PySem.W.Frag} {cs : Cs} {H : Hp} {vs : List V} {Q : VK} {E : XK} (h : sp__law_cell K cs vs H Q E) : t__law_cell K cs E { nx := fun _ H' => Q .non H', rt := Q } (start ["_law_script", "_law_k"] vs) H := by
  obtain ⟨a, ns, k, rfl, h, hl, hk, q⟩ := h
  refine fin (σ := [some (.ref a), some (.int k)]) ?_
  unfold t__law_cell
  k_clsL
  refine r_eqIs (ms := []) (by k_memK) (by k_memK) ?_
  k_clsL
  refine dec2 (fun h1 => ?_) (fun h1 => ?_)
  · k_clsL
    exact upX (q _) (by k_offL)
  · have h0 : 0 < ns.length := List.length_pos_iff.mpr h1
    have hn : (0 : Int) < (((ns.map V.int).length : Nat) : Int) := by rw [List.length_map]; omega
    have hd : CDivW (k : Int) (((ns.map V.int).length : Nat) : Int) := cdivL hn (by rw [List.length_map]; omega)
    have hi : k % (ns.map V.int).length < ns.length := by rw [List.length_map]; exact Nat.mod_lt _ h0
    k_clsL
    refine r_ixL (v := .int (ns[k % (ns.map V.int).length])) (by k_memK) (atI_mod (by rw [List.getElem?_map, List.getElem?_eq_getElem hi]; rfl)) ?_
    k_clsL
    exact upX (q _) (by k_offL)
theorem ok__law_cell {P : Program} {w : World} {K : PySem.W.Frag} {mg : Str → Option Value} {base : Heap} {cs : Cs} (D__law_cell : Dn K mg "_law_cell" s__law_cell ["_law_script", "_law_k"]) (m_len : mg "len" = none) :
    Cal P w K mg base (L2N.CX P w) 1 "_law_cell" ["_law_script", "_law_k"] (sp__law_cell K cs) := by
  refine cal_mk D__law_cell sc__law_cell (fun vs H Q E h => ?_) fun f cdv A outer s H vs Q E hr h => ⟨t__law_cell K cs E, ?_, pure__law_cell h⟩
  · unfold sp__law_cell at h
    first | (obtain ⟨rfl, _⟩ := h; rfl) | (obtain ⟨_, rfl, _⟩ := h; rfl) | (obtain ⟨_, _, rfl, _⟩ := h; rfl) | (obtain ⟨_, _, _, rfl, _⟩ := h; rfl) | (obtain ⟨_, _, _, _, rfl, _⟩ := h; rfl) | (obtain ⟨_, _, _, _, _, rfl, _⟩ := h; rfl) | (obtain ⟨_, _, _, _, _, _, rfl, _⟩ := h; rfl) | (obtain ⟨_, _, _, _, _, _, _, rfl, _⟩ := h; rfl) | (obtain ⟨_, _, _, _, _, _, _, _, rfl, _⟩ := h; rfl) | (obtain ⟨_, _, _, _, _, _, _, _, _, rfl, _⟩ := h; rfl) | (obtain ⟨_, _, _, _, _, _, _, _, _, _, rfl, _⟩ := h; rfl) | (obtain ⟨_, _, _, _, _, _, _, _, _, _, _, rfl, _⟩ := h; rfl) | (obtain ⟨_, _, _, _, _, _, _, _, _, _, _, _, rfl, _⟩ := h; rfl) | (obtain ⟨_, _, _, _, _, _, _, _, _, _, _, _, _, rfl, _⟩ := h; rfl) | (obtain ⟨_, _, _, _, _, _, _, _, _, _, _, _, _, _, rfl, _⟩ := h; rfl) | (obtain ⟨_, _, _, _, _, _, _, _, _, _, _, _, _, _, _, rfl, _⟩ := h; rfl)
  · exact (pss_cons (ps_if (pt_cmpR (op_eqD hr.units) (pv 0) (pe_lst pa_nil) (nomark _))
      (pss_one (ps_ret (pe_op op_mulX (pv 1) pe_int)))
      pss_nil)
      (pss_one (ps_ret (pe_op op_add (pe_ix ix_list (pv 0) (pe_op op_mod (pv 1) (pe_callB call_len_seq (by rfl) m_len (by decide +kernel) (pa_cons (pv 0) pa_nil))) (fun _ _ => rfl)) (pe_op op_mulX (pe_op op_fdivW (pv 1) (pe_callB call_len_seq (by rfl) m_len (by decide +kernel) (pa_cons (pv 0) pa_nil))) pe_int)))))
theorem sc__law_drawn : FnScope ["_law_cell_here", "_law_k", "_law_more"] ["_law_cell_here", "_law_k"] (defScope s__law_drawn) := ⟨rfl, rfl, rfl, by decide +kernel, rfl, by decide +kernel, by decide +kernel⟩
theorem sc__law_drawn_v0 : (defScope s__law_drawn).names.lookup ("_law_cell_here" : Str) = some .local := by decide +kernel
theorem sc__law_drawn_v1 : (defScope s__law_drawn).names.lookup ("_law_k" : Str) = some .local := by decide +kernel
theorem sc__law_drawn_v2 : (defScope s__law_drawn).names.lookup ("_law_more" : Str) = some .local := by decide +kernel
def t__law_drawn (K : PySem.W.Frag) (cs : Cs) (E : XK) : TS :=
  (tSeq (tAsg (tOp (rI (fun _ j => 0 < j) fun i j => .int (i % j)) (tOp (rI0 fun i j => .int (i + j)) (tOp (rI IntMulOk fun i j => .int (i * j)) (tVar 0) (tC (.int 6364136223846793005))) (tOp (rI IntMulOk fun i j => .int (i * j)) (tOp (rI0 fun i j => .int (i + j)) (tVar 1) (tC (.int 1))) (tC (.int 1442695040888963407)))) (tC (.int 340282366920938463463374607431768211507))) (gName 2))
  (tRet (tOp (rI (fun _ j => 0 < j) fun i j => .int (i % j)) (tOp (rI IntMulOk fun i j => .int (i * j)) (tVar 2) (tVar 2)) (tC (.int 340282366920938463463374607431768211297)))))
def sp__law_drawn (K : PySem.W.Frag) (_ : Cs) : Sp := fun vs H Q _ => ∃ (c k : Int), vs = [.int c, .int k] ∧ ∀ r : Nat, r < 2 ^ 128 → upR Q (.int (r : Int)) H
theorem c__law_drawn {K : PySem.W.Frag} {cs : Cs} {H : Hp} {c k : Int} {Q : PV} {E : XK} (q : ∀ r : Nat, r < 2 ^ 128 → Q (.int (r : Int)) H) : kC (fun ws H Q => sp__law_drawn K cs ws H Q E) [.int c, .int k] H Q :=
  fun H1 e _ qq => ⟨c, k, rfl, fun r hr H2 e2 => qq _ _ _ (q r hr) (e.tr e2)⟩
local macro_rules | `(tactic| k_places) => `(tactic| (with_reducible refine' c__law_drawn (fun _ _ => ?_)))
theorem pure__law_drawn {K : PySem.W.Frag} {cs : Cs} {H : Hp} {vs : List V} {Q : VK} {E : XK} (h : sp__law_drawn K cs vs H Q E) : t__law_drawn K cs E { nx := fun _ H' => Q .non H', rt := Q } (start ["_law_cell_here", "_law_k", "_law_more"] vs) H := by
  obtain ⟨c, k, rfl, q⟩ := h
  refine fin (σ := [some (.int c), some (.int k), none]) ?_
  unfold t__law_drawn
  k_clsL
  generalize c * 6364136223846793005 + (k + 1) * 1442695040888963407 = z
  have hz0 : 0 ≤ z % 340282366920938463463374607431768211507 := Int.emod_nonneg _ (by decide)
  have hz1 : z % 340282366920938463463374607431768211507 < 340282366920938463463374607431768211507 := Int.emod_lt_of_pos _ (by decide)
  generalize z % 340282366920938463463374607431768211507 = y at *
  have hm : IntMulOk y y := by
    obtain ⟨n, rfl⟩ := Int.eq_ofNat_of_zero_le hz0
    exact mulw (a := 129) (b := 129) (by omega) (by omega) (by decide) (by decide) (by decide)
  k_clsL
  have h0 : 0 ≤ y * y % 340282366920938463463374607431768211297 := Int.emod_nonneg _ (by decide)
  have h1 : y * y % 340282366920938463463374607431768211297 < 340282366920938463463374607431768211297 := Int.emod_lt_of_pos _ (by decide)
  obtain ⟨n, hn⟩ := Int.eq_ofNat_of_zero_le h0
  rw [hn]
  exact q n (by omega)
theorem ok__law_drawn {P : Program} {w : World} {K : PySem.W.Frag} {mg : Str → Option Value} {base : Heap} {cs : Cs} (D__law_drawn : Dn K mg "_law_drawn" s__law_drawn ["_law_cell_here", "_law_k"]) :
    Cal P w K mg base (L2N.CX P w) 1 "_law_drawn" ["_law_cell_here", "_law_k"] (sp__law_drawn K cs) := by
  refine cal_mk D__law_drawn sc__law_drawn (fun vs H Q E h => ?_) fun f cdv A outer s H vs Q E hr h => ⟨t__law_drawn K cs E, ?_, pure__law_drawn h⟩
  · unfold sp__law_drawn at h
    first | (obtain ⟨rfl, _⟩ := h; rfl) | (obtain ⟨_, rfl, _⟩ := h; rfl) | (obtain ⟨_, _, rfl, _⟩ := h; rfl) | (obtain ⟨_, _, _, rfl, _⟩ := h; rfl) | (obtain ⟨_, _, _, _, rfl, _⟩ := h; rfl) | (obtain ⟨_, _, _, _, _, rfl, _⟩ := h; rfl) | (obtain ⟨_, _, _, _, _, _, rfl, _⟩ := h; rfl) | (obtain ⟨_, _, _, _, _, _, _, rfl, _⟩ := h; rfl) | (obtain ⟨_, _, _, _, _, _, _, _, rfl, _⟩ := h; rfl) | (obtain ⟨_, _, _, _, _, _, _, _, _, rfl, _⟩ := h; rfl) | (obtain ⟨_, _, _, _, _, _, _, _, _, _, rfl, _⟩ := h; rfl) | (obtain ⟨_, _, _, _, _, _, _, _, _, _, _, rfl, _⟩ := h; rfl) | (obtain ⟨_, _, _, _, _, _, _, _, _, _, _, _, rfl, _⟩ := h; rfl) | (obtain ⟨_, _, _, _, _, _, _, _, _, _, _, _, _, rfl, _⟩ := h; rfl) | (obtain ⟨_, _, _, _, _, _, _, _, _, _, _, _, _, _, rfl, _⟩ := h; rfl) | (obtain ⟨_, _, _, _, _, _, _, _, _, _, _, _, _, _, _, rfl, _⟩ := h; rfl)
  · exact (pss_cons (ps_set (i := 2) sc__law_drawn.nd rfl (Or.inl sc__law_drawn_v2) (pe_op op_mod (pe_op op_add (pe_op op_mulX (pv 0) pe_int) (pe_op op_mulX (pe_op op_add (pv 1) pe_int) pe_int)) pe_int))
      (pss_one (ps_ret (pe_op op_mod (pe_op op_mulX (pv 2) (pv 2)) pe_int))))
theorem sc__law_rule : FnScope ["_law_more", "_law_a", "_law_many", "_law_j"] ["_law_more"] (defScope s__law_rule) := ⟨rfl, rfl, rfl, by decide +kernel, rfl, by decide +kernel, by decide +kernel⟩
theorem sc__law_rule_v0 : (defScope s__law_rule).names.lookup ("_law_more" : Str) = some .cell := by decide +kernel
theorem sc__law_rule_v1 : (defScope s__law_rule).names.lookup ("_law_a" : Str) = some .local := by decide +kernel
theorem sc__law_rule_v2 : (defScope s__law_rule).names.lookup ("_law_many" : Str) = some .local := by decide +kernel
def t__law_rule (K : PySem.W.Frag) (cs : Cs) (E : XK) : TS :=
  (tSeq (tAsg (tOp (rIxL K) (tLst (tCons (tC (.int 1)) (tCons (tC (.int 3)) (tCons (tC (.int 7)) (tCons (tC (.int 0)) (tCons (tC (.int 999999)) (tCons (tOp (rI (fun _ j => 0 < j) fun i j => .int (i % j)) (tOp (rI CDivW fun i j => .int (i / j)) (tVar 0) (tC (.int 64))) (tC (.int 1000000))) tNil))))))) (tOp (rI (fun _ j => 0 < j) fun i j => .int (i % j)) (tOp (rI CDivW fun i j => .int (i / j)) (tVar 0) (tC (.int 8))) (tC (.int 6)))) (gName 1))
  (tSeq (tIfS (tTest (tOp rEq (tOp (rI (fun _ j => 0 < j) fun i j => .int (i % j)) (tVar 0) (tC (.int 3))) (tC (.int 0))))
  (tRet (tTup (tCons (tC (.str "times")) (tCons (tVar 1) (tCons (tOp (rIxL K) (tLst (tCons (tC (.int 0)) (tCons (tC (.int 5)) (tCons (tC (.int 999999)) (tCons (tOp (rI (fun _ j => 0 < j) fun i j => .int (i % j)) (tOp (rI CDivW fun i j => .int (i / j)) (tVar 0) (tOp (rI CPow fun i j => .int (i ^ j.toNat)) (tC (.int 2)) (tC (.int 24)))) (tC (.int 1000))) tNil))))) (tOp (rI (fun _ j => 0 < j) fun i j => .int (i % j)) (tOp (rI CDivW fun i j => .int (i / j)) (tVar 0) (tOp (rI CPow fun i j => .int (i ^ j.toNat)) (tC (.int 2)) (tC (.int 20)))) (tC (.int 4)))) tNil)))))
  tNext)
  (tSeq (tIfS (tTest (tOp rEq (tOp (rI (fun _ j => 0 < j) fun i j => .int (i % j)) (tVar 0) (tC (.int 3))) (tC (.int 1))))
  (tRet (tTup (tCons (tC (.str "high")) (tCons (tVar 1) (tCons (tOp (rIxL K) (tLst (tCons (tC (.int 1)) (tCons (tC (.int 3)) (tCons (tC (.int 8)) (tCons (tC (.int 30)) (tCons (tOp (rI0 fun i j => .int (i + j)) (tC (.int 1)) (tOp (rI (fun _ j => 0 < j) fun i j => .int (i % j)) (tOp (rI CDivW fun i j => .int (i / j)) (tVar 0) (tOp (rI CPow fun i j => .int (i ^ j.toNat)) (tC (.int 2)) (tC (.int 24)))) (tC (.int 30)))) tNil)))))) (tOp (rI (fun _ j => 0 < j) fun i j => .int (i % j)) (tOp (rI CDivW fun i j => .int (i / j)) (tVar 0) (tOp (rI CPow fun i j => .int (i ^ j.toNat)) (tC (.int 2)) (tC (.int 20)))) (tC (.int 5)))) tNil)))))
  tNext)
  (tSeq (tAsg (tOp (rIxL K) (tLst (tCons (tC (.int 1)) (tCons (tC (.int 2)) (tCons (tC (.int 5)) (tCons (tC (.int 8)) (tCons (tC (.int 64)) tNil)))))) (tOp (rI (fun _ j => 0 < j) fun i j => .int (i % j)) (tOp (rI CDivW fun i j => .int (i / j)) (tVar 0) (tOp (rI CPow fun i j => .int (i ^ j.toNat)) (tC (.int 2)) (tC (.int 20)))) (tC (.int 5)))) (gName 2))
  (tRet (tTup (tCons (tC (.str "told")) (tCons (tCB (rTupOf K) (tCons (tLc (iRng1 (tCons (tVar 2) tNil)) (gName 3) tYes (tOp (rI (fun _ j => 0 < j) fun i j => .int (i % j)) (tOp (rI CDivW fun i j => .int (i / j)) (tVar 0) (tOp (rI CPow fun i j => .int (i * 2 ^ j.toNat)) (tC (.int 1)) (tVar 3))) (tOp (rIxL K) (tLst (tCons (tC (.int 2)) (tCons (tC (.int 4)) (tCons (tC (.int 1000)) tNil)))) (tOp (rI (fun _ j => 0 < j) fun i j => .int (i % j)) (tOp (rI CDivW fun i j => .int (i / j)) (tVar 0) (tOp (rI CPow fun i j => .int (i ^ j.toNat)) (tC (.int 2)) (tC (.int 30)))) (tC (.int 3))))) [3]) tNil)) tNil))))))))
def sp__law_rule (K : PySem.W.Frag) (_ : Cs) : Sp := fun vs H Q _ => ∃ m : Nat, vs = [.int (m : Int)] ∧ ∀ H', Ex H H' → ∀ v r, IsRl H' v r → r.ok → upR Q v H'
theorem c__law_rule {K : PySem.W.Frag} {cs : Cs} {H : Hp} {m : Nat} {i : Int} {Q : PV} {E : XK} (hi : i = m) (k : ∀ v r H', Ex H H' → IsRl H' v r → r.ok → Q v H') : kC (fun ws H Q => sp__law_rule K cs ws H Q E) [.int i] H Q := by
  subst hi
  exact fun H1 e _ q => ⟨m, rfl, fun H' e1 v r h ho H2 e2 => q _ _ _ (k v r H' (e.tr e1) h ho) e2⟩
local macro_rules | `(tactic| k_places) => `(tactic| (with_reducible refine' c__law_rule rfl (fun _ _ _ _ _ _ => ?_)))
theorem pure__law_rule {K : PySem.W.Frag} {cs : Cs} {H : Hp} {vs : List V} {Q : VK} {E : XK} (h : sp__law_rule K cs vs H Q E) : t__law_rule K cs E { nx := fun _ H' => Q .non H', rt := Q } (start ["_law_more", "_law_a", "_law_many", "_law_j"] vs) H := by
  obtain ⟨m, rfl, q⟩ := h
  refine fin (σ := [some (.int (m : Int)), none, none, none]) ?_
  unfold t__law_rule
  have p24 : (2 : Int) ^ (24 : Int).toNat = 16777216 := by decide
  have p20 : (2 : Int) ^ (20 : Int).toNat = 1048576 := by decide
  have p30 : (2 : Int) ^ (30 : Int).toNat = 1073741824 := by decide
  k_clsL
  rename_i p1 hp1
  obtain ⟨v, hv, a, rfl, ha⟩ := pick (z := (m : Int) / 8) (m := 6) (xs := [.int 1, .int 3, .int 7, .int 0, .int 999999, .int ((m : Int) / 64 % 1000000)]) (P := fun v => ∃ a : Nat, v = .int a ∧ a ≤ 999999) rfl (by decide) (by
    intro x hx
    simp only [List.mem_cons, List.not_mem_nil, or_false] at hx
    rcases hx with rfl | rfl | rfl | rfl | rfl | rfl
    · exact ⟨1, rfl, by decide⟩
    · exact ⟨3, rfl, by decide⟩
    · exact ⟨7, rfl, by decide⟩
    · exact ⟨0, rfl, by decide⟩
    · exact ⟨999999, rfl, by decide⟩
    · exact ⟨m / 64 % 1000000, rfl, by omega⟩)
  refine r_ixL (by k_memK) hv ?_
  k_clsL
  refine dec2 (fun h3 => ?_) (fun h3 => ?_)
  · k_clsL
    rename_i p2 hp2
    obtain ⟨v, hv, b, rfl, hb⟩ := pick (z := (m : Int) / 1048576) (m := 4) (xs := [.int 0, .int 5, .int 999999, .int ((m : Int) / 16777216 % 1000)]) (P := fun v => ∃ a : Nat, v = .int a ∧ a ≤ 999999) rfl (by decide) (by
      intro x hx
      simp only [List.mem_cons, List.not_mem_nil, or_false] at hx
      rcases hx with rfl | rfl | rfl | rfl
      · exact ⟨0, rfl, by decide⟩
      · exact ⟨5, rfl, by decide⟩
      · exact ⟨999999, rfl, by decide⟩
      · exact ⟨m / 16777216 % 1000, rfl, by omega⟩)
    refine r_ixL (by k_memK) hv ?_
    k_clsL
    exact q _ (by k_offL) _ (.times a b) ⟨_, rfl, upd_same⟩ ⟨ha, hb⟩
  · k_clsL
    refine dec2 (fun h4 => ?_) (fun h4 => ?_)
    · k_clsL
      rename_i p2 hp2
      obtain ⟨v, hv, b, rfl, hb1, hb⟩ := pick (z := (m : Int) / 1048576) (m := 5) (xs := [.int 1, .int 3, .int 8, .int 30, .int (1 + (m : Int) / 16777216 % 30)]) (P := fun v => ∃ a : Nat, v = .int a ∧ 1 ≤ a ∧ a ≤ 30) rfl (by decide) (by
        intro x hx
        simp only [List.mem_cons, List.not_mem_nil, or_false] at hx
        rcases hx with rfl | rfl | rfl | rfl | rfl
        · exact ⟨1, rfl, by decide, by decide⟩
        · exact ⟨3, rfl, by decide, by decide⟩
        · exact ⟨8, rfl, by decide, by decide⟩
        · exact ⟨30, rfl, by decide, by decide⟩
        · exact ⟨1 + m / 16777216 % 30, rfl, by omega, by omega⟩)
      refine r_ixL (by k_memK) hv ?_
      k_clsL
      exact q _ (by k_offL) _ (.high a b) ⟨_, rfl, upd_same⟩ ⟨ha, hb1, hb⟩
    · k_clsL
      rename_i p2 hp2
      obtain ⟨v, hv, n, rfl, hn1, hn⟩ := pick (z := (m : Int) / 1048576) (m := 5) (xs := [.int 1, .int 2, .int 5, .int 8, .int 64]) (P := fun v => ∃ a : Nat, v = .int a ∧ 1 ≤ a ∧ a ≤ 64) rfl (by decide) (by
        intro x hx
        simp only [List.mem_cons, List.not_mem_nil, or_false] at hx
        rcases hx with rfl | rfl | rfl | rfl | rfl
        · exact ⟨1, rfl, by decide, by decide⟩
        · exact ⟨2, rfl, by decide, by decide⟩
        · exact ⟨5, rfl, by decide, by decide⟩
        · exact ⟨8, rfl, by decide, by decide⟩
        · exact ⟨64, rfl, by decide, by decide⟩)
      refine r_ixL (by k_memK) hv ?_
      obtain ⟨v, hv2, c, rfl, hc1, hc2⟩ := pick (z := (m : Int) / 1073741824) (m := 3) (xs := [.int 2, .int 4, .int 1000]) (P := fun v => ∃ a : Nat, v = .int a ∧ 1 ≤ a ∧ a ≤ 1000) rfl (by decide) (by
        intro x hx
        simp only [List.mem_cons, List.not_mem_nil, or_false] at hx
        rcases hx with rfl | rfl | rfl
        · exact ⟨2, rfl, by decide, by decide⟩
        · exact ⟨4, rfl, by decide, by decide⟩
        · exact ⟨1000, rfl, by decide, by decide⟩)
      k_clsL
      refine e_lcZ ?_
      k_clsL
      refine ⟨by omega, trivial, by omega, (List.range n).map fun j => V.int ((m / 2 ^ j % c : Nat) : Int), by simp, fun D acc i hD hi => ?_, fun D hD => ?_⟩
      · refine g_name ⟨rfl, t_yes ⟨rfl, ?_⟩⟩
        have w0 : 0 < 2 ^ i := Nat.two_pow_pos i
        have w1 : 2 ^ i < 2 ^ 64 := Nat.pow_lt_pow_right (by decide) (by omega)
        have hc : CPow 1 (i : Nat) := ⟨by omega, by omega, by decide⟩
        have e1 : (1 : Int) * 2 ^ ((i : Int)).toNat = ((2 ^ i : Nat) : Int) := by
          rw [Int.toNat_natCast]
          push_cast
          omega
        k_clsL
        rw [e1]
        have e5 : ((List.range n).map fun j => V.int ((m / 2 ^ j % c : Nat) : Int))[i]? = some (.int ((m / 2 ^ i % c : Nat) : Int)) := by
          rw [List.getElem?_map, List.getElem?_range hi]
          rfl
        generalize 2 ^ i = W at *
        k_clsL
        refine r_ixL (by k_memK) hv2 ?_
        k_clsL
        refine ⟨e5.trans (congrArg (fun z => some (V.int z)) (by push_cast; rfl)), by k_offL⟩
      · k_clsL
        refine q _ (by k_offL) _ (.told ((List.range n).map fun j => m / 2 ^ j % c)) ⟨_, _, rfl, upd_same, ?_⟩ ⟨by simpa using hn1, by simpa using hn, ?_⟩
        · rw [List.map_map]
          show _ = some (HO.tup ((List.range n).map fun j => V.int ((m / 2 ^ j % c : Nat) : Int)))
          k_memK
        · intro x hx
          obtain ⟨j, _, rfl⟩ := List.mem_map.mp hx
          have := Nat.mod_lt (m / 2 ^ j) (show 0 < c by omega)
          omega
theorem ok__law_rule {P : Program} {w : World} {K : PySem.W.Frag} {mg : Str → Option Value} {base : Heap} {cs : Cs} (D__law_rule : Dn K mg "_law_rule" s__law_rule ["_law_more"]) (m_range : mg "range" = none) (m_tuple : mg "tuple" = none) :
    Cal P w K mg base (L2N.CX P w) 1 "_law_rule" ["_law_more"] (sp__law_rule K cs) := by
  refine cal_mk D__law_rule sc__law_rule (fun vs H Q E h => ?_) fun f cdv A outer s H vs Q E hr h => ⟨t__law_rule K cs E, ?_, pure__law_rule h⟩
  · unfold sp__law_rule at h
    first | (obtain ⟨rfl, _⟩ := h; rfl) | (obtain ⟨_, rfl, _⟩ := h; rfl) | (obtain ⟨_, _, rfl, _⟩ := h; rfl) | (obtain ⟨_, _, _, rfl, _⟩ := h; rfl) | (obtain ⟨_, _, _, _, rfl, _⟩ := h; rfl) | (obtain ⟨_, _, _, _, _, rfl, _⟩ := h; rfl) | (obtain ⟨_, _, _, _, _, _, rfl, _⟩ := h; rfl) | (obtain ⟨_, _, _, _, _, _, _, rfl, _⟩ := h; rfl) | (obtain ⟨_, _, _, _, _, _, _, _, rfl, _⟩ := h; rfl) | (obtain ⟨_, _, _, _, _, _, _, _, _, rfl, _⟩ := h; rfl) | (obtain ⟨_, _, _, _, _, _, _, _, _, _, rfl, _⟩ := h; rfl) | (obtain ⟨_, _, _, _, _, _, _, _, _, _, _, rfl, _⟩ := h; rfl) | (obtain ⟨_, _, _, _, _, _, _, _, _, _, _, _, rfl, _⟩ := h; rfl) | (obtain ⟨_, _, _, _, _, _, _, _, _, _, _, _, _, rfl, _⟩ := h; rfl) | (obtain ⟨_, _, _, _, _, _, _, _, _, _, _, _, _, _, rfl, _⟩ := h; rfl) | (obtain ⟨_, _, _, _, _, _, _, _, _, _, _, _, _, _, _, rfl, _⟩ := h; rfl)
  · exact (pss_cons (ps_set (i := 1) sc__law_rule.nd rfl (Or.inl sc__law_rule_v1) (pe_ix ix_list (pe_lst (pa_cons pe_int (pa_cons pe_int (pa_cons pe_int (pa_cons pe_int (pa_cons pe_int (pa_cons (pe_op op_mod (pe_op op_fdivW (pv 0) pe_int) pe_int) pa_nil))))))) (pe_op op_mod (pe_op op_fdivW (pv 0) pe_int) pe_int) (fun _ _ => rfl)))
      (pss_cons (ps_if (pt_cmpR op_eq (pe_op op_mod (pv 0) pe_int) pe_int (nomark _))
      (pss_one (ps_ret (pe_tup (pa_cons pe_str (pa_cons (pv 1) (pa_cons (pe_ix ix_list (pe_lst (pa_cons pe_int (pa_cons pe_int (pa_cons pe_int (pa_cons (pe_op op_mod (pe_op op_fdivW (pv 0) (pe_op op_pow pe_int pe_int)) pe_int) pa_nil))))) (pe_op op_mod (pe_op op_fdivW (pv 0) (pe_op op_pow pe_int pe_int)) pe_int) (fun _ _ => rfl)) pa_nil))))))
      pss_nil)
      (pss_cons (ps_if (pt_cmpR op_eq (pe_op op_mod (pv 0) pe_int) pe_int (nomark _))
      (pss_one (ps_ret (pe_tup (pa_cons pe_str (pa_cons (pv 1) (pa_cons (pe_ix ix_list (pe_lst (pa_cons pe_int (pa_cons pe_int (pa_cons pe_int (pa_cons pe_int (pa_cons (pe_op op_add pe_int (pe_op op_mod (pe_op op_fdivW (pv 0) (pe_op op_pow pe_int pe_int)) pe_int)) pa_nil)))))) (pe_op op_mod (pe_op op_fdivW (pv 0) (pe_op op_pow pe_int pe_int)) pe_int) (fun _ _ => rfl)) pa_nil))))))
      pss_nil)
      (pss_cons (ps_set (i := 2) sc__law_rule.nd rfl (Or.inl sc__law_rule_v2) (pe_ix ix_list (pe_lst (pa_cons pe_int (pa_cons pe_int (pa_cons pe_int (pa_cons pe_int (pa_cons pe_int pa_nil)))))) (pe_op op_mod (pe_op op_fdivW (pv 0) (pe_op op_pow pe_int pe_int)) pe_int) (fun _ _ => rfl)))
      (pss_one (ps_ret (pe_tup (pa_cons pe_str (pa_cons (pe_callTy call_tuple_of (by rfl) m_tuple (by decide +kernel) (pa_cons (pe_lc (own := [("_law_j", 3)]) (g := (gName 3)) (tt := tYes) (by rfl) sc__law_rule.nd (pi_range1 (by rfl) m_range (pa_cons (pv 2) pa_nil)) (blkOk_by (own := [("_law_j", 3)]) (N := ["_law_more", "_law_a", "_law_many", "_law_j"]) (sc := defScope s__law_rule) (by decide +kernel)) (fun _ _ _ _ _ => (pg_name (i := 3) sc__law_rule.nd rfl (Or.inl rfl))) (fun _ _ _ _ _ => pts_nil) (fun _ _ _ _ _ => (pe_op op_mod (pe_op op_fdivW (pv 0) (pe_op op_shl pe_int (pv 3))) (pe_ix ix_list (pe_lst (pa_cons pe_int (pa_cons pe_int (pa_cons pe_int pa_nil)))) (pe_op op_mod (pe_op op_fdivW (pv 0) (pe_op op_pow pe_int pe_int)) pe_int) (fun _ _ => rfl))))) pa_nil)) pa_nil)))))))))
theorem sc__law_word : FnScope ["_law_e", "_law_flags", "_law_flag"] ["_law_e"] (defScope s__law_word) := ⟨rfl, rfl, rfl, by decide +kernel, rfl, by decide +kernel, by decide +kernel⟩
theorem sc__law_word_v0 : (defScope s__law_word).names.lookup ("_law_e" : Str) = some .local := by decide +kernel
theorem sc__law_word_v1 : (defScope s__law_word).names.lookup ("_law_flags" : Str) = some .local := by decide +kernel
def t__law_word (K : PySem.W.Frag) (cs : Cs) (D a : Addr) : TS :=
  (tSeq (tAsg (tLst (tCons (tCB (rIsE K D a) (tCons (tVar 0) (tCons (tC (.ref cs.BadRule)) tNil))) (tCons (tCB (rIsE K D a) (tCons (tVar 0) (tCons (tC (.ref cs.BadKey)) tNil))) (tCons (tCB (rIsE K D a) (tCons (tVar 0) (tCons (tC (.ref cs.BadSize)) tNil))) tNil)))) (gName 1))
  (tSeq (tAsg (tOp rCat (tVar 1) (tLst (tCons (tCB (rIsE K D a) (tCons (tVar 0) (tCons (tC (.ref cs.Full)) tNil))) tNil))) (gName 1))
  (tSeq (tDrop (tBM K "list" rAppend (tVar 1) (tCons (tCB (rIsE K D a) (tCons (tVar 0) (tCons (tC (.ref cs.TooMany)) tNil))) tNil)))
  (tSeq (tIfS (tOr (tTest (tOp rNe (tCB (rSum K) (tCons (tHotInts K (tVar 1)) tNil)) (tC (.int 1)))) (tNot (tB (tCB (rIsE K D a) (tCons (tVar 0) (tCons (tC (.ty "ValueError")) tNil))))))
  (tRet (tC (.str "other")))
  tNext)
  (tRet (tOp (rIxL K) (tLst (tCons (tC (.str "BadRule")) (tCons (tC (.str "BadKey")) (tCons (tC (.str "BadSize")) (tCons (tC (.str "Full")) (tCons (tC (.str "TooMany")) tNil)))))) (tBM K "list" (rIndex K) (tVar 1) (tCons (tC (.bl true)) tNil))))))))
local macro_rules | `(tactic| k_places) => `(tactic| first
  | ((with_reducible refine' c_isHr ?k1 ?_); (case k1 => assumption)) | ((with_reducible refine' c_isHt ?k1 ?_); (case k1 => assumption)) | (with_reducible refine' e_hot ?_))
theorem pure__law_word {K : PySem.W.Frag} {cs : Cs} {H : Hp} {c a : Addr} {nm : Str} {Q : VK} (kw : KitW K cs) (hw : wordOf cs c nm) (q : upR Q (.str nm) H) : t__law_word K cs c a { nx := fun _ H' => Q .non H', rt := Q } (start ["_law_e", "_law_flags", "_law_flag"] [.ref a]) H := by
  refine fin (σ := [some (.ref a), none, none]) ?_
  unfold t__law_word
  rcases hw with ⟨rfl, rfl⟩ | ⟨rfl, rfl⟩ | ⟨rfl, rfl⟩ | ⟨rfl, rfl⟩ | ⟨rfl, rfl⟩
  · obtain ⟨_, k1, k2, k3, k4, k5, kv⟩ := kw.r
    k_clsL
    refine ⟨_, [true, false, false, false, false], rfl, SqL.of upd_same, by decide, fun _ _ => ?_⟩
    k_clsL
    refine c_sum (ns := [1, 0, 0, 0, 0]) (SqL.of upd_same) ?_
    k_clsL
    refine m_index (j := 0) (z := .bl true) (by k_memK) rfl rfl rfl rfl (fun m z' hm hz => ?_) ?_
    · match m, hm with
      | m, hm => exact absurd hm (Nat.not_lt_zero m)
    k_clsL
    exact upX q (by k_offL)
  · obtain ⟨_, k1, k2, k3, k4, k5, kv⟩ := kw.k
    k_clsL
    refine ⟨_, [false, true, false, false, false], rfl, SqL.of upd_same, by decide, fun _ _ => ?_⟩
    k_clsL
    refine c_sum (ns := [0, 1, 0, 0, 0]) (SqL.of upd_same) ?_
    k_clsL
    refine m_index (j := 1) (z := .bl true) (by k_memK) rfl rfl rfl rfl (fun m z' hm hz => ?_) ?_
    · match m, hm with
      | 0, _ => cases hz; rfl
    k_clsL
    exact upX q (by k_offL)
  · obtain ⟨_, k1, k2, k3, k4, k5, kv⟩ := kw.s
    k_clsL
    refine ⟨_, [false, false, true, false, false], rfl, SqL.of upd_same, by decide, fun _ _ => ?_⟩
    k_clsL
    refine c_sum (ns := [0, 0, 1, 0, 0]) (SqL.of upd_same) ?_
    k_clsL
    refine m_index (j := 2) (z := .bl true) (by k_memK) rfl rfl rfl rfl (fun m z' hm hz => ?_) ?_
    · match m, hm with
      | 0, _ => cases hz; rfl
      | 1, _ => cases hz; rfl
    k_clsL
    exact upX q (by k_offL)
  · obtain ⟨_, k1, k2, k3, k4, k5, kv⟩ := kw.f
    k_clsL
    refine ⟨_, [false, false, false, true, false], rfl, SqL.of upd_same, by decide, fun _ _ => ?_⟩
    k_clsL
    refine c_sum (ns := [0, 0, 0, 1, 0]) (SqL.of upd_same) ?_
    k_clsL
    refine m_index (j := 3) (z := .bl true) (by k_memK) rfl rfl rfl rfl (fun m z' hm hz => ?_) ?_
    · match m, hm with
      | 0, _ => cases hz; rfl
      | 1, _ => cases hz; rfl
      | 2, _ => cases hz; rfl
    k_clsL
    exact upX q (by k_offL)
  · obtain ⟨_, k1, k2, k3, k4, k5, kv⟩ := kw.m
    k_clsL
    refine ⟨_, [false, false, false, false, true], rfl, SqL.of upd_same, by decide, fun _ _ => ?_⟩
    k_clsL
    refine c_sum (ns := [0, 0, 0, 0, 1]) (SqL.of upd_same) ?_
    k_clsL
    refine m_index (j := 4) (z := .bl true) (by k_memK) rfl rfl rfl rfl (fun m z' hm hz => ?_) ?_
    · match m, hm with
      | 0, _ => cases hz; rfl
      | 1, _ => cases hz; rfl
      | 2, _ => cases hz; rfl
      | 3, _ => cases hz; rfl
    k_clsL
    exact upX q (by k_offL)
theorem ok__law_word {P : Program} {w : World} {K : PySem.W.Frag} {mg : Str → Option Value} {base : Heap} {cs : Cs} (D__law_word : Dn K mg "_law_word" s__law_word ["_law_e"]) (kw : KitW K cs) (m_isinstance : mg "isinstance" = none) (m_int : mg "int" = none) (m_sum : mg "sum" = none) (m_ValueError : mg "ValueError" = none) (x_BadRule : ExcT K mg "BadRule" cs.BadRule) (x_BadKey : ExcT K mg "BadKey" cs.BadKey) (x_BadSize : ExcT K mg "BadSize" cs.BadSize) (x_Full : ExcT K mg "Full" cs.Full) (x_TooMany : ExcT K mg "TooMany" cs.TooMany) :
    CalX P w K mg base 1 "_law_word" ["_law_e"] (sp_word cs) := by
  refine calX_mk D__law_word sc__law_word fun f cdv A outer s H vs Q E p hot hr h => ?_
  obtain ⟨c, nm, rfl, h1, h2, hw, q⟩ := h
  have ex : ExcC K c := kw.exc hw
  obtain ⟨hh, vs, hd, hn⟩ := id hot
  have hfl : ∃ vs, p.2.data = .fields vs := ⟨vs, hd⟩
  have hc : HotC (cxH (L2N.CX P w) P w K mg base ["_law_e", "_law_flags", "_law_flag"] "_law_word" (defScope s__law_word) f cdv A outer s H E p) := ⟨p, hot, List.mem_cons_self⟩
  refine ⟨t__law_word K cs c p.1, ?_, pure__law_word kw hw q⟩
  exact (pss_cons (ps_set (i := 1) sc__law_word.nd rfl (Or.inl sc__law_word_v1) (pe_lst (pa_cons (pe_callB (call_isH ex h1 h2 hfl List.mem_cons_self) (by rfl) m_isinstance (by decide +kernel) (pa_cons (pv 0) (pa_cons (pe_glob (by rfl) x_BadRule.g rfl) pa_nil))) (pa_cons (pe_callB (call_isH ex h1 h2 hfl List.mem_cons_self) (by rfl) m_isinstance (by decide +kernel) (pa_cons (pv 0) (pa_cons (pe_glob (by rfl) x_BadKey.g rfl) pa_nil))) (pa_cons (pe_callB (call_isH ex h1 h2 hfl List.mem_cons_self) (by rfl) m_isinstance (by decide +kernel) (pa_cons (pv 0) (pa_cons (pe_glob (by rfl) x_BadSize.g rfl) pa_nil))) pa_nil)))))
      (pss_cons (ps_set (i := 1) sc__law_word.nd rfl (Or.inl sc__law_word_v1) (pe_op op_cat (pv 1) (pe_lst (pa_cons (pe_callB (call_isH ex h1 h2 hfl List.mem_cons_self) (by rfl) m_isinstance (by decide +kernel) (pa_cons (pv 0) (pa_cons (pe_glob (by rfl) x_Full.g rfl) pa_nil))) pa_nil))))
      (pss_cons (ps_expr (pe_bm PySem.F.plainAttrs_list PySem.F.slot_list_append PySem.F.type_list_append mt_append (pv 1) (pa_cons (pe_callB (call_isH ex h1 h2 hfl List.mem_cons_self) (by rfl) m_isinstance (by decide +kernel) (pa_cons (pv 0) (pa_cons (pe_glob (by rfl) x_TooMany.g rfl) pa_nil))) pa_nil)))
      (pss_cons (ps_if (PW.pt (pw_or (pt_cmpR op_ne (pe_callB (cr_sumH hc) (by rfl) m_sum (by decide +kernel) (pa_cons (pe_hotInts hc (pv 1) m_int (by decide +kernel) (by decide +kernel) rfl (by decide +kernel) (by decide +kernel) (by decide +kernel) (by decide) (fun _ => rfl)) pa_nil)) pe_int (nomark _)) (pw_or1 (pt_not (pt_val (pe_callB (call_isH ex h1 h2 hfl List.mem_cons_self) (by rfl) m_isinstance (by decide +kernel) (pa_cons (pv 0) (pa_cons (pe_bltn (v := .ty "ValueError") (by rfl) m_ValueError (by decide +kernel) rfl) pa_nil))))))))
      (pss_one (ps_ret pe_str))
      pss_nil)
      (pss_one (ps_ret (pe_ix ix_list (pe_lst (pa_cons pe_str (pa_cons pe_str (pa_cons pe_str (pa_cons pe_str (pa_cons pe_str pa_nil)))))) (pe_bm PySem.F.plainAttrs_list PySem.F.slot_list_index PySem.F.type_list_index mt_index (pv 1) (pa_cons pe_bl pa_nil)) (fun _ _ => rfl))))))))
theorem sc_is_count : FnScope ["thing", "least", "most"] ["thing", "least", "most"] (defScope s_is_count) := ⟨rfl, rfl, rfl, by decide +kernel, rfl, by decide +kernel, by decide +kernel⟩
theorem sc_is_count_v0 : (defScope s_is_count).names.lookup ("thing" : Str) = some .local := by decide +kernel
theorem sc_is_count_v1 : (defScope s_is_count).names.lookup ("least" : Str) = some .local := by decide +kernel
theorem sc_is_count_v2 : (defScope s_is_count).names.lookup ("most" : Str) = some .local := by decide +kernel
def t_is_count (K : PySem.W.Frag) (cs : Cs) (E : XK) : TS :=
  (tRet (tAndV (tCB (rIsi K) (tCons (tVar 0) (tCons (tC (.ty "int")) tNil))) (tAndV (tNotV (tCB (rIsi K) (tCons (tVar 0) (tCons (tC (.ty "bool")) tNil)))) (tChain (rI0 fun i j => .bl (decide (i ≤ j))) (rI0 fun i j => .bl (decide (i ≤ j))) (tVar 1) (tVar 0) (tVar 2)))))
def sp_is_count (K : PySem.W.Frag) (_ : Cs) : Sp := fun vs H Q _ => ∃ x T lo hi, vs = [x, .int lo, .int hi] ∧ Ty5 K H x T ∧ upR Q (.bl (cnt x lo hi)) H
theorem c_is_count {K : PySem.W.Frag} {cs : Cs} {H : Hp} {x : V} {T : String} {lo hi : Int} {Q : PV} {E : XK} (h : Ty5 K H x T) (k : Q (.bl (cnt x lo hi)) H) : kC (fun ws H Q => sp_is_count K cs ws H Q E) [x, .int lo, .int hi] H Q :=
  fun H1 e _ q => ⟨x, T, lo, hi, rfl, h.up e, fun H2 e2 => q _ _ _ k (e.tr e2)⟩
local macro_rules | `(tactic| k_places) => `(tactic| ((with_reducible refine' c_is_count ?k1 ?_); (case k1 => k_ownIn)))
theorem pure_is_count {K : PySem.W.Frag} {cs : Cs} {H : Hp} {vs : List V} {Q : VK} {E : XK} (h : sp_is_count K cs vs H Q E) : t_is_count K cs E { nx := fun _ H' => Q .non H', rt := Q } (start ["thing", "least", "most"] vs) H := by
  obtain ⟨x, T, lo, hi, rfl, h, q⟩ := h
  refine fin (σ := [some x, some (.int lo), some (.int hi)]) ?_
  unfold t_is_count
  cases h with
  | int i =>
    k_clsL
    refine ⟨fun h1 => ?_, fun h1 => ?_⟩
    · k_clsL
      exact upE q (by simp [cnt, h1])
    · k_clsL
      exact upE q (by simp [cnt, h1])
  | _ => k_clsL; exact q
theorem ok_is_count {P : Program} {w : World} {K : PySem.W.Frag} {mg : Str → Option Value} {base : Heap} {cs : Cs} (D_is_count : Dn K mg "is_count" s_is_count ["thing", "least", "most"]) (m_int : mg "int" = none) (m_isinstance : mg "isinstance" = none) (m_bool : mg "bool" = none) :
    Cal P w K mg base (L2N.CX P w) 1 "is_count" ["thing", "least", "most"] (sp_is_count K cs) := by
  refine cal_mk D_is_count sc_is_count (fun vs H Q E h => ?_) fun f cdv A outer s H vs Q E hr h => ⟨t_is_count K cs E, ?_, pure_is_count h⟩
  · unfold sp_is_count at h
    first | (obtain ⟨rfl, _⟩ := h; rfl) | (obtain ⟨_, rfl, _⟩ := h; rfl) | (obtain ⟨_, _, rfl, _⟩ := h; rfl) | (obtain ⟨_, _, _, rfl, _⟩ := h; rfl) | (obtain ⟨_, _, _, _, rfl, _⟩ := h; rfl) | (obtain ⟨_, _, _, _, _, rfl, _⟩ := h; rfl) | (obtain ⟨_, _, _, _, _, _, rfl, _⟩ := h; rfl) | (obtain ⟨_, _, _, _, _, _, _, rfl, _⟩ := h; rfl) | (obtain ⟨_, _, _, _, _, _, _, _, rfl, _⟩ := h; rfl) | (obtain ⟨_, _, _, _, _, _, _, _, _, rfl, _⟩ := h; rfl) | (obtain ⟨_, _, _, _, _, _, _, _, _, _, rfl, _⟩ := h; rfl) | (obtain ⟨_, _, _, _, _, _, _, _, _, _, _, rfl, _⟩ := h; rfl) | (obtain ⟨_, _, _, _, _, _, _, _, _, _, _, _, rfl, _⟩ := h; rfl) | (obtain ⟨_, _, _, _, _, _, _, _, _, _, _, _, _, rfl, _⟩ := h; rfl) | (obtain ⟨_, _, _, _, _, _, _, _, _, _, _, _, _, _, rfl, _⟩ := h; rfl) | (obtain ⟨_, _, _, _, _, _, _, _, _, _, _, _, _, _, _, rfl, _⟩ := h; rfl)
  · exact (pss_one (ps_ret (pe_and (pe_callB call_isi (by rfl) m_isinstance (by decide +kernel) (pa_cons (pv 0) (pa_cons (pe_bltn (v := .ty "int") (by rfl) m_int (by decide +kernel) rfl) pa_nil))) (pe_and (pe_not (pe_callB call_isi (by rfl) m_isinstance (by decide +kernel) (pa_cons (pv 0) (pa_cons (pe_bltn (v := .ty "bool") (by rfl) m_bool (by decide +kernel) rfl) pa_nil)))) (pe_one (pe_chain op_le op_le (pv 1) (pv 0) (pv 2)))))))
theorem sc_is_numbers : FnScope ["thing", "one"] ["thing"] (defScope s_is_numbers) := ⟨rfl, rfl, rfl, by decide +kernel, rfl, by decide +kernel, by decide +kernel⟩
theorem sc_is_numbers_v0 : (defScope s_is_numbers).names.lookup ("thing" : Str) = some .local := by decide +kernel
def t_is_numbers (K : PySem.W.Frag) (cs : Cs) (E : XK) : TS :=
  (tSeq (tIfS (tOr (tNot (tB (tCB (rIsi K) (tCons (tVar 0) (tCons (tC (.ty "tuple")) tNil))))) (tNot (tTest (tChain (rI0 fun i j => .bl (decide (i ≤ j))) (rI0 fun i j => .bl (decide (i ≤ j))) (tC (.int 1)) (tCB (fun xs H Q => ∃ p ys, xs = [V.ref p] ∧ (SqL K H p ys ∨ SqT K H p ys) ∧ Q (.int ys.length) H) (tCons (tVar 0) tNil)) (tC (.int 64))))))
  (tRet (tC (.bl false)))
  tNext)
  (tRet (tCB (rAll K) (tCons (tLc (iTup K (tVar 0)) (gName 1) tYes (tCall (sp_is_count K cs) [] E0 (tCons (tVar 1) (tCons (tC (.int 0)) (tCons (tC (.int 999)) tNil)))) [1]) tNil))))
def sp_is_numbers (K : PySem.W.Frag) (_ : Cs) : Sp := fun vs H Q _ => ∃ v t, vs = [v] ∧ IsT H v t ∧ upR Q (.bl (thNums t)) H
theorem c_is_numbers {K : PySem.W.Frag} {cs : Cs} {H : Hp} {v : V} {t : Th} {Q : PV} {E : XK} (h : IsT H v t) (k : Q (.bl (thNums t)) H) : kC (fun ws H Q => sp_is_numbers K cs ws H Q E) [v] H Q :=
  fun H1 e _ q => ⟨v, t, rfl, h.up e, fun H2 e2 => q _ _ _ k (e.tr e2)⟩
local macro_rules | `(tactic| k_places) => `(tactic| ((with_reducible refine' c_is_numbers ?k1 ?_); (case k1 => k_ownIn)))
theorem pure_is_numbers {K : PySem.W.Frag} {cs : Cs} {H : Hp} {vs : List V} {Q : VK} {E : XK} (h : sp_is_numbers K cs vs H Q E) : t_is_numbers K cs E { nx := fun _ H' => Q .non H', rt := Q } (start ["thing", "one"] vs) H := by
  obtain ⟨v, t, rfl, h, q⟩ := h
  refine fin (σ := [some v, none]) ?_
  unfold t_is_numbers
  cases h with
  | tup h all =>
    rename_i a vs ts
    have hl := all.len
    k_clsL
    refine dec2 (fun h1 => ?_) (fun h1 => ?_)
    · k_clsL
      refine ndec2 (fun h2 => ?_) (fun h2 => ?_)
      · k_clsL
        refine upE q ?_
        have h5 : ¬ ts.length ≤ 64 := by omega
        simp [thNums, h5]
      · k_clsL
        refine e_lcZ ?_
        k_clsL
        refine ⟨SqT.of h, by omega, (ts.map fun t => thCnt t 0 999).map V.bl, by simp [hl], fun D acc i hD hi x hx => ?_, fun D hD => ?_⟩
        · obtain ⟨t, ht, hxt⟩ := all.at hx
          have ty := (hxt.up (Ex.news (o := .lst acc) hD)).ty (K := K)
          refine g_name ⟨rfl, t_yes ⟨rfl, ?_⟩⟩
          k_clsL
          refine ⟨?_, by k_offL⟩
          rw [List.getElem?_map, List.getElem?_map, ht, hxt.cnt]
          rfl
        · refine a_nil (c_all (bs := ts.map fun t => thCnt t 0 999) (by k_memK) ?_)
          refine upX (upE q ?_) (by k_offL)
          have h3 : (1 : Int) ≤ (ts.length : Int) ∧ (ts.length : Int) ≤ 64 := by omega
          have h4 : 1 ≤ ts.length := by omega
          have h5 : ts.length ≤ 64 := by omega
          simp [thNums, h4, h5, List.all_map]
    · k_clsL
      refine upE q ?_
      have h5 : ¬ 1 ≤ ts.length := by omega
      simp [thNums, h5]
  | _ => k_clsL; exact q
theorem ok_is_numbers {P : Program} {w : World} {K : PySem.W.Frag} {mg : Str → Option Value} {base : Heap} {cs : Cs} (D_is_numbers : Dn K mg "is_numbers" s_is_numbers ["thing"]) (cal_is_count : Cal P w K mg base (L2N.CX P w) 1 "is_count" ["thing", "least", "most"] (sp_is_count K cs)) (m_tuple : mg "tuple" = none) (m_isinstance : mg "isinstance" = none) (m_len : mg "len" = none) (m_all : mg "all" = none) (k_MOST_NUMBERS : ∃ t, mg "MOST_NUMBERS" = some (.int 64 t)) (k_MOST_TOLD : ∃ t, mg "MOST_TOLD" = some (.int 999 t)) :
    Cal P w K mg base (L2N.CX P w) 2 "is_numbers" ["thing"] (sp_is_numbers K cs) := by
  refine cal_mk D_is_numbers sc_is_numbers (fun vs H Q E h => ?_) fun f cdv A outer s H vs Q E hr h => ⟨t_is_numbers K cs E, ?_, pure_is_numbers h⟩
  · unfold sp_is_numbers at h
    first | (obtain ⟨rfl, _⟩ := h; rfl) | (obtain ⟨_, rfl, _⟩ := h; rfl) | (obtain ⟨_, _, rfl, _⟩ := h; rfl) | (obtain ⟨_, _, _, rfl, _⟩ := h; rfl) | (obtain ⟨_, _, _, _, rfl, _⟩ := h; rfl) | (obtain ⟨_, _, _, _, _, rfl, _⟩ := h; rfl) | (obtain ⟨_, _, _, _, _, _, rfl, _⟩ := h; rfl) | (obtain ⟨_, _, _, _, _, _, _, rfl, _⟩ := h; rfl) | (obtain ⟨_, _, _, _, _, _, _, _, rfl, _⟩ := h; rfl) | (obtain ⟨_, _, _, _, _, _, _, _, _, rfl, _⟩ := h; rfl) | (obtain ⟨_, _, _, _, _, _, _, _, _, _, rfl, _⟩ := h; rfl) | (obtain ⟨_, _, _, _, _, _, _, _, _, _, _, rfl, _⟩ := h; rfl) | (obtain ⟨_, _, _, _, _, _, _, _, _, _, _, _, rfl, _⟩ := h; rfl) | (obtain ⟨_, _, _, _, _, _, _, _, _, _, _, _, _, rfl, _⟩ := h; rfl) | (obtain ⟨_, _, _, _, _, _, _, _, _, _, _, _, _, _, rfl, _⟩ := h; rfl) | (obtain ⟨_, _, _, _, _, _, _, _, _, _, _, _, _, _, _, rfl, _⟩ := h; rfl)
  · exact (pss_cons (ps_if (PW.pt (pw_or (pt_not (pt_val (pe_callB call_isi (by rfl) m_isinstance (by decide +kernel) (pa_cons (pv 0) (pa_cons (pe_bltn (v := .ty "tuple") (by rfl) m_tuple (by decide +kernel) rfl) pa_nil))))) (pw_or1 (pt_not (pt_chain op_le op_le pe_int (pe_callB call_len_seq (by rfl) m_len (by decide +kernel) (pa_cons (pv 0) pa_nil)) (pe_gI (n := 64) (by rfl) k_MOST_NUMBERS))))))
      (pss_one (ps_ret pe_bl))
      pss_nil)
      (pss_one (ps_ret (pe_callB (cr_all rfl) (by rfl) m_all (by decide +kernel) (pa_cons (pe_lc (own := [("one", 1)]) (g := (gName 1)) (tt := tYes) (by rfl) sc_is_numbers.nd (pi_tup (pv 0)) (blkOk_by (own := [("one", 1)]) (N := ["thing", "one"]) (sc := defScope s_is_numbers) (by decide +kernel)) (fun _ _ _ _ _ => (pg_name (i := 1) sc_is_numbers.nd rfl (Or.inl rfl))) (fun _ _ _ _ _ => pts_nil) (fun _ _ _ _ _ => (pe_cal cal_is_count hr (by decide) (by rfl) passN (pa_cons (pv 1) (pa_cons pe_int (pa_cons (pe_gI (n := 999) (by rfl) k_MOST_TOLD) pa_nil)))))) pa_nil)))))
theorem sc_is_rule : FnScope ["thing", "most"] ["thing"] (defScope s_is_rule) := ⟨rfl, rfl, rfl, by decide +kernel, rfl, by decide +kernel, by decide +kernel⟩
theorem sc_is_rule_v0 : (defScope s_is_rule).names.lookup ("thing" : Str) = some .local := by decide +kernel
theorem sc_is_rule_v1 : (defScope s_is_rule).names.lookup ("most" : Str) = some .local := by decide +kernel
def t_is_rule (K : PySem.W.Frag) (cs : Cs) (E : XK) : TS :=
  (tSeq (tIfS (tOr (tNot (tB (tCB (rIsi K) (tCons (tVar 0) (tCons (tC (.ty "tuple")) tNil))))) (tTest (tOp (rIn K true) (tCB (fun xs H Q => ∃ p ys, xs = [V.ref p] ∧ (SqL K H p ys ∨ SqT K H p ys) ∧ Q (.int ys.length) H) (tCons (tVar 0) tNil)) (tTup (tCons (tC (.int 2)) (tCons (tC (.int 3)) tNil))))))
  (tRet (tC (.bl false)))
  tNext)
  (tSeq (tIfS (tTest (tOp rEq (tCB (fun xs H Q => ∃ p ys, xs = [V.ref p] ∧ (SqL K H p ys ∨ SqT K H p ys) ∧ Q (.int ys.length) H) (tCons (tVar 0) tNil)) (tC (.int 2))))
  (tRet (tAndV (tOp rEq (tOp (rIxT K) (tVar 0) (tC (.int 0))) (tC (.str "told"))) (tCall (sp_is_numbers K cs) [] E0 (tCons (tOp (rIxT K) (tVar 0) (tC (.int 1))) tNil))))
  tNext)
  (tSeq (tAsg (tIf (tTest (tOp rEq (tOp (rIxT K) (tVar 0) (tC (.int 0))) (tC (.str "times")))) (tC (.int 999999)) (tC (.int 30))) (gName 1))
  (tSeq (tIfS (tOr (tTest (tOp (rIn K true) (tOp (rIxT K) (tVar 0) (tC (.int 0))) (tTup (tCons (tC (.str "times")) (tCons (tC (.str "high")) tNil))))) (tNot (tB (tCall (sp_is_count K cs) [] E0 (tCons (tOp (rIxT K) (tVar 0) (tC (.int 1))) (tCons (tC (.int 0)) (tCons (tC (.int 999999)) tNil)))))))
  (tRet (tC (.bl false)))
  tNext)
  (tRet (tCall (sp_is_count K cs) [] E0 (tCons (tOp (rIxT K) (tVar 0) (tC (.int 2))) (tCons (tCB rInt1 (tCons (tOp rEq (tOp (rIxT K) (tVar 0) (tC (.int 0))) (tC (.str "high"))) tNil)) (tCons (tVar 1) tNil)))))))))
def sp_is_rule (K : PySem.W.Frag) (_ : Cs) : Sp := fun vs H Q _ => ∃ v t, vs = [v] ∧ IsT H v t ∧ thOk t = true ∧ upR Q (.bl (thRule t)) H
theorem c_is_rule {K : PySem.W.Frag} {cs : Cs} {H : Hp} {v : V} {t : Th} {Q : PV} {E : XK} (h : IsT H v t) (ho : thOk t = true) (k : Q (.bl (thRule t)) H) : kC (fun ws H Q => sp_is_rule K cs ws H Q E) [v] H Q :=
  fun H1 e _ q => ⟨v, t, rfl, h.up e, ho, fun H2 e2 => q _ _ _ k (e.tr e2)⟩
local macro_rules | `(tactic| k_places) => `(tactic| ((with_reducible refine' c_is_rule ?k1 ?k2 ?_); (case k1 => k_ownIn); (case k2 => first | with_reducible assumption | rfl)))
theorem pure_is_rule {K : PySem.W.Frag} {cs : Cs} {H : Hp} {vs : List V} {Q : VK} {E : XK} (h : sp_is_rule K cs vs H Q E) : t_is_rule K cs E { nx := fun _ H' => Q .non H', rt := Q } (start ["thing", "most"] vs) H := by
  have nth : ¬ (Str.ofString "times" = Str.ofString "high") := by decide
  have nht : ¬ (Str.ofString "high" = Str.ofString "times") := by decide
  obtain ⟨v, t, rfl, h, ho, q⟩ := h
  refine fin (σ := [some v, none]) ?_
  unfold t_is_rule
  cases h with
  | tup h all =>
    rename_i a vs ts
    match ts, all with
    | [], .nil => k_clsL; exact upX q (by k_offL)
    | [hd], .cons _ .nil => k_clsL; exact upX (upE q (by cases hd <;> rfl)) (by k_offL)
    | [hd, t], .cons h1 (.cons h2 .nil) =>
      k_clsL
      cases h1 with
      | int i =>
        k_clsL
        exact upX q (by k_offL)
      | str z =>
        k_clsL
        by_cases hz : z = ("told" : Str)
        · subst hz
          refine bT (by decide) ?_
          k_clsL
          exact upX q (by k_offL)
        · refine bF (by simpa using hz) ?_
          exact upX (upE q (by simp [thRule, hz])) (by k_offL)
      | _ => cases ho
    | [hd, x, y], .cons h1 (.cons h2 (.cons h3 .nil)) =>
      k_clsL
      cases h1 with
      | int i =>
        k_clsL
        exact upX q (by k_offL)
      | str z =>
        by_cases hz : z = ("times" : Str)
        · subst hz
          k_clsL
          refine ⟨fun hb => ?_, fun hb => ?_⟩
          · k_clsL
            rw [h2.cnt] at hb
            exact upX (upE q (by simp at hb; simp [thRule, hb, nth, nht])) (by k_offL)
          · k_clsL
            rw [h2.cnt] at hb
            rw [h3.cnt]
            exact upX (upE q (by simp at hb; simp [thRule, hb, nth, nht])) (by k_offL)
        · refine r_eq rfl ?_
          refine ⟨_, rfl, bF (by simpa using hz) ?_⟩
          by_cases hh : z = ("high" : Str)
          · subst hh
            k_clsL
            refine ⟨fun hb => ?_, fun hb => ?_⟩
            · k_clsL
              rw [h2.cnt] at hb
              exact upX (upE q (by simp at hb; simp [thRule, hb, nth, nht])) (by k_offL)
            · k_clsL
              rw [h2.cnt] at hb
              rw [h3.cnt]
              exact upX (upE q (by simp at hb; simp [thRule, hb, nth, nht])) (by k_offL)
          · k_clsL
            refine bT (by simp [inV, eqV, Ne.symm hz, Ne.symm hh]) ?_
            k_clsL
            exact upX (upE q (by simp [thRule, hz, hh])) (by k_offL)
      | _ => cases ho
    | _ :: _ :: _ :: _ :: ts, .cons h1 (.cons h2 (.cons h3 (.cons h4 r))) =>
      k_clsL
      exact upX (upE q (by simp [thRule])) (by k_offL)
  | _ => k_clsL; exact q
theorem ok_is_rule {P : Program} {w : World} {K : PySem.W.Frag} {mg : Str → Option Value} {base : Heap} {cs : Cs} (D_is_rule : Dn K mg "is_rule" s_is_rule ["thing"]) (cal_is_numbers : Cal P w K mg base (L2N.CX P w) 2 "is_numbers" ["thing"] (sp_is_numbers K cs)) (cal_is_count : Cal P w K mg base (L2N.CX P w) 1 "is_count" ["thing", "least", "most"] (sp_is_count K cs)) (m_tuple : mg "tuple" = none) (m_isinstance : mg "isinstance" = none) (m_len : mg "len" = none) (m_int : mg "int" = none) (k_MOST_NUMBER : ∃ t, mg "MOST_NUMBER" = some (.int 999999 t)) (k_MOST_BITS : ∃ t, mg "MOST_BITS" = some (.int 30 t)) :
    Cal P w K mg base (L2N.CX P w) 3 "is_rule" ["thing"] (sp_is_rule K cs) := by
  refine cal_mk D_is_rule sc_is_rule (fun vs H Q E h => ?_) fun f cdv A outer s H vs Q E hr h => ⟨t_is_rule K cs E, ?_, pure_is_rule h⟩
  · unfold sp_is_rule at h
    first | (obtain ⟨rfl, _⟩ := h; rfl) | (obtain ⟨_, rfl, _⟩ := h; rfl) | (obtain ⟨_, _, rfl, _⟩ := h; rfl) | (obtain ⟨_, _, _, rfl, _⟩ := h; rfl) | (obtain ⟨_, _, _, _, rfl, _⟩ := h; rfl) | (obtain ⟨_, _, _, _, _, rfl, _⟩ := h; rfl) | (obtain ⟨_, _, _, _, _, _, rfl, _⟩ := h; rfl) | (obtain ⟨_, _, _, _, _, _, _, rfl, _⟩ := h; rfl) | (obtain ⟨_, _, _, _, _, _, _, _, rfl, _⟩ := h; rfl) | (obtain ⟨_, _, _, _, _, _, _, _, _, rfl, _⟩ := h; rfl) | (obtain ⟨_, _, _, _, _, _, _, _, _, _, rfl, _⟩ := h; rfl) | (obtain ⟨_, _, _, _, _, _, _, _, _, _, _, rfl, _⟩ := h; rfl) | (obtain ⟨_, _, _, _, _, _, _, _, _, _, _, _, rfl, _⟩ := h; rfl) | (obtain ⟨_, _, _, _, _, _, _, _, _, _, _, _, _, rfl, _⟩ := h; rfl) | (obtain ⟨_, _, _, _, _, _, _, _, _, _, _, _, _, _, rfl, _⟩ := h; rfl) | (obtain ⟨_, _, _, _, _, _, _, _, _, _, _, _, _, _, _, rfl, _⟩ := h; rfl)
  · exact (pss_cons (ps_if (PW.pt (pw_or (pt_not (pt_val (pe_callB call_isi (by rfl) m_isinstance (by decide +kernel) (pa_cons (pv 0) (pa_cons (pe_bltn (v := .ty "tuple") (by rfl) m_tuple (by decide +kernel) rfl) pa_nil))))) (pw_or1 (pt_cmpR op_notIn_seq (pe_callB call_len_seq (by rfl) m_len (by decide +kernel) (pa_cons (pv 0) pa_nil)) (pe_tup (pa_cons pe_int (pa_cons pe_int pa_nil))) (by rfl)))))
      (pss_one (ps_ret pe_bl))
      pss_nil)
      (pss_cons (ps_if (pt_cmpR op_eq (pe_callB call_len_seq (by rfl) m_len (by decide +kernel) (pa_cons (pv 0) pa_nil)) pe_int (nomark _))
      (pss_one (ps_ret (pe_and (pe_cmpR op_eq (pe_ix ix_tup (pv 0) pe_int (fun _ _ => rfl)) pe_str (nomark _)) (pe_one (pe_cal cal_is_numbers hr (by decide) (by rfl) passN (pa_cons (pe_ix ix_tup (pv 0) pe_int (fun _ _ => rfl)) pa_nil))))))
      pss_nil)
      (pss_cons (ps_set (i := 1) sc_is_rule.nd rfl (Or.inl sc_is_rule_v1) (pe_ifExp (pt_cmpR op_eq (pe_ix ix_tup (pv 0) pe_int (fun _ _ => rfl)) pe_str (nomark _)) (pe_gI (n := 999999) (by rfl) k_MOST_NUMBER) (pe_gI (n := 30) (by rfl) k_MOST_BITS)))
      (pss_cons (ps_if (PW.pt (pw_or (pt_cmpR op_notIn_seq (pe_ix ix_tup (pv 0) pe_int (fun _ _ => rfl)) (pe_tup (pa_cons pe_str (pa_cons pe_str pa_nil))) (by rfl)) (pw_or1 (pt_not (pt_val (pe_cal cal_is_count hr (by decide) (by rfl) passN (pa_cons (pe_ix ix_tup (pv 0) pe_int (fun _ _ => rfl)) (pa_cons pe_int (pa_cons (pe_gI (n := 999999) (by rfl) k_MOST_NUMBER) pa_nil)))))))))
      (pss_one (ps_ret pe_bl))
      pss_nil)
      (pss_one (ps_ret (pe_cal cal_is_count hr (by decide) (by rfl) passN (pa_cons (pe_ix ix_tup (pv 0) pe_int (fun _ _ => rfl)) (pa_cons (pe_callTy call_int1 (by rfl) m_int (by decide +kernel) (pa_cons (pe_cmpR op_eq (pe_ix ix_tup (pv 0) pe_int (fun _ _ => rfl)) pe_str (nomark _)) pa_nil)) (pa_cons (pv 1) pa_nil))))))))))
theorem sc_need_rule : FnScope ["rule"] ["rule"] (defScope s_need_rule) := ⟨rfl, rfl, rfl, by decide +kernel, rfl, by decide +kernel, by decide +kernel⟩
theorem sc_need_rule_v0 : (defScope s_need_rule).names.lookup ("rule" : Str) = some .local := by decide +kernel
def t_need_rule (K : PySem.W.Frag) (cs : Cs) (E : XK) : TS :=
  (tIfS (tNot (tB (tCall (sp_is_rule K cs) [] E0 (tCons (tVar 0) tNil))))
  (tRaise E cs.BadRule)
  tNext)
/-- a rule, or what is none -/
def NoRl (H : Hp) (v : V) : Prop := ∃ t, IsT H v t ∧ thOk t = true ∧ thRule t = false
theorem NoRl.up {H H' : Hp} {v : V} (h : NoRl H v) (e : Ex H H') : NoRl H' v := by
  obtain ⟨t, a, b, c⟩ := h
  exact ⟨t, a.up e, b, c⟩
def sp_need_rule (K : PySem.W.Frag) (cs : Cs) : Sp := fun vs H Q E => ∃ v, vs = [v] ∧ ((∃ r, IsRl H v r ∧ r.ok ∧ upR Q .non H) ∨ (NoRl H v ∧ ∀ H2, Ex H H2 → E (.ref cs.BadRule) none H2))
theorem c_need_rule {K : PySem.W.Frag} {cs : Cs} {H : Hp} {v : V} {r : Rl} {Q : PV} {E : XK} (h : IsRl H v r) (ho : r.ok) (k : Q .non H) : kC (fun ws H Q => sp_need_rule K cs ws H Q E) [v] H Q :=
  fun H1 e _ q => ⟨v, rfl, .inl ⟨r, h.up e, ho, fun H2 e2 => q _ _ _ k (e.tr e2)⟩⟩
theorem cE_need_rule {K : PySem.W.Frag} {cs : Cs} {H : Hp} {v : V} {Q : PV} {E : XK} (h : NoRl H v) (k : ∀ H2, Ex H H2 → E (.ref cs.BadRule) none H2) : kC (fun ws H Q => sp_need_rule K cs ws H Q E) [v] H Q :=
  fun H1 e _ q => ⟨v, rfl, .inr ⟨h.up e, fun H2 e2 => k H2 (e.tr e2)⟩⟩
theorem pure_need_rule {K : PySem.W.Frag} {cs : Cs} {H : Hp} {vs : List V} {Q : VK} {E : XK} (h : sp_need_rule K cs vs H Q E) : t_need_rule K cs E { nx := fun _ H' => Q .non H', rt := Q } (start ["rule"] vs) H := by
  obtain ⟨v, rfl, h⟩ := h
  refine fin (σ := [some v]) ?_
  unfold t_need_rule
  rcases h with ⟨r, h, ho, q⟩ | ⟨⟨t, h, ho, hr⟩, q⟩
  · have hx := Rl.ok_th ho
    have ht := h.th
    have ho2 := hx.2
    k_clsL
    rw [hx.1]
    refine bF rfl ?_
    k_clsL
    exact q
  · k_clsL
    rw [hr]
    refine bT rfl ?_
    exact s_raise q
theorem ok_need_rule {P : Program} {w : World} {K : PySem.W.Frag} {mg : Str → Option Value} {base : Heap} {cs : Cs} (D_need_rule : Dn K mg "need_rule" s_need_rule ["rule"]) (cal_is_rule : Cal P w K mg base (L2N.CX P w) 3 "is_rule" ["thing"] (sp_is_rule K cs)) (x_BadRule : ExcT K mg "BadRule" cs.BadRule) :
    Cal P w K mg base (L2N.CX P w) 4 "need_rule" ["rule"] (sp_need_rule K cs) := by
  refine cal_mk D_need_rule sc_need_rule (fun vs H Q E h => ?_) fun f cdv A outer s H vs Q E hr h => ⟨t_need_rule K cs E, ?_, pure_need_rule h⟩
  · unfold sp_need_rule at h
    first | (obtain ⟨rfl, _⟩ := h; rfl) | (obtain ⟨_, rfl, _⟩ := h; rfl) | (obtain ⟨_, _, rfl, _⟩ := h; rfl) | (obtain ⟨_, _, _, rfl, _⟩ := h; rfl) | (obtain ⟨_, _, _, _, rfl, _⟩ := h; rfl) | (obtain ⟨_, _, _, _, _, rfl, _⟩ := h; rfl) | (obtain ⟨_, _, _, _, _, _, rfl, _⟩ := h; rfl) | (obtain ⟨_, _, _, _, _, _, _, rfl, _⟩ := h; rfl) | (obtain ⟨_, _, _, _, _, _, _, _, rfl, _⟩ := h; rfl) | (obtain ⟨_, _, _, _, _, _, _, _, _, rfl, _⟩ := h; rfl) | (obtain ⟨_, _, _, _, _, _, _, _, _, _, rfl, _⟩ := h; rfl) | (obtain ⟨_, _, _, _, _, _, _, _, _, _, _, rfl, _⟩ := h; rfl) | (obtain ⟨_, _, _, _, _, _, _, _, _, _, _, _, rfl, _⟩ := h; rfl) | (obtain ⟨_, _, _, _, _, _, _, _, _, _, _, _, _, rfl, _⟩ := h; rfl) | (obtain ⟨_, _, _, _, _, _, _, _, _, _, _, _, _, _, rfl, _⟩ := h; rfl) | (obtain ⟨_, _, _, _, _, _, _, _, _, _, _, _, _, _, _, rfl, _⟩ := h; rfl)
  · exact (pss_one (ps_if (pt_not (pt_val (pe_cal cal_is_rule hr (by decide) (by rfl) passN (pa_cons (pv 0) pa_nil))))
      (pss_one (ps_raiseT x_BadRule rfl (L2N.takes_of (E := E) rfl rfl rfl rfl) (by rfl)))
      pss_nil))
theorem sc_need_size : FnScope ["size"] ["size"] (defScope s_need_size) := ⟨rfl, rfl, rfl, by decide +kernel, rfl, by decide +kernel, by decide +kernel⟩
theorem sc_need_size_v0 : (defScope s_need_size).names.lookup ("size" : Str) = some .local := by decide +kernel
def t_need_size (K : PySem.W.Frag) (cs : Cs) (E : XK) : TS :=
  (tIfS (tNot (tB (tCall (sp_is_count K cs) [] E0 (tCons (tVar 0) (tCons (tC (.int 2)) (tCons (tC (.int 64)) tNil))))))
  (tRaise E cs.BadSize)
  tNext)
def sp_need_size (K : PySem.W.Frag) (cs : Cs) : Sp := fun vs H Q E => ∃ x T, vs = [x] ∧ Ty5 K H x T ∧ (cnt x 2 64 = true → upR Q .non H) ∧ (cnt x 2 64 = false → ∀ H2, Ex H H2 → E (.ref cs.BadSize) none H2)
theorem c_need_size {K : PySem.W.Frag} {cs : Cs} {H : Hp} {x : V} {T : String} {Q : PV} {E : XK} (h : Ty5 K H x T) (k : (cnt x 2 64 = true → Q .non H) ∧ (cnt x 2 64 = false → ∀ H2, Ex H H2 → E (.ref cs.BadSize) none H2)) : kC (fun ws H Q => sp_need_size K cs ws H Q E) [x] H Q :=
  fun H1 e _ q => ⟨x, T, rfl, h.up e, fun c H2 e2 => q _ _ _ (k.1 c) (e.tr e2), fun c H2 e2 => k.2 c H2 (e.tr e2)⟩
local macro_rules | `(tactic| k_places) => `(tactic| ((with_reducible refine' c_need_size ?k1 ?_); (case k1 => k_ownIn)))
theorem pure_need_size {K : PySem.W.Frag} {cs : Cs} {H : Hp} {vs : List V} {Q : VK} {E : XK} (h : sp_need_size K cs vs H Q E) : t_need_size K cs E { nx := fun _ H' => Q .non H', rt := Q } (start ["size"] vs) H := by
  obtain ⟨x, T, rfl, h, q, r⟩ := h
  refine fin (σ := [some x]) ?_
  unfold t_need_size
  k_clsL
  refine ⟨fun h1 => ?_, fun h1 => ?_⟩
  · exact s_raise (r (by simpa using h1))
  · k_clsL
    exact q (by simpa using h1)
theorem ok_need_size {P : Program} {w : World} {K : PySem.W.Frag} {mg : Str → Option Value} {base : Heap} {cs : Cs} (D_need_size : Dn K mg "need_size" s_need_size ["size"]) (cal_is_count : Cal P w K mg base (L2N.CX P w) 1 "is_count" ["thing", "least", "most"] (sp_is_count K cs)) (k_LEAST_SIZE : ∃ t, mg "LEAST_SIZE" = some (.int 2 t)) (k_MOST_SIZE : ∃ t, mg "MOST_SIZE" = some (.int 64 t)) (x_BadSize : ExcT K mg "BadSize" cs.BadSize) :
    Cal P w K mg base (L2N.CX P w) 2 "need_size" ["size"] (sp_need_size K cs) := by
  refine cal_mk D_need_size sc_need_size (fun vs H Q E h => ?_) fun f cdv A outer s H vs Q E hr h => ⟨t_need_size K cs E, ?_, pure_need_size h⟩
  · unfold sp_need_size at h
    first | (obtain ⟨rfl, _⟩ := h; rfl) | (obtain ⟨_, rfl, _⟩ := h; rfl) | (obtain ⟨_, _, rfl, _⟩ := h; rfl) | (obtain ⟨_, _, _, rfl, _⟩ := h; rfl) | (obtain ⟨_, _, _, _, rfl, _⟩ := h; rfl) | (obtain ⟨_, _, _, _, _, rfl, _⟩ := h; rfl) | (obtain ⟨_, _, _, _, _, _, rfl, _⟩ := h; rfl) | (obtain ⟨_, _, _, _, _, _, _, rfl, _⟩ := h; rfl) | (obtain ⟨_, _, _, _, _, _, _, _, rfl, _⟩ := h; rfl) | (obtain ⟨_, _, _, _, _, _, _, _, _, rfl, _⟩ := h; rfl) | (obtain ⟨_, _, _, _, _, _, _, _, _, _, rfl, _⟩ := h; rfl) | (obtain ⟨_, _, _, _, _, _, _, _, _, _, _, rfl, _⟩ := h; rfl) | (obtain ⟨_, _, _, _, _, _, _, _, _, _, _, _, rfl, _⟩ := h; rfl) | (obtain ⟨_, _, _, _, _, _, _, _, _, _, _, _, _, rfl, _⟩ := h; rfl) | (obtain ⟨_, _, _, _, _, _, _, _, _, _, _, _, _, _, rfl, _⟩ := h; rfl) | (obtain ⟨_, _, _, _, _, _, _, _, _, _, _, _, _, _, _, rfl, _⟩ := h; rfl)
  · exact (pss_one (ps_if (pt_not (pt_val (pe_cal cal_is_count hr (by decide) (by rfl) passN (pa_cons (pv 0) (pa_cons (pe_gI (n := 2) (by rfl) k_LEAST_SIZE) (pa_cons (pe_gI (n := 64) (by rfl) k_MOST_SIZE) pa_nil))))))
      (pss_one (ps_raiseT x_BadSize rfl (L2N.takes_of (E := E) rfl rfl rfl rfl) (by rfl)))
      pss_nil))
theorem sc_need_count : FnScope ["number", "least", "most"] ["number", "least", "most"] (defScope s_need_count) := ⟨rfl, rfl, rfl, by decide +kernel, rfl, by decide +kernel, by decide +kernel⟩
theorem sc_need_count_v0 : (defScope s_need_count).names.lookup ("number" : Str) = some .local := by decide +kernel
theorem sc_need_count_v1 : (defScope s_need_count).names.lookup ("least" : Str) = some .local := by decide +kernel
theorem sc_need_count_v2 : (defScope s_need_count).names.lookup ("most" : Str) = some .local := by decide +kernel
def t_need_count (K : PySem.W.Frag) (cs : Cs) (E : XK) : TS :=
  (tIfS (tNot (tB (tCall (sp_is_count K cs) [] E0 (tCons (tVar 0) (tCons (tVar 1) (tCons (tVar 2) tNil))))))
  (tRaise E cs.BadSize)
  tNext)
def sp_need_count (K : PySem.W.Frag) (cs : Cs) : Sp := fun vs H Q E => ∃ x T lo hi, vs = [x, .int lo, .int hi] ∧ Ty5 K H x T ∧ (cnt x lo hi = true → upR Q .non H) ∧ (cnt x lo hi = false → ∀ H2, Ex H H2 → E (.ref cs.BadSize) none H2)
theorem c_need_count {K : PySem.W.Frag} {cs : Cs} {H : Hp} {x : V} {T : String} {lo hi : Int} {Q : PV} {E : XK} (h : Ty5 K H x T) (k : (cnt x lo hi = true → Q .non H) ∧ (cnt x lo hi = false → ∀ H2, Ex H H2 → E (.ref cs.BadSize) none H2)) : kC (fun ws H Q => sp_need_count K cs ws H Q E) [x, .int lo, .int hi] H Q :=
  fun H1 e _ q => ⟨x, T, lo, hi, rfl, h.up e, fun c H2 e2 => q _ _ _ (k.1 c) (e.tr e2), fun c H2 e2 => k.2 c H2 (e.tr e2)⟩
local macro_rules | `(tactic| k_places) => `(tactic| ((with_reducible refine' c_need_count ?k1 ?_); (case k1 => k_ownIn)))
theorem pure_need_count {K : PySem.W.Frag} {cs : Cs} {H : Hp} {vs : List V} {Q : VK} {E : XK} (h : sp_need_count K cs vs H Q E) : t_need_count K cs E { nx := fun _ H' => Q .non H', rt := Q } (start ["number", "least", "most"] vs) H := by
  obtain ⟨x, T, lo, hi, rfl, h, q, r⟩ := h
  refine fin (σ := [some x, some (.int lo), some (.int hi)]) ?_
  unfold t_need_count
  k_clsL
  refine ⟨fun h1 => ?_, fun h1 => ?_⟩
  · exact s_raise (r (by simpa using h1))
  · k_clsL
    exact q (by simpa using h1)
theorem ok_need_count {P : Program} {w : World} {K : PySem.W.Frag} {mg : Str → Option Value} {base : Heap} {cs : Cs} (D_need_count : Dn K mg "need_count" s_need_count ["number", "least", "most"]) (cal_is_count : Cal P w K mg base (L2N.CX P w) 1 "is_count" ["thing", "least", "most"] (sp_is_count K cs)) (x_BadSize : ExcT K mg "BadSize" cs.BadSize) :
    Cal P w K mg base (L2N.CX P w) 2 "need_count" ["number", "least", "most"] (sp_need_count K cs) := by
  refine cal_mk D_need_count sc_need_count (fun vs H Q E h => ?_) fun f cdv A outer s H vs Q E hr h => ⟨t_need_count K cs E, ?_, pure_need_count h⟩
  · unfold sp_need_count at h
    first | (obtain ⟨rfl, _⟩ := h; rfl) | (obtain ⟨_, rfl, _⟩ := h; rfl) | (obtain ⟨_, _, rfl, _⟩ := h; rfl) | (obtain ⟨_, _, _, rfl, _⟩ := h; rfl) | (obtain ⟨_, _, _, _, rfl, _⟩ := h; rfl) | (obtain ⟨_, _, _, _, _, rfl, _⟩ := h; rfl) | (obtain ⟨_, _, _, _, _, _, rfl, _⟩ := h; rfl) | (obtain ⟨_, _, _, _, _, _, _, rfl, _⟩ := h; rfl) | (obtain ⟨_, _, _, _, _, _, _, _, rfl, _⟩ := h; rfl) | (obtain ⟨_, _, _, _, _, _, _, _, _, rfl, _⟩ := h; rfl) | (obtain ⟨_, _, _, _, _, _, _, _, _, _, rfl, _⟩ := h; rfl) | (obtain ⟨_, _, _, _, _, _, _, _, _, _, _, rfl, _⟩ := h; rfl) | (obtain ⟨_, _, _, _, _, _, _, _, _, _, _, _, rfl, _⟩ := h; rfl) | (obtain ⟨_, _, _, _, _, _, _, _, _, _, _, _, _, rfl, _⟩ := h; rfl) | (obtain ⟨_, _, _, _, _, _, _, _, _, _, _, _, _, _, rfl, _⟩ := h; rfl) | (obtain ⟨_, _, _, _, _, _, _, _, _, _, _, _, _, _, _, rfl, _⟩ := h; rfl)
  · exact (pss_one (ps_if (pt_not (pt_val (pe_cal cal_is_count hr (by decide) (by rfl) passN (pa_cons (pv 0) (pa_cons (pv 1) (pa_cons (pv 2) pa_nil))))))
      (pss_one (ps_raiseT x_BadSize rfl (L2N.takes_of (E := E) rfl rfl rfl rfl) (by rfl)))
      pss_nil))
theorem sc_home_of : FnScope ["rule", "key", "size", "whole"] ["rule", "key", "size"] (defScope s_home_of) := ⟨rfl, rfl, rfl, by decide +kernel, rfl, by decide +kernel, by decide +kernel⟩
theorem sc_home_of_v0 : (defScope s_home_of).names.lookup ("rule" : Str) = some .local := by decide +kernel
theorem sc_home_of_v1 : (defScope s_home_of).names.lookup ("key" : Str) = some .local := by decide +kernel
theorem sc_home_of_v2 : (defScope s_home_of).names.lookup ("size" : Str) = some .local := by decide +kernel
theorem sc_home_of_v3 : (defScope s_home_of).names.lookup ("whole" : Str) = some .local := by decide +kernel
def t_home_of (K : PySem.W.Frag) (cs : Cs) (E : XK) : TS :=
  (tSeq (tIfS (tTest (tOp rEq (tOp (rIxT K) (tVar 0) (tC (.int 0))) (tC (.str "times"))))
  (tRet (tOp (rI (fun _ j => 0 < j) fun i j => .int (i % j)) (tOp (rI0 fun i j => .int (i + j)) (tOp (rI IntMulOk fun i j => .int (i * j)) (tOp (rIxT K) (tVar 0) (tC (.int 1))) (tVar 1)) (tOp (rIxT K) (tVar 0) (tC (.int 2)))) (tVar 2)))
  tNext)
  (tSeq (tIfS (tTest (tOp rEq (tOp (rIxT K) (tVar 0) (tC (.int 0))) (tC (.str "high"))))
  (tSeq (tAsg (tOp (rI CPow fun i j => .int (i * 2 ^ j.toNat)) (tC (.int 1)) (tOp (rIxT K) (tVar 0) (tC (.int 2)))) (gName 3))
  (tRet (tOp (rI CDivW fun i j => .int (i / j)) (tOp (rI IntMulOk fun i j => .int (i * j)) (tOp (rI (fun _ j => 0 < j) fun i j => .int (i % j)) (tOp (rI IntMulOk fun i j => .int (i * j)) (tOp (rIxT K) (tVar 0) (tC (.int 1))) (tVar 1)) (tVar 3)) (tVar 2)) (tVar 3))))
  tNext)
  (tRet (tOp (rI (fun _ j => 0 < j) fun i j => .int (i % j)) (tOp (rIxT K) (tOp (rIxT K) (tVar 0) (tC (.int 1))) (tOp (rI (fun _ j => 0 < j) fun i j => .int (i % j)) (tVar 1) (tCB (fun xs H Q => ∃ p ys, xs = [V.ref p] ∧ (SqL K H p ys ∨ SqT K H p ys) ∧ Q (.int ys.length) H) (tCons (tOp (rIxT K) (tVar 0) (tC (.int 1))) tNil)))) (tVar 2)))))
def sp_home_of (K : PySem.W.Frag) (_ : Cs) : Sp := fun vs H Q _ => ∃ (v : V) (r : Rl) (key size : Nat), vs = [v, .int (key : Int), .int (size : Int)] ∧ IsRl H v r ∧ r.ok ∧ key ≤ 999999 ∧ 2 ≤ size ∧ size ≤ 1024 ∧ upR Q (.int (homeN r key size : Nat)) H
theorem c_home_of {K : PySem.W.Frag} {cs : Cs} {H : Hp} {v : V} {r : Rl} {key size : Nat} {i j : Int} {Q : PV} {E : XK} (hi : i = key) (hj : j = size) (h : IsRl H v r) (ho : r.ok) (hk : key ≤ 999999) (h2 : 2 ≤ size) (h6 : size ≤ 64) (k : Q (.int (homeN r key size : Nat)) H) : kC (fun ws H Q => sp_home_of K cs ws H Q E) [v, .int i, .int j] H Q := by
  subst hi hj
  exact fun H1 e _ q => ⟨v, r, key, size, rfl, h.up e, ho, hk, h2, by omega, fun H2 e2 => q _ _ _ k (e.tr e2)⟩
theorem c_home_ofL {K : PySem.W.Frag} {cs : Cs} {H : Hp} {v : V} {r : Rl} {key size : Nat} {i j : Int} {Q : PV} {E : XK} (hi : i = key) (hj : j = size) (h : IsRl H v r) (ho : r.ok) (hk : key ≤ 999999) (h2 : 2 ≤ size) (h6 : size ≤ 1024) (k : Q (.int (homeN r key size : Nat)) H) : kC (fun ws H Q => sp_home_of K cs ws H Q E) [v, .int i, .int j] H Q := by
  subst hi hj
  exact fun H1 e _ q => ⟨v, r, key, size, rfl, h.up e, ho, hk, h2, h6, fun H2 e2 => q _ _ _ k (e.tr e2)⟩
theorem pure_home_of {K : PySem.W.Frag} {cs : Cs} {H : Hp} {vs : List V} {Q : VK} {E : XK} (h : sp_home_of K cs vs H Q E) : t_home_of K cs E { nx := fun _ H' => Q .non H', rt := Q } (start ["rule", "key", "size", "whole"] vs) H := by
  obtain ⟨v, r, key, size, rfl, h, ho, hk, h2, h6, q⟩ := h
  refine fin (σ := [some v, some (.int (key : Int)), some (.int (size : Int)), none]) ?_
  unfold t_home_of
  cases r with
  | times a b =>
    obtain ⟨p, rfl, hp⟩ := h
    obtain ⟨ha, hb⟩ := ho
    k_clsL
    exact upE q (by rw [homeN]; exact congrArg V.int (by push_cast; rfl))
  | high a b =>
    obtain ⟨p, rfl, hp⟩ := h
    obtain ⟨ha, hb1, hb⟩ := ho
    have hc : CPow 1 (b : Int) := ⟨by omega, by omega, by decide⟩
    have e1 : (1 : Int) * 2 ^ ((b : Int)).toNat = ((2 ^ b : Nat) : Int) := by
      rw [Int.toNat_natCast]
      push_cast
      omega
    have w0 : 0 < 2 ^ b := Nat.two_pow_pos b
    have w1 : 2 ^ b < 2 ^ 31 := pow_lt30 hb
    have e2 : homeN (.high a b) key size = a * key % 2 ^ b * size / 2 ^ b := rfl
    rw [e2] at q
    k_clsL
    rw [e1]
    generalize 2 ^ b = W at *
    k_clsL
    exact upE q (congrArg V.int (by push_cast; rfl))
  | told ns =>
    obtain ⟨p, l, rfl, hp, hl⟩ := h
    obtain ⟨ha, hb, hn⟩ := ho
    k_clsL
    rw [List.length_map]
    k_clsL
    have hi : key % ns.length < ns.length := Nat.mod_lt _ (by omega)
    refine r_ixT (v := .int ((ns[key % ns.length] : Nat) : Int)) (SqT.of hl) (atI_mod (by rw [List.getElem?_map, List.getElem?_eq_getElem hi]; rfl)) ?_
    k_clsL
    refine upE q (congrArg V.int ?_)
    rw [homeN, List.getD_eq_getElem?_getD, List.getElem?_eq_getElem hi]
    push_cast
    rfl
theorem ok_home_of {P : Program} {w : World} {K : PySem.W.Frag} {mg : Str → Option Value} {base : Heap} {cs : Cs} (D_home_of : Dn K mg "home_of" s_home_of ["rule", "key", "size"]) (m_len : mg "len" = none) :
    Cal P w K mg base (L2N.CX P w) 1 "home_of" ["rule", "key", "size"] (sp_home_of K cs) := by
  refine cal_mk D_home_of sc_home_of (fun vs H Q E h => ?_) fun f cdv A outer s H vs Q E hr h => ⟨t_home_of K cs E, ?_, pure_home_of h⟩
  · unfold sp_home_of at h
    first | (obtain ⟨rfl, _⟩ := h; rfl) | (obtain ⟨_, rfl, _⟩ := h; rfl) | (obtain ⟨_, _, rfl, _⟩ := h; rfl) | (obtain ⟨_, _, _, rfl, _⟩ := h; rfl) | (obtain ⟨_, _, _, _, rfl, _⟩ := h; rfl) | (obtain ⟨_, _, _, _, _, rfl, _⟩ := h; rfl) | (obtain ⟨_, _, _, _, _, _, rfl, _⟩ := h; rfl) | (obtain ⟨_, _, _, _, _, _, _, rfl, _⟩ := h; rfl) | (obtain ⟨_, _, _, _, _, _, _, _, rfl, _⟩ := h; rfl) | (obtain ⟨_, _, _, _, _, _, _, _, _, rfl, _⟩ := h; rfl) | (obtain ⟨_, _, _, _, _, _, _, _, _, _, rfl, _⟩ := h; rfl) | (obtain ⟨_, _, _, _, _, _, _, _, _, _, _, rfl, _⟩ := h; rfl) | (obtain ⟨_, _, _, _, _, _, _, _, _, _, _, _, rfl, _⟩ := h; rfl) | (obtain ⟨_, _, _, _, _, _, _, _, _, _, _, _, _, rfl, _⟩ := h; rfl) | (obtain ⟨_, _, _, _, _, _, _, _, _, _, _, _, _, _, rfl, _⟩ := h; rfl) | (obtain ⟨_, _, _, _, _, _, _, _, _, _, _, _, _, _, _, rfl, _⟩ := h; rfl)
  · exact (pss_cons (ps_if (pt_cmpR op_eq (pe_ix ix_tup (pv 0) pe_int (fun _ _ => rfl)) pe_str (nomark _))
      (pss_one (ps_ret (pe_op op_mod (pe_op op_add (pe_op op_mulX (pe_ix ix_tup (pv 0) pe_int (fun _ _ => rfl)) (pv 1)) (pe_ix ix_tup (pv 0) pe_int (fun _ _ => rfl))) (pv 2))))
      pss_nil)
      (pss_cons (ps_if (pt_cmpR op_eq (pe_ix ix_tup (pv 0) pe_int (fun _ _ => rfl)) pe_str (nomark _))
      (pss_cons (ps_set (i := 3) sc_home_of.nd rfl (Or.inl sc_home_of_v3) (pe_op op_shl pe_int (pe_ix ix_tup (pv 0) pe_int (fun _ _ => rfl))))
      (pss_one (ps_ret (pe_op op_fdivW (pe_op op_mulX (pe_op op_mod (pe_op op_mulX (pe_ix ix_tup (pv 0) pe_int (fun _ _ => rfl)) (pv 1)) (pv 3)) (pv 2)) (pv 3)))))
      pss_nil)
      (pss_one (ps_ret (pe_op op_mod (pe_ix ix_tup (pe_ix ix_tup (pv 0) pe_int (fun _ _ => rfl)) (pe_op op_mod (pv 1) (pe_callB call_len_seq (by rfl) m_len (by decide +kernel) (pa_cons (pe_ix ix_tup (pv 0) pe_int (fun _ _ => rfl)) pa_nil))) (fun _ _ => rfl)) (pv 2))))))
theorem sc_dealt : FnScope ["room", "many", "found", "at", "most", "rest", "longer", "one", "left", "here"] ["room", "many"] (defScope s_dealt) := ⟨rfl, rfl, rfl, by decide +kernel, rfl, by decide +kernel, by decide +kernel⟩
theorem sc_dealt_v0 : (defScope s_dealt).names.lookup ("room" : Str) = some .local := by decide +kernel
theorem sc_dealt_v1 : (defScope s_dealt).names.lookup ("many" : Str) = some .local := by decide +kernel
theorem sc_dealt_v2 : (defScope s_dealt).names.lookup ("found" : Str) = some .local := by decide +kernel
theorem sc_dealt_v3 : (defScope s_dealt).names.lookup ("at" : Str) = some .local := by decide +kernel
theorem sc_dealt_v4 : (defScope s_dealt).names.lookup ("most" : Str) = some .local := by decide +kernel
theorem sc_dealt_v5 : (defScope s_dealt).names.lookup ("rest" : Str) = some .local := by decide +kernel
theorem sc_dealt_v6 : (defScope s_dealt).names.lookup ("longer" : Str) = some .local := by decide +kernel
theorem sc_dealt_v7 : (defScope s_dealt).names.lookup ("one" : Str) = some .cell := by decide +kernel
theorem sc_dealt_v8 : (defScope s_dealt).names.lookup ("left" : Str) = some .local := by decide +kernel
def t_dealt (K : PySem.W.Frag) (cs : Cs) (E : XK) : TS :=
  (tSeq (tAsg (tLst (tCons (tTup tNil) tNil)) (gName 2))
  (tSeq (tFor (iEnum K (tCons (tVar 0) tNil)) (gTup K 2 (gCons (gName 3) (gCons (gName 4) gNil)))
  (tSeq (tAsg (tCB (rSum K) (tCons (tSl (rSlL K) (tVar 0) (tPart (tOp (rI0 fun i j => .int (i + j)) (tVar 3) (tC (.int 1)))) tNoPart) tNil)) (gName 5))
  (tSeq (tAsg (tLst tNil) (gName 6))
  (tSeq (tFor (iList K (tVar 2)) (gName 7)
  (tSeq (tAsg (tOp (rI0 fun i j => .int (i - j)) (tVar 1) (tCB (rSumT K) (tCons (tVar 7) tNil))) (gName 8))
  (tDrop (tBM K "list" rExtend (tVar 6) (tCons (tLc (iRng2 (tCons (tCB (fun xs H Q => ∃ i j, xs = [V.int i, .int j] ∧ Q (.int (if j > i then j else i)) H) (tCons (tC (.int 0)) (tCons (tOp (rI0 fun i j => .int (i - j)) (tVar 8) (tVar 5)) tNil))) (tCons (tOp (rI0 fun i j => .int (i + j)) (tCB (fun xs H Q => ∃ i j, xs = [V.int i, .int j] ∧ Q (.int (if j < i then j else i)) H) (tCons (tVar 4) (tCons (tVar 8) tNil))) (tC (.int 1))) tNil))) (gName 9) tYes (tOp (rCatA K) (tVar 7) (tTup (tCons (tVar 9) tNil))) [9]) tNil)))))
  (tSeq (tAsg (tVar 6) (gName 2))
  (tIfS (tTest (tOp (rI0 fun i j => .bl (decide (j < i))) (tCB (fun xs H Q => ∃ p ys, xs = [V.ref p] ∧ (SqL K H p ys ∨ SqT K H p ys) ∧ Q (.int ys.length) H) (tCons (tVar 2) tNil)) (tC (.int 4000))))
  (tRaise E cs.TooMany)
  tNext))))))
  (tRet (tVar 2))))
/-- tuples of whole numbers stand at ps -/
inductive TLs (H : Hp) : List Addr → List (List Nat) → Prop where
  | nil : TLs H [] []
  | cons {a : Addr} {ps : List Addr} {b : List Nat} {xs : List (List Nat)} (h : H a = some (.tup (b.map fun n : Nat => V.int (n : Int)))) (r : TLs H ps xs) : TLs H (a :: ps) (b :: xs)
theorem TLs.up {H H' : Hp} (e : Ex H H') : ∀ {ps : List Addr} {xs : List (List Nat)}, TLs H ps xs → TLs H' ps xs
  | _, _, .nil => .nil
  | _, _, .cons h r => .cons (e _ _ h) (r.up e)
theorem TLs.len {H : Hp} : ∀ {ps : List Addr} {xs : List (List Nat)}, TLs H ps xs → ps.length = xs.length
  | _, _, .nil => rfl
  | _, _, .cons _ r => congrArg (· + 1) r.len
theorem TLs.at {H : Hp} : ∀ {ps : List Addr} {xs : List (List Nat)}, TLs H ps xs → ∀ {i : Nat} {p : Addr}, ps[i]? = some p → ∃ b, xs[i]? = some b ∧ H p = some (.tup (b.map fun n : Nat => V.int (n : Int)))
  | _, _, .nil, i, p, h => by simp at h
  | _, _, .cons (b := b) h r, 0, p, e => by
    have e' : _ = p := Option.some.inj e
    subst e'
    exact ⟨b, rfl, h⟩
  | _, _, .cons h r, i + 1, p, e => r.at (i := i) e
theorem TLs.app {H : Hp} : ∀ {ps qs : List Addr} {xs ys : List (List Nat)}, TLs H ps xs → TLs H qs ys → TLs H (ps ++ qs) (xs ++ ys)
  | _, _, _, _, .nil, s => s
  | _, _, _, _, .cons h r, s => .cons h (r.app s)
theorem TLs.keep {H : Hp} {D : Addr} {u : HO} : ∀ {ps : List Addr} {xs : List (List Nat)}, TLs H ps xs → (∀ q ∈ ps, q ≠ D) → TLs (upd H D u) ps xs
  | _, _, .nil, _ => .nil
  | _, _, .cons h r, hn => .cons (by rw [L2.upd_ne (hn _ List.mem_cons_self)]; exact h) (r.keep fun q hq => hn q (List.mem_cons_of_mem _ hq))
theorem TLs.ne {H : Hp} {D : Addr} {zs : List V} (hD : H D = some (.lst zs)) : ∀ {ps : List Addr} {xs : List (List Nat)}, TLs H ps xs → ∀ q ∈ ps, q ≠ D
  | _, _, .nil, _, h => absurd h List.not_mem_nil
  | _, _, .cons h r, q, hq => fun e => by
    rcases List.mem_cons.mp hq with z | z
    · rw [← z, e, hD] at h
      cases h
    · exact r.ne hD q z e
/-- lists of whole numbers stand at ps -/
inductive NLs (H : Hp) : List Addr → List (List Nat) → Prop where
  | nil : NLs H [] []
  | cons {a : Addr} {ps : List Addr} {b : List Nat} {xs : List (List Nat)} (h : H a = some (.lst (b.map fun n : Nat => V.int (n : Int)))) (r : NLs H ps xs) : NLs H (a :: ps) (b :: xs)
theorem NLs.up {H H' : Hp} (e : Ex H H') : ∀ {ps : List Addr} {xs : List (List Nat)}, NLs H ps xs → NLs H' ps xs
  | _, _, .nil => .nil
  | _, _, .cons h r => .cons (e _ _ h) (r.up e)
theorem NLs.len {H : Hp} : ∀ {ps : List Addr} {xs : List (List Nat)}, NLs H ps xs → ps.length = xs.length
  | _, _, .nil => rfl
  | _, _, .cons _ r => congrArg (· + 1) r.len
theorem NLs.at {H : Hp} : ∀ {ps : List Addr} {xs : List (List Nat)}, NLs H ps xs → ∀ {i : Nat} {p : Addr}, ps[i]? = some p → ∃ b, xs[i]? = some b ∧ H p = some (.lst (b.map fun n : Nat => V.int (n : Int)))
  | _, _, .nil, i, p, h => by simp at h
  | _, _, .cons (b := b) h r, 0, p, e => by
    have e' : _ = p := Option.some.inj e
    subst e'
    exact ⟨b, rfl, h⟩
  | _, _, .cons h r, i + 1, p, e => r.at (i := i) e
theorem NLs.app {H : Hp} : ∀ {ps qs : List Addr} {xs ys : List (List Nat)}, NLs H ps xs → NLs H qs ys → NLs H (ps ++ qs) (xs ++ ys)
  | _, _, _, _, .nil, s => s
  | _, _, _, _, .cons h r, s => .cons h (r.app s)
theorem NLs.keep {H : Hp} {D : Addr} {u : HO} : ∀ {ps : List Addr} {xs : List (List Nat)}, NLs H ps xs → (∀ q ∈ ps, q ≠ D) → NLs (upd H D u) ps xs
  | _, _, .nil, _ => .nil
  | _, _, .cons h r, hn => .cons (by rw [L2.upd_ne (hn _ List.mem_cons_self)]; exact h) (r.keep fun q hq => hn q (List.mem_cons_of_mem _ hq))
/-- the bounds that the going asks -/
def DlPre (room : List Nat) (many : Nat) : Prop := room.length ≤ 64 ∧ (∀ x ∈ room, x ≤ 64) ∧ many ≤ 64 ∧ many ≤ room.sum ∧ ∀ k, k < room.length → (∀ j, j ≤ k → (dealtK room many j).length ≤ 4000) → (dealtK room many (k + 1)).length ≤ 90000
def sp_dealt (K : PySem.W.Frag) (cs : Cs) : Sp := fun vs H Q E => ∃ (l : Addr) (room : List Nat) (many : Nat), vs = [.ref l, .int (many : Int)] ∧ SqL K H l (room.map fun n : Nat => V.int (n : Int)) ∧ DlPre room many ∧
  (((∃ k, k ≤ room.length ∧ 4000 < (dealtK room many k).length) ∧ ∀ H2, Ex H H2 → E (.ref cs.TooMany) none H2) ∨
  ((∀ k, k ≤ room.length → (dealtK room many k).length ≤ 4000) ∧ ∀ (H' : Hp) (p : Addr) (ps : List Addr), Ex H H' → H' p = some (.lst (ps.map V.ref)) → TLs H' ps (dealtK room many room.length) → upR Q (.ref p) H'))
theorem c_dealt {K : PySem.W.Frag} {cs : Cs} {H : Hp} {l : Addr} {room : List Nat} {many : Nat} {i : Int} {Q : PV} {E : XK} (hi : i = many) (hs : SqL K H l (room.map fun n : Nat => V.int (n : Int))) (hp : DlPre room many)
    (k : ((∃ k, k ≤ room.length ∧ 4000 < (dealtK room many k).length) ∧ ∀ H2, Ex H H2 → E (.ref cs.TooMany) none H2) ∨
      ((∀ k, k ≤ room.length → (dealtK room many k).length ≤ 4000) ∧ ∀ (H' : Hp) (p : Addr) (ps : List Addr), Ex H H' → H' p = some (.lst (ps.map V.ref)) → TLs H' ps (dealtK room many room.length) → Q (.ref p) H')) : kC (fun ws H Q => sp_dealt K cs ws H Q E) [.ref l, .int i] H Q := by
  subst hi
  exact fun H1 e _ q => ⟨l, room, many, rfl, e.sl hs, hp, k.imp (fun ⟨h1, h2⟩ => ⟨h1, fun H2 e2 => h2 H2 (e.tr e2)⟩) fun ⟨h1, h2⟩ => ⟨h1, fun H' p ps e1 h3 h4 H2 e2 => q _ _ _ (h2 H' p ps (e.tr e1) h3 h4) e2⟩⟩
theorem pure_dealt {K : PySem.W.Frag} {cs : Cs} {H : Hp} {vs : List V} {Q : VK} {E : XK} (h : sp_dealt K cs vs H Q E) : t_dealt K cs E { nx := fun _ H' => Q .non H', rt := Q } (start ["room", "many", "found", "at", "most", "rest", "longer", "one", "left", "here"] vs) H := by
  obtain ⟨l, room, many, rfl, hs, ⟨hr1, hr2, hm, hmr, hpre⟩, w⟩ := h
  refine fin (σ := [some (.ref l), some (.int (many : Int)), none, none, none, none, none, none, none, none]) ?_
  unfold t_dealt
  k_clsL
  rename_i t0 ht0 f0 hf0
  refine s_for ?_
  k_clsL
  refine ⟨fun i s H1 => Ex H H1 ∧ (∀ j, j ≤ i → (dealtK room many j).length ≤ 4000) ∧ ∃ f ps z3 z4 z5 z6 z7 z8, s = [some (.ref l), some (.int (many : Int)), some (.ref f), z3, z4, z5, z6, z7, z8, none] ∧ H1 f = some (.lst (ps.map V.ref)) ∧ TLs H1 ps (dealtK room many i), ⟨(Ex.news ht0).newr hf0, fun j hj => ?_, f0, [t0], none, none, none, none, none, none, rfl, upd_same, .cons (b := []) (at_new hf0 upd_same) .nil⟩, fun i s H1 _ h => h.1.sl hs, ?_, ?_⟩
  · have : j = 0 := by omega
    subst this
    simp [dealtK]
  · rintro i s H1 hi ⟨e1, hlen, f, ps, z3, z4, z5, z6, z7, z8, rfl, hf1, hT⟩ T x z hTn hx hz
    have hi2 : i < room.length := by simpa using hi
    have hx : V.int (i : Nat) = x := Option.some.inj hx
    have hz : (room.map fun n : Nat => V.int (n : Int))[i]? = some z := hz
    rw [List.getElem?_map, List.getElem?_eq_getElem hi2] at hz
    have hz : V.int ((room[i] : Nat) : Int) = z := Option.some.inj hz
    subst hx hz
    have hgr : room.getD i 0 = room[i] := by rw [List.getD_eq_getElem?_getD, List.getElem?_eq_getElem hi2]; rfl
    have hr64 := hr2 _ (List.getElem_mem hi2)
    have hsT := (e1.newr (o := .tup [.int (i : Nat), .int ((room[i] : Nat) : Int)]) hTn).sl hs
    k_clsL
    intro sl hsl
    have hcut : cutV (room.map fun n : Nat => V.int (n : Int)) (some (((i : Nat) : Int) + 1)) none = (room.drop (i + 1)).map fun n : Nat => V.int (n : Int) := by
      have := cutD (xs := room.map fun n : Nat => V.int (n : Int)) (n := i + 1) (by rw [List.length_map]; omega)
      rw [← List.map_drop] at this
      exact this
    rw [hcut]
    k_clsL
    refine c_sum (ns := nI (room.drop (i + 1))) (SqL.of (by rw [nI_v]; exact upd_same)) ?_
    rw [nI_sum]
    have eX : Ex H1 (upd (upd H1 T (.tup [.int (i : Nat), .int ((room[i] : Nat) : Int)])) sl (.lst ((room.drop (i + 1)).map fun n : Nat => V.int (n : Int)))) := (Ex.news hTn).newr hsl
    generalize upd (upd H1 T (.tup [.int (i : Nat), .int ((room[i] : Nat) : Int)])) sl (.lst ((room.drop (i + 1)).map fun n : Nat => V.int (n : Int))) = H2 at *
    have hf2 := eX _ _ hf1
    have hT2 := hT.up eX
    have e2 := e1.tr eX
    clear hsT hT hf1 e1 eX hTn hsl
    k_clsL
    rename_i g hg
    have hgf : g ≠ f := fun e => by rw [e, hf2] at hg; cases hg
    have hokA := dealt_ok hmr i (by omega)
    refine s_for ?_
    k_clsL
    refine ⟨fun j s H3 => Ex H2 H3 ∧ ∃ qs z7 z8, s = [some (.ref l), some (.int (many : Int)), some (.ref f), some (.int ((i : Nat) : Int)), some (.int ((room[i] : Nat) : Int)), some (.int (((room.drop (i + 1)).sum : Nat) : Int)), some (.ref g), z7, z8, none] ∧ H3 g = some (.lst (qs.map V.ref)) ∧ TLs H3 qs (((dealtK room many i).take j).flatMap (dlN room many i)), ⟨Ex.news hg, [], z7, z8, rfl, upd_same, .nil⟩, fun j s H3 _ h => SqL.of (h.1 _ _ hf2), ?_, ?_⟩
    · rintro j s H3 hj ⟨e3, qs, z7, z8, rfl, hg3, hT3⟩ x hx
      have hj2 : j < ps.length := by simpa using hj
      rw [List.getElem?_map, List.getElem?_eq_getElem hj2] at hx
      have hx : V.ref ps[j] = x := Option.some.inj hx
      subst hx
      obtain ⟨one, ho1, ho2⟩ := hT2.at (List.getElem?_eq_getElem hj2)
      obtain ⟨q1, q2, q3, q4⟩ := hokA one (List.mem_of_getElem? ho1)
      have ho3 := e3 _ _ ho2
      refine g_name ?_
      k_clsL
      refine c_sumT (ns := nI one) (SqT.of (by rw [nI_v]; exact ho3)) ?_
      rw [nI_sum]
      k_clsL
      refine e_lc ?_
      k_clsL
      have hlo : dlLo room many i one = (many - one.sum) - (room.drop (i + 1)).sum := rfl
      have hhi : dlHi room many i one = min room[i] (many - one.sum) := by unfold dlHi; rw [hgr]
      generalize hrs : (room.drop (i + 1)).sum = rsum at *
      generalize room[i] = rm at *
      have hdl : dlN room many i one = (List.range (dlHi room many i one + 1 - dlLo room many i one)).map fun x => one ++ [dlLo room many i one + x] := rfl
      generalize dlLo room many i one = lo at *
      generalize dlHi room many i one = hiN at *
      have ea : (if (many : Int) - (one.sum : Int) - (rsum : Int) > 0 then (many : Int) - (one.sum : Int) - (rsum : Int) else 0) = ((lo : Nat) : Int) := by split <;> omega
      have eb : (if (many : Int) - (one.sum : Int) < (rm : Int) then (many : Int) - (one.sum : Int) else (rm : Int)) + 1 = ((hiN + 1 : Nat) : Int) := by split <;> omega
      rw [ea, eb]
      refine ⟨_, _, hiN + 1 - lo, rfl, by omega, by omega, fun D hD => ⟨fun c H4 => Ex H3 H4 ∧ ∃ rs : List Addr, H4 D = some (.lst (rs.map V.ref)) ∧ TLs H4 rs ((List.range c).map fun x => one ++ [lo + x]), ⟨Ex.news hD, [], upd_same, .nil⟩, fun _ _ _ _ => trivial, ?_, ?_⟩⟩
      · rintro c H4 hc ⟨e4, rs, hD4, hT4⟩
        refine g_name ⟨rfl, t_yes ⟨fun _ => ?_, fun h => by cases h⟩⟩
        k_clsL
        rename_i t1 ht1
        have ho4 : H4 ps[j] = some (.tup (one.map fun n : Nat => V.int (n : Int))) := e4 _ _ ho3
        refine r_catA (Ex.news ht1 _ _ ho4) upd_same (by simp) (Nat.le_trans (m := 100) (by simp; omega) (by decide)) fun r H5 e5 hr5 => ?_
        have e45 : Ex H4 H5 := (Ex.news ht1).tr e5
        have hD5 := e45 _ _ hD4
        have hT5 := hT4.up e45
        have hrD : r ≠ D := fun e => by
          rw [e, hD5] at hr5
          cases hr5
        have hnn : ((lo + c : Nat) : Int) = (lo : Int) + (c : Int) := by omega
        refine ⟨rs.map V.ref, _, hD5, ?_, ⟨(e4.tr e45).mutr hD, rs ++ [r], ?_, ?_⟩, Ex.rf⟩
        · rw [List.length_map, hT4.len, List.length_map, List.length_range]
          exact Nat.lt_of_le_of_lt (by omega : c ≤ 200) (by decide)
        · rw [List.map_append]
          exact upd_same
        · rw [List.range_succ, List.map_append]
          refine TLs.app (hT5.keep (hT5.ne hD5)) (.cons ?_ .nil)
          rw [L2.upd_ne hrD, hr5]
          simp
      · rintro H4 ⟨e4, rs, hD4, hT4⟩
        rw [← hdl] at hT4
        have hg4 := e4 _ _ hg3
        have hTa := TLs.app (hT3.up e4) hT4
        have htk : (dealtK room many i).take (j + 1) = (dealtK room many i).take j ++ [one] := by
          rw [List.take_succ, ho1]
          rfl
        have hTb : TLs H4 (qs ++ rs) (((dealtK room many i).take (j + 1)).flatMap (dlN room many i)) := by
          rw [htk, List.flatMap_append]
          simpa using hTa
        have hbd : (qs ++ rs).length ≤ 90000 := by
          rw [hTb.len]
          exact Nat.le_trans flat_take (hpre i hi2 hlen)
        rw [List.length_append] at hbd
        k_clsL
        refine m_extend (xs := qs.map V.ref) (zs := rs.map V.ref) hg4 hD4 (by rw [List.length_map, List.length_map]; omega) ?_
        refine ⟨_, ⟨(e3.tr e4).mutr hg, qs ++ rs, _, _, rfl, ?_, hTb.keep (hTb.ne hg4)⟩, Ex.rf⟩
        rw [List.map_append]
        exact upd_same
    · rintro s H3 ⟨e3, qs, z7, z8, rfl, hg3, hT3⟩
      rw [List.length_map, List.take_of_length_le (Nat.le_of_eq hT2.len.symm)] at hT3
      have hT3 : TLs H3 qs (dealtK room many (i + 1)) := hT3
      have hql : (qs.map V.ref).length = (dealtK room many (i + 1)).length := by rw [List.length_map, hT3.len]
      k_clsL
      rw [hql]
      k_clsL
      refine ⟨fun h => ?_, fun h => ?_⟩
      · have h : 4000 < (dealtK room many (i + 1)).length := by have := of_decide_eq_true h; omega
        rcases w with ⟨_, w⟩ | ⟨w, _⟩
        · exact s_raise fun H5 e5 => w H5 ((e2.tr e3).tr e5)
        · exact absurd (w (i + 1) hi2) (by omega)
      · have h : ¬ 4000 < (dealtK room many (i + 1)).length := by have := of_decide_eq_false h; omega
        k_clsL
        refine ⟨_, ⟨e2.tr e3, fun k hk => ?_, g, qs, _, _, _, _, _, _, rfl, hg3, hT3⟩, Ex.rf⟩
        by_cases z : k ≤ i
        · exact hlen k z
        · have : k = i + 1 := by omega
          subst this
          omega
  · rintro s H1 ⟨e1, hlen, f, ps, z3, z4, z5, z6, z7, z8, rfl, hf1, hT⟩
    rw [List.length_map] at hlen hT
    k_clsL
    rcases w with ⟨⟨k, hk, hk2⟩, _⟩ | ⟨_, w⟩
    · exact absurd (hlen k hk) (by omega)
    · exact w H1 f ps e1 hf1 hT
theorem ok_dealt {P : Program} {w : World} {K : PySem.W.Frag} {mg : Str → Option Value} {base : Heap} {cs : Cs} (D_dealt : Dn K mg "dealt" s_dealt ["room", "many"]) (m_enumerate : mg "enumerate" = none) (m_sum : mg "sum" = none) (m_range : mg "range" = none) (m_max : mg "max" = none) (m_min : mg "min" = none) (m_len : mg "len" = none) (k_MOST_WAYS : ∃ t, mg "MOST_WAYS" = some (.int 4000 t)) (x_TooMany : ExcT K mg "TooMany" cs.TooMany) :
    Cal P w K mg base (L2N.CX P w) 1 "dealt" ["room", "many"] (sp_dealt K cs) := by
  refine cal_mk D_dealt sc_dealt (fun vs H Q E h => ?_) fun f cdv A outer s H vs Q E hr h => ⟨t_dealt K cs E, ?_, pure_dealt h⟩
  · unfold sp_dealt at h
    first | (obtain ⟨rfl, _⟩ := h; rfl) | (obtain ⟨_, rfl, _⟩ := h; rfl) | (obtain ⟨_, _, rfl, _⟩ := h; rfl) | (obtain ⟨_, _, _, rfl, _⟩ := h; rfl) | (obtain ⟨_, _, _, _, rfl, _⟩ := h; rfl) | (obtain ⟨_, _, _, _, _, rfl, _⟩ := h; rfl) | (obtain ⟨_, _, _, _, _, _, rfl, _⟩ := h; rfl) | (obtain ⟨_, _, _, _, _, _, _, rfl, _⟩ := h; rfl) | (obtain ⟨_, _, _, _, _, _, _, _, rfl, _⟩ := h; rfl) | (obtain ⟨_, _, _, _, _, _, _, _, _, rfl, _⟩ := h; rfl) | (obtain ⟨_, _, _, _, _, _, _, _, _, _, rfl, _⟩ := h; rfl) | (obtain ⟨_, _, _, _, _, _, _, _, _, _, _, rfl, _⟩ := h; rfl) | (obtain ⟨_, _, _, _, _, _, _, _, _, _, _, _, rfl, _⟩ := h; rfl) | (obtain ⟨_, _, _, _, _, _, _, _, _, _, _, _, _, rfl, _⟩ := h; rfl) | (obtain ⟨_, _, _, _, _, _, _, _, _, _, _, _, _, _, rfl, _⟩ := h; rfl) | (obtain ⟨_, _, _, _, _, _, _, _, _, _, _, _, _, _, _, rfl, _⟩ := h; rfl)
  · exact (pss_cons (ps_set (i := 2) sc_dealt.nd rfl (Or.inl sc_dealt_v2) (pe_lst (pa_cons (pe_tup pa_nil) pa_nil)))
      (pss_cons (ps_for (passes_of rfl) rfl (pi_enum (by rfl) m_enumerate (pa_cons (pv 0) pa_nil)) (pg_tup rfl (pgs_cons (pg_name (i := 3) sc_dealt.nd rfl (Or.inl sc_dealt_v3)) (pgs_cons (pg_name (i := 4) sc_dealt.nd rfl (Or.inl sc_dealt_v4)) pgs_nil)))
      (pss_cons (ps_set (i := 5) sc_dealt.nd rfl (Or.inl sc_dealt_v5) (pe_callB (cr_sum rfl) (by rfl) m_sum (by decide +kernel) (pa_cons (pe_slice sl_list (pv 0) (po_some (pe_op op_add (pv 3) pe_int)) po_none) pa_nil)))
      (pss_cons (ps_set (i := 6) sc_dealt.nd rfl (Or.inl sc_dealt_v6) (pe_lst pa_nil))
      (pss_cons (ps_for (passes_of rfl) rfl (pi_list (pv 2)) (pg_name (i := 7) sc_dealt.nd rfl (Or.inr sc_dealt_v7))
      (pss_cons (ps_set (i := 8) sc_dealt.nd rfl (Or.inl sc_dealt_v8) (pe_op op_sub (pv 1) (pe_callB (cr_sumT rfl) (by rfl) m_sum (by decide +kernel) (pa_cons (pv 7) pa_nil))))
      (pss_one (ps_expr (pe_bm PySem.F.plainAttrs_list PySem.F.slot_list_extend PySem.F.type_list_extend mt_extend (pv 6) (pa_cons (pe_lc (own := [("here", 9)]) (g := (gName 9)) (tt := tYes) (by rfl) sc_dealt.nd (pi_range2 (by rfl) m_range (pa_cons (pe_callB (call_max2 rfl) (by rfl) m_max (by decide +kernel) (pa_cons pe_int (pa_cons (pe_op op_sub (pv 8) (pv 5)) pa_nil))) (pa_cons (pe_op op_add (pe_callB (call_min2 rfl) (by rfl) m_min (by decide +kernel) (pa_cons (pv 4) (pa_cons (pv 8) pa_nil))) pe_int) pa_nil))) (blkOk_by (own := [("here", 9)]) (N := ["room", "many", "found", "at", "most", "rest", "longer", "one", "left", "here"]) (sc := defScope s_dealt) (by decide +kernel)) (fun _ _ _ _ _ => (pg_name (i := 9) sc_dealt.nd rfl (Or.inl rfl))) (fun _ _ _ _ _ => pts_nil) (fun _ _ _ _ _ => (pe_op op_catA (pv 7) (pe_tup (pa_cons (pv 9) pa_nil))))) pa_nil))))))
      (pss_cons (ps_set (i := 2) sc_dealt.nd rfl (Or.inl sc_dealt_v2) (pv 6))
      (pss_one (ps_if (pt_cmpR op_gt (pe_callB call_len_seq (by rfl) m_len (by decide +kernel) (pa_cons (pv 2) pa_nil)) (pe_gI (n := 4000) (by rfl) k_MOST_WAYS) (nomark _))
      (pss_one (ps_raiseT x_TooMany rfl (L2N.takes_of (E := E) rfl rfl rfl rfl) (by rfl)))
      pss_nil)))))))
      (pss_one (ps_ret (pv 2)))))
theorem sc_homes_by : FnScope ["counts", "found", "place", "many"] ["counts"] (defScope s_homes_by) := ⟨rfl, rfl, rfl, by decide +kernel, rfl, by decide +kernel, by decide +kernel⟩
theorem sc_homes_by_v0 : (defScope s_homes_by).names.lookup ("counts" : Str) = some .local := by decide +kernel
theorem sc_homes_by_v1 : (defScope s_homes_by).names.lookup ("found" : Str) = some .local := by decide +kernel
theorem sc_homes_by_v2 : (defScope s_homes_by).names.lookup ("place" : Str) = some .local := by decide +kernel
theorem sc_homes_by_v3 : (defScope s_homes_by).names.lookup ("many" : Str) = some .local := by decide +kernel
def t_homes_by (K : PySem.W.Frag) (cs : Cs) (E : XK) : TS :=
  (tSeq (tAsg (tLst tNil) (gName 1))
  (tSeq (tFor (iEnumA K (tCons (tVar 0) tNil)) (gTup K 2 (gCons (gName 2) (gCons (gName 3) gNil)))
  (tDrop (tBM K "list" rExtend (tVar 1) (tCons (tOp rRep (tLst (tCons (tVar 2) tNil)) (tVar 3)) tNil))))
  (tRet (tVar 1))))
def sp_homes_by (K : PySem.W.Frag) (_ : Cs) : Sp := fun vs H Q _ => ∃ (a : Addr) (c : List Nat), vs = [.ref a] ∧ H a = some (.tup (c.map fun n : Nat => V.int (n : Int))) ∧ c.sum ≤ 64 ∧ ∀ (H' : Hp) (p : Addr), Ex H H' → H p = none → H' p = some (.lst ((homesB c).map fun n : Nat => V.int (n : Int))) → upR Q (.ref p) H'
theorem c_homes_by {K : PySem.W.Frag} {cs : Cs} {H : Hp} {a : Addr} {c : List Nat} {Q : PV} {E : XK} (hs : H a = some (.tup (c.map fun n : Nat => V.int (n : Int)))) (hc : c.sum ≤ 64) (k : ∀ (H' : Hp) (p : Addr), Ex H H' → H p = none → H' p = some (.lst ((homesB c).map fun n : Nat => V.int (n : Int))) → Q (.ref p) H') : kC (fun ws H Q => sp_homes_by K cs ws H Q E) [.ref a] H Q :=
  fun H1 e _ q => ⟨a, c, rfl, e _ _ hs, hc, fun H' p e1 hp h1 H2 e2 => q _ _ _ (k H' p (e.tr e1) (e.fresh hp) h1) e2⟩
theorem le_sum_getD : ∀ {l : List Nat} {i : Nat}, l.getD i 0 ≤ l.sum
  | [], i => by simp
  | x :: l, 0 => by simp
  | x :: l, i + 1 => by
    have := le_sum_getD (l := l) (i := i)
    simp only [List.sum_cons]
    have e : (x :: l).getD (i + 1) 0 = l.getD i 0 := by simp
    omega
theorem rep_pre_le {c : List Nat} {i : Nat} (h : i ≤ c.length) : ((List.range i).flatMap fun p => List.replicate (c.getD p 0) p).length ≤ c.sum := by
  rw [← homesB_len, homesB]
  have e : List.range i = (List.range c.length).take i := by rw [List.take_range, Nat.min_eq_left h]
  rw [e]
  exact flat_take
theorem pure_homes_by {K : PySem.W.Frag} {cs : Cs} {H : Hp} {vs : List V} {Q : VK} {E : XK} (h : sp_homes_by K cs vs H Q E) : t_homes_by K cs E { nx := fun _ H' => Q .non H', rt := Q } (start ["counts", "found", "place", "many"] vs) H := by
  obtain ⟨a, c, rfl, hs, hc, q⟩ := h
  refine fin (σ := [some (.ref a), none, none, none]) ?_
  unfold t_homes_by
  k_clsL
  rename_i f hf
  refine s_for ?_
  k_clsL
  refine ⟨a, _, H, rfl, Ex.news hf, .inr (SqT.of hs), fun G hG => ⟨fun i s H1 => Ex H H1 ∧ ∃ z2 z3, s = [some (.ref a), some (.ref f), z2, z3] ∧ H1 f = some (.lst (((List.range i).flatMap fun p => List.replicate (c.getD p 0) p).map fun n : Nat => V.int (n : Int))), ⟨Ex.news hf, none, none, rfl, upd_same⟩, fun i s H1 _ hw => hG _ hw.1, ?_, ?_⟩⟩
  · rintro i s H1 hi ⟨e1, z2, z3, rfl, hf1⟩ T x z hT hx hz
    have hi2 : i < c.length := by simpa using hi
    have hx : V.int (i : Nat) = x := Option.some.inj hx
    have hz : (c.map fun n : Nat => V.int (n : Int))[i]? = some z := hz
    rw [List.getElem?_map, List.getElem?_eq_getElem hi2] at hz
    have hz : V.int ((c[i] : Nat) : Int) = z := Option.some.inj hz
    subst hx hz
    have hgd : c.getD i 0 = c[i] := by rw [List.getD_eq_getElem?_getD, List.getElem?_eq_getElem hi2]; rfl
    have hle := le_sum_getD (l := c) (i := i)
    have hpre := rep_pre_le (c := c) (i := i) (by omega)
    have hf2 : (upd H1 T (.tup [.int (i : Nat), .int ((c[i] : Nat) : Int)])) f = some (.lst (((List.range i).flatMap fun p => List.replicate (c.getD p 0) p).map fun n : Nat => V.int (n : Int))) := at_new hT hf1
    have e2 : Ex H (upd H1 T (.tup [.int (i : Nat), .int ((c[i] : Nat) : Int)])) := e1.newr hT
    k_clsL
    generalize upd H1 T (.tup [.int (i : Nat), .int ((c[i] : Nat) : Int)]) = H2 at *
    rename_i l1 hl1
    refine r_rep1 (x := .int (i : Nat)) (n := c[i]) upd_same (by omega) fun r hr => ?_
    have hf3 : (upd (upd H2 l1 (.lst [.int (i : Nat)])) r (.lst (List.replicate c[i] (.int (i : Nat))))) f = some (.lst (((List.range i).flatMap fun p => List.replicate (c.getD p 0) p).map fun n : Nat => V.int (n : Int))) := at_new hr (at_new hl1 hf2)
    have e3 : Ex H (upd (upd H2 l1 (.lst [.int (i : Nat)])) r (.lst (List.replicate c[i] (.int (i : Nat))))) := (e2.newr hl1).newr hr
    k_clsL
    refine m_extend hf3 upd_same (by rw [List.length_map, List.length_replicate]; omega) ?_
    refine ⟨_, ⟨e3.mutr hf, _, _, rfl, ?_⟩, Ex.rf⟩
    rw [upd_same, List.range_succ, List.flatMap_append, List.map_append]
    simp only [List.flatMap_cons, List.flatMap_nil, List.append_nil, hgd, List.map_replicate]
  · rintro s H1 ⟨e1, z2, z3, rfl, hf1⟩
    rw [List.length_map] at hf1
    k_clsL
    exact q H1 f e1 hf hf1
theorem ok_homes_by {P : Program} {w : World} {K : PySem.W.Frag} {mg : Str → Option Value} {base : Heap} {cs : Cs} (D_homes_by : Dn K mg "homes_by" s_homes_by ["counts"]) (m_enumerate : mg "enumerate" = none) :
    Cal P w K mg base (L2N.CX P w) 1 "homes_by" ["counts"] (sp_homes_by K cs) := by
  refine cal_mk D_homes_by sc_homes_by (fun vs H Q E h => ?_) fun f cdv A outer s H vs Q E hr h => ⟨t_homes_by K cs E, ?_, pure_homes_by h⟩
  · unfold sp_homes_by at h
    first | (obtain ⟨rfl, _⟩ := h; rfl) | (obtain ⟨_, rfl, _⟩ := h; rfl) | (obtain ⟨_, _, rfl, _⟩ := h; rfl) | (obtain ⟨_, _, _, rfl, _⟩ := h; rfl) | (obtain ⟨_, _, _, _, rfl, _⟩ := h; rfl) | (obtain ⟨_, _, _, _, _, rfl, _⟩ := h; rfl) | (obtain ⟨_, _, _, _, _, _, rfl, _⟩ := h; rfl) | (obtain ⟨_, _, _, _, _, _, _, rfl, _⟩ := h; rfl) | (obtain ⟨_, _, _, _, _, _, _, _, rfl, _⟩ := h; rfl) | (obtain ⟨_, _, _, _, _, _, _, _, _, rfl, _⟩ := h; rfl) | (obtain ⟨_, _, _, _, _, _, _, _, _, _, rfl, _⟩ := h; rfl) | (obtain ⟨_, _, _, _, _, _, _, _, _, _, _, rfl, _⟩ := h; rfl) | (obtain ⟨_, _, _, _, _, _, _, _, _, _, _, _, rfl, _⟩ := h; rfl) | (obtain ⟨_, _, _, _, _, _, _, _, _, _, _, _, _, rfl, _⟩ := h; rfl) | (obtain ⟨_, _, _, _, _, _, _, _, _, _, _, _, _, _, rfl, _⟩ := h; rfl) | (obtain ⟨_, _, _, _, _, _, _, _, _, _, _, _, _, _, _, rfl, _⟩ := h; rfl)
  · exact (pss_cons (ps_set (i := 1) sc_homes_by.nd rfl (Or.inl sc_homes_by_v1) (pe_lst pa_nil))
      (pss_cons (ps_for (passes_of rfl) rfl (pi_enumA (by rfl) m_enumerate (pa_cons (pv 0) pa_nil)) (pg_tup rfl (pgs_cons (pg_name (i := 2) sc_homes_by.nd rfl (Or.inl sc_homes_by_v2)) (pgs_cons (pg_name (i := 3) sc_homes_by.nd rfl (Or.inl sc_homes_by_v3)) pgs_nil)))
      (pss_one (ps_expr (pe_bm PySem.F.plainAttrs_list PySem.F.slot_list_extend PySem.F.type_list_extend mt_extend (pv 1) (pa_cons (pe_op op_rep (pe_lst (pa_cons (pv 2) pa_nil)) (pv 3)) pa_nil)))))
      (pss_one (ps_ret (pv 1)))))
theorem sc_laid : FnScope ["homes", "size", "found", "number", "place"] ["homes", "size"] (defScope s_laid) := ⟨rfl, rfl, rfl, by decide +kernel, rfl, by decide +kernel, by decide +kernel⟩
theorem sc_laid_v0 : (defScope s_laid).names.lookup ("homes" : Str) = some .local := by decide +kernel
theorem sc_laid_v1 : (defScope s_laid).names.lookup ("size" : Str) = some .local := by decide +kernel
theorem sc_laid_v2 : (defScope s_laid).names.lookup ("found" : Str) = some .local := by decide +kernel
theorem sc_laid_v3 : (defScope s_laid).names.lookup ("number" : Str) = some .local := by decide +kernel
theorem sc_laid_v4 : (defScope s_laid).names.lookup ("place" : Str) = some .local := by decide +kernel
def t_laid (K : PySem.W.Frag) (cs : Cs) (E : XK) : TS :=
  (tSeq (tAsg (tOp rRep (tLst (tCons (tC .non) tNil)) (tVar 1)) (gName 2))
  (tSeq (tFor (iEnumA K (tCons (tVar 0) tNil)) (gTup K 2 (gCons (gName 3) (gCons (gName 4) gNil)))
  (tSeq (tWhile (tTest (tOp rNotNone (tOp (rIxL K) (tVar 2) (tVar 4)) (tC .non)))
  (tAsg (tOp (rI (fun _ j => 0 < j) fun i j => .int (i % j)) (tOp (rI0 fun i j => .int (i + j)) (tVar 4) (tC (.int 1))) (tVar 1)) (gName 4)))
  (tAsg (tVar 3) (gSub (tVar 2) (tVar 4) rSetL))))
  (tRet (tVar 2))))
/-- taken places of a row, as a list no longer than its turns -/
theorem laidI_occ (size : Nat) (homes : List Nat) : ∀ i, ∃ occ : List Nat, occ.length ≤ i ∧ ∀ j, j < size → frO (laidI size homes i) j = false → j ∈ occ
  | 0 => ⟨[], Nat.le_refl _, fun j hj h => by
    unfold frO laidI at h
    rw [List.getD_eq_getElem?_getD, List.getElem?_replicate] at h
    simp [hj] at h⟩
  | i + 1 => by
    obtain ⟨occ, h1, h2⟩ := laidI_occ size homes i
    refine ⟨prb (frO (laidI size homes i)) size size (homes.getD i 0) :: occ, by simp; omega, fun j hj h => ?_⟩
    by_cases e : j = prb (frO (laidI size homes i)) size size (homes.getD i 0)
    · exact e ▸ List.mem_cons_self
    · refine List.mem_cons_of_mem _ (h2 j hj ?_)
      unfold frO at h ⊢
      rw [laidI, List.getD_eq_getElem?_getD, List.getElem?_set_ne (Ne.symm e), ← List.getD_eq_getElem?_getD] at h
      exact h
theorem laidI_len (size : Nat) (homes : List Nat) : ∀ i, (laidI size homes i).length = size
  | 0 => by simp [laidI]
  | i + 1 => by rw [laidI, List.length_set, laidI_len size homes i]
def sp_laid (K : PySem.W.Frag) (_ : Cs) : Sp := fun vs H Q _ => ∃ (a : Addr) (homes : List Nat) (size : Nat), vs = [.ref a, .int (size : Int)] ∧ (SqL K H a (homes.map fun n : Nat => V.int (n : Int)) ∨ SqT K H a (homes.map fun n : Nat => V.int (n : Int))) ∧ 0 < size ∧ size ≤ 64 ∧ homes.length ≤ size ∧ (∀ h ∈ homes, h < size) ∧
  ∀ (H' : Hp) (p : Addr), Ex H H' → H p = none → H' p = some (.lst ((laidI size homes homes.length).map oV)) → upR Q (.ref p) H'
theorem c_laid {K : PySem.W.Frag} {cs : Cs} {H : Hp} {a : Addr} {homes : List Nat} {size : Nat} {i : Int} {Q : PV} {E : XK} (hi : i = size) (hs : SqL K H a (homes.map fun n : Nat => V.int (n : Int)) ∨ SqT K H a (homes.map fun n : Nat => V.int (n : Int))) (h0 : 0 < size) (h6 : size ≤ 64) (hl : homes.length ≤ size) (hh : ∀ h ∈ homes, h < size)
    (k : ∀ (H' : Hp) (p : Addr), Ex H H' → H p = none → H' p = some (.lst ((laidI size homes homes.length).map oV)) → Q (.ref p) H') : kC (fun ws H Q => sp_laid K cs ws H Q E) [.ref a, .int i] H Q := by
  subst hi
  exact fun H1 e _ q => ⟨a, homes, size, rfl, hs.imp e.sl e.st, h0, h6, hl, hh, fun H' p e1 hp h1 H2 e2 => q _ _ _ (k H' p (e.tr e1) (e.fresh hp) h1) e2⟩
theorem pure_laid {K : PySem.W.Frag} {cs : Cs} {H : Hp} {vs : List V} {Q : VK} {E : XK} (h : sp_laid K cs vs H Q E) : t_laid K cs E { nx := fun _ H' => Q .non H', rt := Q } (start ["homes", "size", "found", "number", "place"] vs) H := by
  obtain ⟨a, homes, size, rfl, hs, h0, h6, hl, hh, q⟩ := h
  refine fin (σ := [some (.ref a), some (.int (size : Int)), none, none, none]) ?_
  unfold t_laid
  k_clsL
  rename_i a1 ha1
  refine r_rep1 (x := .non) (n := size) (by k_memK) (by omega) fun f hf => ?_
  k_clsL
  refine s_for ?_
  k_clsL
  have ef : Ex H (upd (upd H a1 (.lst [.non])) f (.lst (List.replicate size .non))) := by k_offL
  refine ⟨a, _, H, rfl, ef, hs, fun G hG => ⟨fun i s H1 => Ex (upd H a1 (.lst [.non])) H1 ∧ ∃ z3 z4, s = [some (.ref a), some (.int (size : Int)), some (.ref f), z3, z4] ∧ H1 f = some (.lst ((laidI size homes i).map oV)), ⟨by k_offL, none, none, rfl, ?_⟩, ?_, ?_, ?_⟩⟩
  · rw [upd_same]
    simp [laidI, oV]
  · exact fun i s H1 _ hw => hG _ ((Ex.news ha1).tr hw.1)
  · rintro i s H1 hi ⟨e1, z3, z4, rfl, hf1⟩ T x z hT hx hz
    have hi2 : i < homes.length := by simpa using hi
    have hx : V.int (i : Nat) = x := Option.some.inj hx
    have hz : (homes.map fun n : Nat => V.int (n : Int))[i]? = some z := hz
    rw [List.getElem?_map, List.getElem?_eq_getElem hi2] at hz
    have hz : V.int ((homes[i] : Nat) : Int) = z := Option.some.inj hz
    subst hx hz
    have hhi := hh _ (List.getElem_mem hi2)
    have hgi : homes.getD i 0 = homes[i] := by rw [List.getD_eq_getElem?_getD, List.getElem?_eq_getElem hi2]; rfl
    have hlen := laidI_len size homes i
    obtain ⟨occ, ho1, ho2⟩ := laidI_occ size homes i
    have htf : frO (laidI size homes i) (prb (frO (laidI size homes i)) size size homes[i]) = true := prb_free _ _ hhi (free_some h0 occ (by omega) ho2)
    have htl : prb (frO (laidI size homes i)) size size homes[i] < size := prb_lt h0 _ _ hhi
    have hnext : laidI size homes (i + 1) = (laidI size homes i).set (prb (frO (laidI size homes i)) size size homes[i]) (some i) := by rw [laidI, hgi]
    k_clsL
    generalize htg : prb (frO (laidI size homes i)) size size homes[i] = tg at *
    generalize laidI size homes i = L at *
    refine s_while (fun k s' H2 => Ex (upd H1 T (.tup [.int (i : Nat), .int ((homes[i] : Nat) : Int)])) H2 ∧ ∃ p : Nat, p < size ∧ prb (frO L) size k p = tg ∧ s' = [some (.ref a), some (.int (size : Int)), some (.ref f), some (.int (i : Nat)), some (.int (p : Int))]) size ⟨Ex.rf, homes[i], hhi, htg, rfl⟩ ?_
    rintro k s' H2 ⟨e2, p, hp, hpt, rfl⟩
    have hf2 := e2 _ _ (Ex.news hT _ _ hf1)
    k_clsL
    refine r_ixL (SqL.of hf2) (atI_nat (frO_at (by omega))) ?_
    k_clsL
    cases hg : L.getD p none with
    | none =>
      show kR rNotNone .non .non _ _
      k_clsL
      have hfp : frO L p = true := by unfold frO; rw [hg]; rfl
      have ept : p = tg := by
        rw [← hpt]
        cases k with
        | zero => rfl
        | succ k => unfold prb; rw [if_pos hfp]
      subst ept
      refine g_subL ?_
      k_clsL
      refine ⟨f, _, _, p, rfl, rfl, hf2, ?_, ?_⟩
      · rw [List.length_map, hlen]
        exact ixN_nat htl
      · refine ⟨_, ⟨?_, _, _, rfl, ?_⟩, Ex.rf⟩
        · exact Ex.mutr (e1.tr ((Ex.news hT).tr e2)) hf
        · rw [upd_same, hnext, List.map_set]
          rfl
    | some v =>
      show kR rNotNone (.int (v : Int)) .non _ _
      k_clsL
      have hfp : ¬ frO L p = true := by unfold frO; rw [hg]; simp
      cases k with
      | zero =>
        have : p = tg := hpt
        rw [this] at hfp
        exact absurd htf hfp
      | succ k =>
        refine ⟨k, _, by omega, ⟨e2, (p + 1) % size, Nat.mod_lt _ h0, ?_, ?_⟩, Ex.rf⟩
        · rw [← hpt, prb, if_neg hfp]
        · rfl
  · rintro s H1 ⟨e1, z3, z4, rfl, hf1⟩
    rw [List.length_map] at hf1
    k_clsL
    exact q H1 f ((Ex.news ha1).tr e1) (Ex.fresh (Ex.news ha1) hf) hf1
theorem ok_laid {P : Program} {w : World} {K : PySem.W.Frag} {mg : Str → Option Value} {base : Heap} {cs : Cs} (D_laid : Dn K mg "laid" s_laid ["homes", "size"]) (m_enumerate : mg "enumerate" = none) :
    Cal P w K mg base (L2N.CX P w) 1 "laid" ["homes", "size"] (sp_laid K cs) := by
  refine cal_mk D_laid sc_laid (fun vs H Q E h => ?_) fun f cdv A outer s H vs Q E hr h => ⟨t_laid K cs E, ?_, pure_laid h⟩
  · unfold sp_laid at h
    first | (obtain ⟨rfl, _⟩ := h; rfl) | (obtain ⟨_, rfl, _⟩ := h; rfl) | (obtain ⟨_, _, rfl, _⟩ := h; rfl) | (obtain ⟨_, _, _, rfl, _⟩ := h; rfl) | (obtain ⟨_, _, _, _, rfl, _⟩ := h; rfl) | (obtain ⟨_, _, _, _, _, rfl, _⟩ := h; rfl) | (obtain ⟨_, _, _, _, _, _, rfl, _⟩ := h; rfl) | (obtain ⟨_, _, _, _, _, _, _, rfl, _⟩ := h; rfl) | (obtain ⟨_, _, _, _, _, _, _, _, rfl, _⟩ := h; rfl) | (obtain ⟨_, _, _, _, _, _, _, _, _, rfl, _⟩ := h; rfl) | (obtain ⟨_, _, _, _, _, _, _, _, _, _, rfl, _⟩ := h; rfl) | (obtain ⟨_, _, _, _, _, _, _, _, _, _, _, rfl, _⟩ := h; rfl) | (obtain ⟨_, _, _, _, _, _, _, _, _, _, _, _, rfl, _⟩ := h; rfl) | (obtain ⟨_, _, _, _, _, _, _, _, _, _, _, _, _, rfl, _⟩ := h; rfl) | (obtain ⟨_, _, _, _, _, _, _, _, _, _, _, _, _, _, rfl, _⟩ := h; rfl) | (obtain ⟨_, _, _, _, _, _, _, _, _, _, _, _, _, _, _, rfl, _⟩ := h; rfl)
  · exact (pss_cons (ps_set (i := 2) sc_laid.nd rfl (Or.inl sc_laid_v2) (pe_op op_rep (pe_lst (pa_cons pe_non pa_nil)) (pv 1)))
      (pss_cons (ps_for (passes_of rfl) rfl (pi_enumA (by rfl) m_enumerate (pa_cons (pv 0) pa_nil)) (pg_tup rfl (pgs_cons (pg_name (i := 3) sc_laid.nd rfl (Or.inl sc_laid_v3)) (pgs_cons (pg_name (i := 4) sc_laid.nd rfl (Or.inl sc_laid_v4)) pgs_nil)))
      (pss_cons (ps_while (passes_of rfl) (pt_cmpR op_notN (pe_ix ix_list (pv 2) (pv 4) (fun _ _ => rfl)) pe_non (nomark _))
      (pss_one (ps_set (i := 4) sc_laid.nd rfl (Or.inl sc_laid_v4) (pe_op op_mod (pe_op op_add (pv 4) pe_int) (pv 1)))))
      (pss_one (ps_asg (pv 3) (pg_sub (pv 2) (pv 4) set_list)))))
      (pss_one (ps_ret (pv 2)))))
theorem sc_ways_of : FnScope ["homes", "size", "found", "place", "number"] ["homes", "size"] (defScope s_ways_of) := ⟨rfl, rfl, rfl, by decide +kernel, rfl, by decide +kernel, by decide +kernel⟩
theorem sc_ways_of_v0 : (defScope s_ways_of).names.lookup ("homes" : Str) = some .local := by decide +kernel
theorem sc_ways_of_v1 : (defScope s_ways_of).names.lookup ("size" : Str) = some .local := by decide +kernel
theorem sc_ways_of_v2 : (defScope s_ways_of).names.lookup ("found" : Str) = some .local := by decide +kernel
theorem sc_ways_of_v3 : (defScope s_ways_of).names.lookup ("place" : Str) = some .local := by decide +kernel
theorem sc_ways_of_v4 : (defScope s_ways_of).names.lookup ("number" : Str) = some .local := by decide +kernel
def t_ways_of (K : PySem.W.Frag) (cs : Cs) (E : XK) : TS :=
  (tSeq (tAsg (tC (.int 0)) (gName 2))
  (tSeq (tFor (iEnum K (tCons (tCall (sp_laid K cs) [] E0 (tCons (tVar 0) (tCons (tVar 1) tNil))) tNil)) (gTup K 2 (gCons (gName 3) (gCons (gName 4) gNil)))
  (tIfS (tTest (tOp rNotNone (tVar 4) (tC .non)))
  (tAsg (tOp (rI0 fun i j => .int (i + j)) (tVar 2) (tOp (rI (fun _ j => 0 < j) fun i j => .int (i % j)) (tOp (rI0 fun i j => .int (i - j)) (tVar 3) (tOp (rIxL K) (tVar 0) (tVar 4))) (tVar 1))) (gName 2))
  tNext))
  (tRet (tVar 2))))
theorem wayS_step {size : Nat} {homes : List Nat} {l : List (Option Nat)} {p : Nat} : wayS size homes l (p + 1) = wayS size homes l p + wayAt size homes p (l.getD p none) := rfl
def sp_ways_of (K : PySem.W.Frag) (_ : Cs) : Sp := fun vs H Q _ => ∃ (a : Addr) (homes : List Nat) (size : Nat), vs = [.ref a, .int (size : Int)] ∧ H a = some (.lst (homes.map fun n : Nat => V.int (n : Int))) ∧ 0 < size ∧ size ≤ 64 ∧ homes.length ≤ size ∧ (∀ h ∈ homes, h < size) ∧ upR Q (.int ((wayN size homes : Nat) : Int)) H
theorem c_ways_of {K : PySem.W.Frag} {cs : Cs} {H : Hp} {a : Addr} {homes : List Nat} {size : Nat} {i : Int} {Q : PV} {E : XK} (hi : i = size) (hs : H a = some (.lst (homes.map fun n : Nat => V.int (n : Int)))) (h0 : 0 < size) (h6 : size ≤ 64) (hl : homes.length ≤ size) (hh : ∀ h ∈ homes, h < size) (k : Q (.int ((wayN size homes : Nat) : Int)) H) :
    kC (fun ws H Q => sp_ways_of K cs ws H Q E) [.ref a, .int i] H Q := by
  subst hi
  exact fun H1 e _ q => ⟨a, homes, size, rfl, e _ _ hs, h0, h6, hl, hh, fun H2 e2 => q _ _ _ k (e.tr e2)⟩
theorem pure_ways_of {K : PySem.W.Frag} {cs : Cs} {H : Hp} {vs : List V} {Q : VK} {E : XK} (h : sp_ways_of K cs vs H Q E) : t_ways_of K cs E { nx := fun _ H' => Q .non H', rt := Q } (start ["homes", "size", "found", "place", "number"] vs) H := by
  obtain ⟨a, homes, size, rfl, hs, h0, h6, hl, hh, q⟩ := h
  refine fin (σ := [some (.ref a), some (.int (size : Int)), none, none, none]) ?_
  unfold t_ways_of
  k_clsL
  refine s_for ?_
  k_clsL
  refine c_laid rfl (.inl (SqL.of hs)) h0 h6 hl hh fun H1 p e1 hpn hp => ?_
  have hlen := laidI_len size homes homes.length
  have hval := laidI_val (size := size) (homes := homes) homes.length
  have hN : wayN size homes = wayS size homes (laidI size homes homes.length) size := rfl
  rw [hN] at q
  generalize laidI size homes homes.length = L at *
  k_clsL
  refine ⟨fun i s H2 => Ex H1 H2 ∧ ∃ z3 z4, s = [some (.ref a), some (.int (size : Int)), some (.int ((wayS size homes L i : Nat) : Int)), z3, z4], ⟨Ex.rf, none, none, rfl⟩, fun i s H2 _ hw => SqL.of (hw.1 _ _ hp), ?_, ?_⟩
  · rintro i s H2 hi ⟨e2, z3, z4, rfl⟩ T x z hT hx hz
    have hi2 : i < L.length := by simpa using hi
    have hx : V.int (i : Nat) = x := Option.some.inj hx
    have hz : (L.map oV)[i]? = some z := hz
    rw [frO_at hi2] at hz
    have hz := Option.some.inj hz
    subst hx hz
    have hmem : L.getD i none ∈ L := by
      rw [List.getD_eq_getElem?_getD, List.getElem?_eq_getElem hi2]
      exact List.getElem_mem hi2
    have hst := wayS_step (size := size) (homes := homes) (l := L) (p := i)
    k_clsL
    cases hg : L.getD i none with
    | none =>
      show kR rNotNone .non .non _ _
      k_clsL
      refine ⟨_, ⟨e2, some (.int (i : Nat)), some .non, ?_⟩, Ex.news hT⟩
      rw [hst, hg]
      rfl
    | some v =>
      show kR rNotNone (.int (v : Int)) .non _ _
      have hv : v < homes.length := hval _ hmem v hg
      have hh2 := hh _ (List.getElem_mem hv)
      k_clsL
      refine r_ixL (v := .int ((homes[v] : Nat) : Int)) (SqL.of (Ex.news hT _ _ (e2 _ _ (e1 _ _ hs)))) (atI_nat (by rw [List.getElem?_map, List.getElem?_eq_getElem hv]; rfl)) ?_
      k_clsL
      refine ⟨_, ⟨e2, some (.int (i : Nat)), some (.int (v : Int)), ?_⟩, Ex.news hT⟩
      rw [hst, hg]
      have hd : homes.getD v 0 = homes[v] := by rw [List.getD_eq_getElem?_getD, List.getElem?_eq_getElem hv]; rfl
      have e3 : ((i : Int) - ((homes[v] : Nat) : Int)) % (size : Int) = (((i + size - homes[v]) % size : Nat) : Int) := by
        rw [Int.natCast_emod, show ((i + size - homes[v] : Nat) : Int) = (i : Int) - ((homes[v] : Nat) : Int) + (size : Int) by omega, Int.add_emod_right]
      rw [e3, wayAt, hd]
      rfl
  · rintro s H2 ⟨e2, z3, z4, rfl⟩
    rw [List.length_map, hlen]
    k_clsL
    exact upX q (e1.tr e2)
theorem ok_ways_of {P : Program} {w : World} {K : PySem.W.Frag} {mg : Str → Option Value} {base : Heap} {cs : Cs} (D_ways_of : Dn K mg "ways_of" s_ways_of ["homes", "size"]) (cal_laid : Cal P w K mg base (L2N.CX P w) 1 "laid" ["homes", "size"] (sp_laid K cs)) (m_enumerate : mg "enumerate" = none) :
    Cal P w K mg base (L2N.CX P w) 2 "ways_of" ["homes", "size"] (sp_ways_of K cs) := by
  refine cal_mk D_ways_of sc_ways_of (fun vs H Q E h => ?_) fun f cdv A outer s H vs Q E hr h => ⟨t_ways_of K cs E, ?_, pure_ways_of h⟩
  · unfold sp_ways_of at h
    first | (obtain ⟨rfl, _⟩ := h; rfl) | (obtain ⟨_, rfl, _⟩ := h; rfl) | (obtain ⟨_, _, rfl, _⟩ := h; rfl) | (obtain ⟨_, _, _, rfl, _⟩ := h; rfl) | (obtain ⟨_, _, _, _, rfl, _⟩ := h; rfl) | (obtain ⟨_, _, _, _, _, rfl, _⟩ := h; rfl) | (obtain ⟨_, _, _, _, _, _, rfl, _⟩ := h; rfl) | (obtain ⟨_, _, _, _, _, _, _, rfl, _⟩ := h; rfl) | (obtain ⟨_, _, _, _, _, _, _, _, rfl, _⟩ := h; rfl) | (obtain ⟨_, _, _, _, _, _, _, _, _, rfl, _⟩ := h; rfl) | (obtain ⟨_, _, _, _, _, _, _, _, _, _, rfl, _⟩ := h; rfl) | (obtain ⟨_, _, _, _, _, _, _, _, _, _, _, rfl, _⟩ := h; rfl) | (obtain ⟨_, _, _, _, _, _, _, _, _, _, _, _, rfl, _⟩ := h; rfl) | (obtain ⟨_, _, _, _, _, _, _, _, _, _, _, _, _, rfl, _⟩ := h; rfl) | (obtain ⟨_, _, _, _, _, _, _, _, _, _, _, _, _, _, rfl, _⟩ := h; rfl) | (obtain ⟨_, _, _, _, _, _, _, _, _, _, _, _, _, _, _, rfl, _⟩ := h; rfl)
  · exact (pss_cons (ps_set (i := 2) sc_ways_of.nd rfl (Or.inl sc_ways_of_v2) pe_int)
      (pss_cons (ps_for (passes_of rfl) rfl (pi_enum (by rfl) m_enumerate (pa_cons (pe_cal cal_laid hr (by decide) (by rfl) passN (pa_cons (pv 0) (pa_cons (pv 1) pa_nil))) pa_nil)) (pg_tup rfl (pgs_cons (pg_name (i := 3) sc_ways_of.nd rfl (Or.inl sc_ways_of_v3)) (pgs_cons (pg_name (i := 4) sc_ways_of.nd rfl (Or.inl sc_ways_of_v4)) pgs_nil)))
      (pss_one (ps_if (pt_cmpR op_notN (pv 4) pe_non (nomark _))
      (pss_one (ps_set (i := 2) sc_ways_of.nd rfl (Or.inl sc_ways_of_v2) (pe_op op_add (pv 2) (pe_op op_mod (pe_op op_sub (pv 3) (pe_ix ix_list (pv 0) (pv 4) (fun _ _ => rfl))) (pv 1)))))
      pss_nil)))
      (pss_one (ps_ret (pv 2)))))
theorem sc_worst : FnScope ["rule", "size", "many", "limit", "owned", "key", "best", "far", "keys", "counts", "here", "found", "count", "place"] ["rule", "size", "many", "limit"] (defScope s_worst) := ⟨rfl, rfl, rfl, by decide +kernel, rfl, by decide +kernel, by decide +kernel⟩
theorem sc_worst_v0 : (defScope s_worst).names.lookup ("rule" : Str) = some .local := by decide +kernel
theorem sc_worst_v1 : (defScope s_worst).names.lookup ("size" : Str) = some .local := by decide +kernel
theorem sc_worst_v2 : (defScope s_worst).names.lookup ("many" : Str) = some .local := by decide +kernel
theorem sc_worst_v3 : (defScope s_worst).names.lookup ("limit" : Str) = some .local := by decide +kernel
theorem sc_worst_v4 : (defScope s_worst).names.lookup ("owned" : Str) = some .local := by decide +kernel
theorem sc_worst_v5 : (defScope s_worst).names.lookup ("key" : Str) = some .local := by decide +kernel
theorem sc_worst_v6 : (defScope s_worst).names.lookup ("best" : Str) = some .local := by decide +kernel
theorem sc_worst_v7 : (defScope s_worst).names.lookup ("far" : Str) = some .local := by decide +kernel
theorem sc_worst_v8 : (defScope s_worst).names.lookup ("keys" : Str) = some .local := by decide +kernel
theorem sc_worst_v9 : (defScope s_worst).names.lookup ("counts" : Str) = some .local := by decide +kernel
theorem sc_worst_v10 : (defScope s_worst).names.lookup ("here" : Str) = some .local := by decide +kernel
theorem sc_worst_v11 : (defScope s_worst).names.lookup ("found" : Str) = some .local := by decide +kernel
theorem sc_worst_v12 : (defScope s_worst).names.lookup ("count" : Str) = some .local := by decide +kernel
def t_worst (K : PySem.W.Frag) (cs : Cs) (E : XK) : TS :=
  (tSeq (tDrop (tCall (sp_need_rule K cs) [] E (tCons (tVar 0) tNil)))
  (tSeq (tDrop (tCall (sp_need_size K cs) [] E (tCons (tVar 1) tNil)))
  (tSeq (tDrop (tCall (sp_need_count K cs) [] E (tCons (tVar 2) (tCons (tC (.int 0)) (tCons (tOp (rI0 fun i j => .int (i - j)) (tVar 1) (tC (.int 1))) tNil)))))
  (tSeq (tDrop (tCall (sp_need_count K cs) [] E (tCons (tVar 3) (tCons (tVar 2) (tCons (tC (.int 64)) tNil)))))
  (tSeq (tAsg (tLc (iRng1 (tCons (tVar 1) tNil)) (gName 13) tYes (tLst tNil) [13]) (gName 4))
  (tSeq (tFor (iRng1 (tCons (tVar 3) tNil)) (gName 5)
  (tDrop (tBM K "list" rAppend (tOp (rIxL K) (tVar 4) (tCall (sp_home_of K cs) [] E0 (tCons (tVar 0) (tCons (tVar 5) (tCons (tVar 1) tNil))))) (tCons (tVar 5) tNil))))
  (tSeq (tAsg (tC .non) (gName 6))
  (tSeq (tAsg (tUn (rU fun i => .int (-i)) (tC (.int 1))) (gName 7))
  (tSeq (tFor (iList K (tCall (sp_dealt K cs) [] E (tCons (tLc (iList K (tVar 4)) (gName 8) tYes (tCB (fun xs H Q => ∃ p ys, xs = [V.ref p] ∧ (SqL K H p ys ∨ SqT K H p ys) ∧ Q (.int ys.length) H) (tCons (tVar 8) tNil)) [8]) (tCons (tVar 2) tNil)))) (gName 9)
  (tSeq (tAsg (tCall (sp_ways_of K cs) [] E0 (tCons (tCall (sp_homes_by K cs) [] E0 (tCons (tVar 9) tNil)) (tCons (tVar 1) tNil))) (gName 10))
  (tIfS (tTest (tOp (rI0 fun i j => .bl (decide (j < i))) (tVar 10) (tVar 7)))
  (tSeq (tAsg (tVar 9) (gName 6))
  (tAsg (tVar 10) (gName 7)))
  tNext)))
  (tSeq (tAsg (tLst tNil) (gName 11))
  (tSeq (tFor (iZipM K (tCons (tVar 4) (tCons (tVar 6) tNil))) (gTup K 2 (gCons (gName 8) (gCons (gName 12) gNil)))
  (tDrop (tBM K "list" rExtend (tVar 11) (tCons (tSl (rSlL K) (tVar 8) tNoPart (tPart (tVar 12))) tNil))))
  (tRet (tTup (tCons (tCB (rSortedI K) (tCons (tVar 11) tNil)) (tCons (tVar 7) tNil)))))))))))))))
/-- what worst answers -/
def WorstW (H : Hp) (cs : Cs) (v : V) (i j l : Int) (G : Hp → Addr → Prop) (B : Addr → Str → Prop) : Prop :=
  (NoRl H v ∧ B cs.BadRule "BadRule") ∨ ∃ r, IsRl H v r ∧ r.ok ∧ ((cnt (.int i) 2 64 = false ∧ B cs.BadSize "BadSize") ∨ ∃ n : Nat, i = (n : Int) ∧ 2 ≤ n ∧ n ≤ 64 ∧
    ((cnt (.int j) 0 ((n : Int) - 1) = false ∧ B cs.BadSize "BadSize") ∨ ∃ many : Nat, j = (many : Int) ∧ many < n ∧ ((cnt (.int l) (many : Int) 64 = false ∧ B cs.BadSize "BadSize") ∨ ∃ limit : Nat, l = (limit : Int) ∧ many ≤ limit ∧ limit ≤ 64 ∧
      (∀ k, k < n → (∀ j, j ≤ k → (dealtK (roomK (fun k => homeN r k n) n limit) many j).length ≤ 4000) → (dealtK (roomK (fun k => homeN r k n) n limit) many (k + 1)).length ≤ 90000) ∧
      (((∃ k, k ≤ n ∧ 4000 < (dealtK (roomK (fun k => homeN r k n) n limit) many k).length) ∧ B cs.TooMany "TooMany") ∨ ((∀ k, k ≤ n → (dealtK (roomK (fun k => homeN r k n) n limit) many k).length ≤ 4000) ∧
        ∀ (H' : Hp) (p q : Addr) (ms : List Nat) (far : Nat), Ex H H' → H' p = some (.tup [.ref q, .int (far : Int)]) → H' q = some (.lst (ms.map fun n : Nat => V.int (n : Int))) → WorstOk (fun k => homeN r k n) n many limit ms far → G H' p)))))
theorem WorstW.up {H H' : Hp} {cs : Cs} {v : V} {i j l : Int} {G G' : Hp → Addr → Prop} {B B' : Addr → Str → Prop} (e : Ex H H') (g : ∀ H n, G H n → G' H n) (b : ∀ c nm, wordOf cs c nm → B c nm → B' c nm) (h : WorstW H cs v i j l G B) : WorstW H' cs v i j l G' B' := by
  rcases h with ⟨h, k⟩ | ⟨r, hr, ho, h | ⟨n, hi, h2, h6, h | ⟨many, hj, hm, h | ⟨limit, hl, h3, h4, hp, h | ⟨h5, k⟩⟩⟩⟩⟩
  · exact .inl ⟨h.up e, b _ _ w_rule k⟩
  · exact .inr ⟨r, hr.up e, ho, .inl ⟨h.1, b _ _ w_size h.2⟩⟩
  · exact .inr ⟨r, hr.up e, ho, .inr ⟨n, hi, h2, h6, .inl ⟨h.1, b _ _ w_size h.2⟩⟩⟩
  · exact .inr ⟨r, hr.up e, ho, .inr ⟨n, hi, h2, h6, .inr ⟨many, hj, hm, .inl ⟨h.1, b _ _ w_size h.2⟩⟩⟩⟩
  · exact .inr ⟨r, hr.up e, ho, .inr ⟨n, hi, h2, h6, .inr ⟨many, hj, hm, .inr ⟨limit, hl, h3, h4, hp, .inl ⟨h.1, b _ _ w_many h.2⟩⟩⟩⟩⟩
  · exact .inr ⟨r, hr.up e, ho, .inr ⟨n, hi, h2, h6, .inr ⟨many, hj, hm, .inr ⟨limit, hl, h3, h4, hp, .inr ⟨h5, fun H2 p q ms far e2 k1 k2 k3 => g _ _ (k H2 p q ms far (e.tr e2) k1 k2 k3)⟩⟩⟩⟩⟩
def sp_worst (K : PySem.W.Frag) (cs : Cs) : Sp := fun vs H Q E => ∃ v i j l, vs = [v, .int i, .int j, .int l] ∧ WorstW H cs v i j l (fun H' p => upR Q (.ref p) H') (fun c _ => ∀ H2, Ex H H2 → E (.ref c) none H2)
theorem c_worst {K : PySem.W.Frag} {cs : Cs} {H : Hp} {v : V} {i j l : Int} {Q : PV} {E : XK} (h : WorstW H cs v i j l (fun H' p => Q (.ref p) H') (fun c _ => ∀ H2, Ex H H2 → E (.ref c) none H2)) : kC (fun ws H Q => sp_worst K cs ws H Q E) [v, .int i, .int j, .int l] H Q :=
  fun H1 e _ q => ⟨v, i, j, l, rfl, h.up e (fun H' n k H2 e2 => q _ _ _ k e2) fun c nm _ k H2 e2 => k H2 (e.tr e2)⟩
/-- lists that stand at ps, by their number -/
def FLs (H : Hp) (ps : List Addr) (f : Nat → List Nat) : Prop := ∀ j (h : j < ps.length), H ps[j] = some (.lst ((f j).map fun n : Nat => V.int (n : Int)))
theorem FLs.up {H H' : Hp} {ps : List Addr} {f : Nat → List Nat} (h : FLs H ps f) (e : Ex H H') : FLs H' ps f := fun j hj => e _ _ (h j hj)
theorem pure_worst {K : PySem.W.Frag} {cs : Cs} {H : Hp} {vs : List V} {Q : VK} {E : XK} (h : sp_worst K cs vs H Q E) : t_worst K cs E { nx := fun _ H' => Q .non H', rt := Q } (start ["rule", "size", "many", "limit", "owned", "key", "best", "far", "keys", "counts", "here", "found", "count", "place"] vs) H := by
  obtain ⟨v, i, j, l, rfl, h⟩ := h
  refine fin (σ := [some v, some (.int i), some (.int j), some (.int l), none, none, none, none, none, none, none, none, none, none]) ?_
  unfold t_worst
  rcases h with ⟨h, k⟩ | ⟨r, hr, ho, h | ⟨n, rfl, h2, h6, h | ⟨many, rfl, hm, h | ⟨limit, rfl, h3, h4, hp, h⟩⟩⟩⟩
  · k_clsL
    exact cE_need_rule h k
  · k_clsL
    refine c_need_rule hr ho ?_
    k_clsL
    exact bF h.1 h.2
  · k_clsL
    refine c_need_rule hr ho ?_
    k_clsL
    refine bT (cnt_ok (by omega) (by omega)) ?_
    k_clsL
    exact bF h.1 h.2
  · k_clsL
    refine c_need_rule hr ho ?_
    k_clsL
    refine bT (cnt_ok (by omega) (by omega)) ?_
    k_clsL
    refine bT (cnt_ok (by omega) (by omega)) ?_
    k_clsL
    exact bF h.1 h.2
  · k_clsL
    refine c_need_rule hr ho ?_
    k_clsL
    refine bT (cnt_ok (by omega) (by omega)) ?_
    k_clsL
    refine bT (cnt_ok (by omega) (by omega)) ?_
    k_clsL
    refine bT (cnt_ok (by omega) (by omega)) ?_
    k_clsL
    have hh : ∀ k, (fun k => homeN r k n) k < n := hN_lt (by omega)
    refine e_lc ?_
    k_clsL
    refine ⟨by omega, fun D hD => ⟨fun i H1 => Ex H H1 ∧ ∃ ps : List Addr, ps.length = i ∧ ps.Nodup ∧ (∀ q ∈ ps, H q = none ∧ q ≠ D ∧ H1 q = some (.lst [])) ∧ H1 D = some (.lst (ps.map V.ref)), ⟨Ex.news hD, [], rfl, List.nodup_nil, fun _ h => absurd h List.not_mem_nil, upd_same⟩, fun _ _ _ _ => trivial, ?_, ?_⟩⟩
    · rintro i H1 hi ⟨e1, ps, hlen, hnd, hps, hDl⟩
      refine g_name ⟨rfl, t_yes ⟨fun _ => ?_, fun h => by cases h⟩⟩
      k_clsL
      rename_i p hp0
      have hpD : p ≠ D := fun e => by rw [e, hDl] at hp0; cases hp0
      refine ⟨ps.map V.ref, _, at_new hp0 hDl, ?_, ⟨(Ex.newr e1 hp0).mutr hD, ps ++ [p], by simp [hlen], List.nodup_append.mpr ⟨hnd, by simp, fun a ha b hb e => ?_⟩, fun q hq => ?_, ?_⟩, Ex.rf⟩
      · rw [List.length_map]
        exact Nat.lt_of_le_of_lt (by omega : ps.length ≤ 100) (by decide)
      · rw [List.mem_singleton.mp hb] at e
        have := (hps a ha).2.2
        rw [e, hp0] at this
        cases this
      · rcases List.mem_append.mp hq with hq | hq
        · obtain ⟨a1, a2, a3⟩ := hps q hq
          have : q ≠ p := fun e => by rw [e, hp0] at a3; cases a3
          exact ⟨a1, a2, by rw [upd_ne a2, upd_ne this]; exact a3⟩
        · rw [List.mem_singleton.mp hq]
          exact ⟨e1.fresh hp0, hpD, by rw [upd_ne hpD, upd_same]⟩
      · rw [List.map_append]
        exact upd_same
    rintro H1 ⟨e1, ps, hlen, hnd, hps, hDl⟩
    k_clsL
    refine s_for1 limit (fun i s H2 => Ex H H2 ∧ (∃ z5, s = [some v, some (.int (n : Int)), some (.int (many : Int)), some (.int (limit : Int)), some (.ref D), z5, none, none, none, none, none, none, none, none]) ∧ H2 D = some (.lst (ps.map V.ref)) ∧ FLs H2 ps (fun p => ownK' (fun k => homeN r k n) i p)) ?_
    k_clsL
    refine ⟨rfl, by omega, ⟨e1, ⟨none, rfl⟩, hDl, fun j hj => (hps _ (List.getElem_mem hj)).2.2⟩, ?_, ?_⟩
    · rintro i s H2 hi ⟨e2, ⟨z5, rfl⟩, hD2, hF⟩
      have hr2 := hr.up e2
      have hhm : homeN r i n < ps.length := by rw [hlen]; exact hh i
      k_clsL
      refine c_home_of rfl rfl hr2 ho (by omega) h2 h6 ?_
      refine r_ixL (v := .ref ps[homeN r i n]) (SqL.of hD2) (atI_nat (by rw [List.getElem?_map, List.getElem?_eq_getElem hhm]; rfl)) ?_
      have hb := hF (homeN r i n) hhm
      refine ⟨_, _, rfl, SqL.of hb, ?_⟩
      k_clsL
      have hq := hps ps[homeN r i n] (List.getElem_mem hhm)
      refine m_append hb (by rw [List.length_map]; exact Nat.le_trans own_len (by omega)) ?_
      refine ⟨_, ⟨e2.mutr hq.1, ⟨_, rfl⟩, by rw [upd_ne (Ne.symm hq.2.1)]; exact hD2, fun j hj => ?_⟩, Ex.rf⟩
      by_cases hjh : j = homeN r i n
      · subst hjh
        show _ = some (HO.lst ((ownK' (fun k => homeN r k n) (i + 1) (homeN r i n)).map fun n : Nat => V.int (n : Int)))
        rw [upd_same, own_next, if_pos rfl, List.map_append]
        rfl
      · have ne : ps[j] ≠ ps[homeN r i n] := fun e => hjh (nodup_inj' hnd _ _ e)
        show _ = some (HO.lst ((ownK' (fun k => homeN r k n) (i + 1) j).map fun n : Nat => V.int (n : Int)))
        rw [upd_ne ne, own_next, if_neg (fun e => hjh e.symm), List.append_nil]
        exact hF j hj
    rintro s H2 ⟨e2, ⟨z5, rfl⟩, hD2, hF⟩
    k_clsL
    refine s_for ?_
    k_clsL
    refine e_lcZ ?_
    k_clsL
    refine ⟨SqL.of hD2, by rw [List.length_map, hlen]; omega, (roomK (fun k => homeN r k n) n limit).map fun m : Nat => V.int (m : Int), by rw [List.length_map, List.length_map, room_len, hlen], ?_, ?_⟩
    · intro D2 acc j hD3 hj x hx
      have hj2 : j < ps.length := by simpa using hj
      rw [List.getElem?_map, List.getElem?_eq_getElem hj2] at hx
      have hx : V.ref ps[j] = x := Option.some.inj hx
      subst hx
      have hFj := (Ex.news (o := .lst acc) hD3) _ _ (hF j hj2)
      refine g_name ⟨rfl, t_yes ⟨rfl, ?_⟩⟩
      k_clsL
      refine ⟨?_, Ex.rf⟩
      rw [List.getElem?_map, List.length_map, roomK, List.getElem?_map, List.getElem?_range (by omega)]
      rfl
    intro D2 hD3
    have hroomS : (roomK (fun k => homeN r k n) n limit).sum = limit := room_sum hh
    have hroomL : (roomK (fun k => homeN r k n) n limit).length = n := room_len
    have hpre : DlPre (roomK (fun k => homeN r k n) n limit) many := by
      refine ⟨by rw [hroomL]; exact h6, fun x hx => ?_, by omega, by rw [hroomS]; exact h3, fun k hk hj => hp k (by rw [hroomL] at hk; exact hk) hj⟩
      obtain ⟨p, _, rfl⟩ := List.mem_map.mp hx
      exact Nat.le_trans own_len h4
    have e3 : Ex H (upd H2 D2 (.lst ((roomK (fun k => homeN r k n) n limit).map fun m : Nat => V.int (m : Int)))) := e2.newr hD3
    have hD4 : (upd H2 D2 (.lst ((roomK (fun k => homeN r k n) n limit).map fun m : Nat => V.int (m : Int)))) D = some (.lst (ps.map V.ref)) := at_new hD3 hD2
    have hF4 := hF.up (Ex.news (o := .lst ((roomK (fun k => homeN r k n) n limit).map fun m : Nat => V.int (m : Int))) hD3)
    k_clsL
    refine c_dealt (room := roomK (fun k => homeN r k n) n limit) rfl (SqL.of upd_same) hpre ?_
    rw [hroomL]
    generalize upd H2 D2 (.lst ((roomK (fun k => homeN r k n) n limit).map fun m : Nat => V.int (m : Int))) = H3 at *
    clear hF hD2 e2 hDl hD3 hp hpre
    rcases h with ⟨h5, k⟩ | ⟨h5, q⟩
    · exact .inl ⟨h5, fun H4 e4 => k H4 (e3.tr e4)⟩
    refine .inr ⟨h5, fun H4 pl qs e4 hpl hT => ?_⟩
    have hD5 := e4 _ _ hD4
    have hF5 := hF4.up e4
    have e5 := e3.tr e4
    clear hD4 hF4 e3
    have hX : ∀ c ∈ dealtK (roomK (fun k => homeN r k n) n limit) many n, c.length = n ∧ c.sum = many := fun c hc => dealt_sum hh h3 hc
    have hne : cntH n ((List.range many).map fun k => homeN r k n) ∈ dealtK (roomK (fun k => homeN r k n) n limit) many n := dealt_choice hh List.nodup_range (fun k hk => Nat.lt_of_lt_of_le (List.mem_range.mp hk) h3) (by simp)
    refine ⟨pl, _, rfl, SqL.of hpl, fun j s H5 => Ex H4 H5 ∧ ∃ bv fv z9 z10, s = [some v, some (.int (n : Int)), some (.int (many : Int)), some (.int (limit : Int)), some (.ref D), z5, some bv, some (.int fv), none, z9, z10, none, none, none] ∧ ((j = 0 ∧ bv = .non ∧ fv = -1) ∨ ∃ b pb, b ∈ (dealtK (roomK (fun k => homeN r k n) n limit) many n).take j ∧ bv = .ref pb ∧ H5 pb = some (.tup (b.map fun n : Nat => V.int (n : Int))) ∧ fv = ((wayN n (homesB b) : Nat) : Int) ∧
      (∀ c ∈ (dealtK (roomK (fun k => homeN r k n) n limit) many n).take j, wayN n (homesB c) ≤ wayN n (homesB b)) ∧ ∃ j0 : Nat, (dealtK (roomK (fun k => homeN r k n) n limit) many n)[j0]? = some b ∧ ∀ i, i < j0 → ∀ c, (dealtK (roomK (fun k => homeN r k n) n limit) many n)[i]? = some c → wayN n (homesB c) < wayN n (homesB b)), ⟨Ex.rf, .non, -1, none, none, rfl, .inl ⟨rfl, rfl, rfl⟩⟩, fun j s H5 _ h => SqL.of (h.1 _ _ hpl), ?_, ?_⟩
    · rintro j s H5 hj ⟨e45, bv, fv, z9, z10, rfl, hB⟩ x hx
      have hj2 : j < qs.length := by simpa using hj
      rw [List.getElem?_map, List.getElem?_eq_getElem hj2] at hx
      have hx : V.ref qs[j] = x := Option.some.inj hx
      subst hx
      obtain ⟨c, hc1, hc2⟩ := hT.at (List.getElem?_eq_getElem hj2)
      obtain ⟨hcl, hcs⟩ := hX c (List.mem_of_getElem? hc1)
      have hc3 := e45 _ _ hc2
      have htk : (dealtK (roomK (fun k => homeN r k n) n limit) many n).take (j + 1) = (dealtK (roomK (fun k => homeN r k n) n limit) many n).take j ++ [c] := by
        rw [List.take_succ, hc1]
        rfl
      refine g_name ?_
      k_clsL
      refine c_homes_by hc3 (by omega) fun H6 ph e6 hph hph1 => ?_
      k_clsL
      refine c_ways_of (homes := homesB c) rfl hph1 (by omega) h6 (by rw [homesB_len]; omega) (fun y hy => by have := homesB_lt y hy; omega) ?_
      k_clsL
      refine ⟨fun hlt => ?_, fun hlt => ?_⟩
      · have hlt := of_decide_eq_true hlt
        k_clsL
        refine ⟨_, ⟨e45.tr e6, _, _, _, _, rfl, .inr ⟨c, qs[j], by rw [htk]; simp, rfl, e6 _ _ hc3, rfl, fun c' hc' => ?_, j, hc1, fun i0 hi0 c0 hc0 => ?_⟩⟩, Ex.rf⟩
        · rw [htk] at hc'
          rcases List.mem_append.mp hc' with hc' | hc'
          · rcases hB with ⟨h0, _, _⟩ | ⟨b, pb, _, _, _, hfv, hle, _⟩
            · rw [h0] at hc'
              exact absurd hc' (by simp)
            · have := hle c' hc'
              omega
          · rw [List.mem_singleton.mp hc']
            exact Nat.le_refl _
        · rcases hB with ⟨h0, _, _⟩ | ⟨b, pb, _, _, _, hfv, hle, _⟩
          · omega
          · have hm0 : c0 ∈ (dealtK (roomK (fun k => homeN r k n) n limit) many n).take j := List.mem_of_getElem? (i := i0) (by rw [List.getElem?_take, if_pos hi0]; exact hc0)
            have := hle c0 hm0
            omega
      · have hlt := of_decide_eq_false hlt
        k_clsL
        rcases hB with ⟨h0, _, hfv⟩ | ⟨b, pb, hb, hbv, hpb, hfv, hle, hj0⟩
        · omega
        · refine ⟨_, ⟨e45.tr e6, _, _, _, _, rfl, .inr ⟨b, pb, by rw [htk]; exact List.mem_append_left _ hb, hbv, e6 _ _ hpb, hfv, fun c' hc' => ?_, hj0⟩⟩, Ex.rf⟩
          rw [htk] at hc'
          rcases List.mem_append.mp hc' with hc' | hc'
          · exact hle c' hc'
          · rw [List.mem_singleton.mp hc']
            omega
    rintro s H5 ⟨e45, bv, fv, z9, z10, rfl, hB⟩
    rw [List.length_map, List.take_of_length_le (Nat.le_of_eq hT.len.symm)] at hB
    rcases hB with ⟨h0, _, _⟩ | ⟨b, pb, hb, rfl, hpb, rfl, hle, hj0⟩
    · have := hT.len
      rw [h0] at this
      rw [List.eq_nil_of_length_eq_zero this.symm] at hne
      exact absurd hne List.not_mem_nil
    obtain ⟨hbl, hbs⟩ := hX b hb
    have hD6 := e45 _ _ hD5
    have hF6 := hF5.up e45
    have e6 := e5.tr e45
    k_clsL
    rename_i f hf
    have hfH : H f = none := e6.fresh hf
    refine s_for ?_
    k_clsL
    have hle2 : ∀ p, p < b.length → b.getD p 0 ≤ (ownK' (fun k => homeN r k n) limit p).length := fun p hp => by
      obtain ⟨_, _, q3, _⟩ := dealt_ok (room := roomK (fun k => homeN r k n) n limit) (by rw [hroomS]; exact h3) n (by rw [hroomL]; exact Nat.le_refl _) b hb
      have := q3 p (by omega)
      rwa [room_at (by omega)] at this
    refine ⟨D, pb, ps.map V.ref, b.map fun n : Nat => V.int (n : Int), rfl, SqL.of (at_new hf hD6), SqT.of (at_new hf hpb), by rw [List.length_map, List.length_map]; omega, fun j s H6 => Ex H5 H6 ∧ ∃ z8 z12, s = [some v, some (.int (n : Int)), some (.int (many : Int)), some (.int (limit : Int)), some (.ref D), z5, some (.ref pb), some (.int ((wayN n (homesB b) : Nat) : Int)), z8, z9, z10, some (.ref f), z12, none] ∧
      H6 f = some (.lst (((List.range j).flatMap fun p => (ownK' (fun k => homeN r k n) limit p).take (b.getD p 0)).map fun n : Nat => V.int (n : Int))), ⟨Ex.news hf, none, none, rfl, upd_same⟩, fun j s H6 _ h => ⟨SqL.of (h.1 _ _ hD6), SqT.of (h.1 _ _ hpb)⟩, ?_, ?_⟩
    · rintro j s H6 hj ⟨e56, z8, z12, rfl, hf6⟩ T x z hTn hx hz
      have hj2 : j < ps.length := by simpa using hj
      have hj3 : j < b.length := by omega
      have hx : (ps.map V.ref)[j]? = some x := hx
      have hz : (b.map fun n : Nat => V.int (n : Int))[j]? = some z := hz
      rw [List.getElem?_map, List.getElem?_eq_getElem hj2] at hx
      rw [List.getElem?_map, List.getElem?_eq_getElem hj3] at hz
      have hx : V.ref ps[j] = x := Option.some.inj hx
      have hz : V.int ((b[j] : Nat) : Int) = z := Option.some.inj hz
      subst hx hz
      have hgd : b.getD j 0 = b[j] := by rw [List.getD_eq_getElem?_getD, List.getElem?_eq_getElem hj3]; rfl
      have hk6 := (Ex.news (o := .tup [.ref ps[j], .int ((b[j] : Nat) : Int)]) hTn) _ _ (e56 _ _ (hF6 j hj2))
      have hf7 : (upd H6 T (.tup [.ref ps[j], .int ((b[j] : Nat) : Int)])) f = some (.lst (((List.range j).flatMap fun p => (ownK' (fun k => homeN r k n) limit p).take (b.getD p 0)).map fun n : Nat => V.int (n : Int))) := at_new hTn hf6
      have e57 : Ex H5 (upd H6 T (.tup [.ref ps[j], .int ((b[j] : Nat) : Int)])) := e56.newr hTn
      k_clsL
      generalize upd H6 T (.tup [.ref ps[j], .int ((b[j] : Nat) : Int)]) = H7 at *
      intro sl hsl
      have hcut : cutV ((ownK' (fun k => homeN r k n) limit j).map fun n : Nat => V.int (n : Int)) none (some ((b[j] : Nat) : Int)) = ((ownK' (fun k => homeN r k n) limit j).take b[j]).map fun n : Nat => V.int (n : Int) := by
        rw [cutA, List.map_take]
      rw [hcut]
      k_clsL
      have hbnd : ((List.range j).flatMap fun p => (ownK' (fun k => homeN r k n) limit p).take (b.getD p 0)).length ≤ 4096 := by
        refine Nat.le_trans (flat_le (m := 64) fun p _ => ?_) (by rw [List.length_range]; omega)
        rw [List.length_take]
        have := own_len (h := fun k => homeN r k n) (limit := limit) (p := p)
        omega
      have hbnd2 : ((ownK' (fun k => homeN r k n) limit j).take b[j]).length ≤ 64 := by
        rw [List.length_take]
        have := own_len (h := fun k => homeN r k n) (limit := limit) (p := j)
        omega
      refine m_extend (at_new hsl hf7) upd_same (by rw [List.length_map, List.length_map]; omega) ?_
      refine ⟨_, ⟨(e57.newr hsl).mutr hf, _, _, rfl, ?_⟩, Ex.rf⟩
      rw [upd_same, List.range_succ, List.flatMap_append, List.map_append]
      simp only [List.flatMap_cons, List.flatMap_nil, List.append_nil, hgd]
    · rintro s H6 ⟨e56, z8, z12, rfl, hf6⟩
      rw [List.length_map, hlen] at hf6
      have hkb : (List.range n).flatMap (fun p => (ownK' (fun k => homeN r k n) limit p).take (b.getD p 0)) = keysB (fun k => homeN r k n) limit b := by
        unfold keysB
        rw [hbl]
      rw [hkb] at hf6
      k_clsL
      refine c_sorted (ns := nI (keysB (fun k => homeN r k n) limit b)) (by rw [nI_v]; exact SqL.of hf6) fun ms d hp1 hs1 hd => ?_
      obtain ⟨U, rfl, hU⟩ := perm_nI hp1
      k_clsL
      rename_i tp htp
      refine q _ tp d U (wayN n (homesB b)) ((e6.tr e56).tr ((Ex.news hd).newr htp)) upd_same (at_new htp (by rw [upd_same, nI_v])) ⟨⟨b, hb, rfl, hU, hj0⟩, hle, ?_⟩
      have := List.pairwise_map.mp hs1
      exact this.imp fun h => by omega
theorem ok_worst {P : Program} {w : World} {K : PySem.W.Frag} {mg : Str → Option Value} {base : Heap} {cs : Cs} (D_worst : Dn K mg "worst" s_worst ["rule", "size", "many", "limit"]) (cal_need_rule : Cal P w K mg base (L2N.CX P w) 4 "need_rule" ["rule"] (sp_need_rule K cs)) (cal_need_size : Cal P w K mg base (L2N.CX P w) 2 "need_size" ["size"] (sp_need_size K cs)) (cal_need_count : Cal P w K mg base (L2N.CX P w) 2 "need_count" ["number", "least", "most"] (sp_need_count K cs)) (cal_home_of : Cal P w K mg base (L2N.CX P w) 1 "home_of" ["rule", "key", "size"] (sp_home_of K cs)) (cal_dealt : Cal P w K mg base (L2N.CX P w) 1 "dealt" ["room", "many"] (sp_dealt K cs)) (cal_homes_by : Cal P w K mg base (L2N.CX P w) 1 "homes_by" ["counts"] (sp_homes_by K cs)) (cal_ways_of : Cal P w K mg base (L2N.CX P w) 2 "ways_of" ["homes", "size"] (sp_ways_of K cs)) (m_range : mg "range" = none) (m_len : mg "len" = none) (m_zip : mg "zip" = none) (m_sorted : mg "sorted" = none) (k_MOST_LIMIT : ∃ t, mg "MOST_LIMIT" = some (.int 64 t)) :
    Cal P w K mg base (L2N.CX P w) 5 "worst" ["rule", "size", "many", "limit"] (sp_worst K cs) := by
  refine cal_mk D_worst sc_worst (fun vs H Q E h => ?_) fun f cdv A outer s H vs Q E hr h => ⟨t_worst K cs E, ?_, pure_worst h⟩
  · unfold sp_worst at h
    first | (obtain ⟨rfl, _⟩ := h; rfl) | (obtain ⟨_, rfl, _⟩ := h; rfl) | (obtain ⟨_, _, rfl, _⟩ := h; rfl) | (obtain ⟨_, _, _, rfl, _⟩ := h; rfl) | (obtain ⟨_, _, _, _, rfl, _⟩ := h; rfl) | (obtain ⟨_, _, _, _, _, rfl, _⟩ := h; rfl) | (obtain ⟨_, _, _, _, _, _, rfl, _⟩ := h; rfl) | (obtain ⟨_, _, _, _, _, _, _, rfl, _⟩ := h; rfl) | (obtain ⟨_, _, _, _, _, _, _, _, rfl, _⟩ := h; rfl) | (obtain ⟨_, _, _, _, _, _, _, _, _, rfl, _⟩ := h; rfl) | (obtain ⟨_, _, _, _, _, _, _, _, _, _, rfl, _⟩ := h; rfl) | (obtain ⟨_, _, _, _, _, _, _, _, _, _, _, rfl, _⟩ := h; rfl) | (obtain ⟨_, _, _, _, _, _, _, _, _, _, _, _, rfl, _⟩ := h; rfl) | (obtain ⟨_, _, _, _, _, _, _, _, _, _, _, _, _, rfl, _⟩ := h; rfl) | (obtain ⟨_, _, _, _, _, _, _, _, _, _, _, _, _, _, rfl, _⟩ := h; rfl) | (obtain ⟨_, _, _, _, _, _, _, _, _, _, _, _, _, _, _, rfl, _⟩ := h; rfl)
  · exact (pss_cons (ps_expr (pe_cal cal_need_rule hr (by decide) (by rfl) (L2N.passes_call (L2N.takes_of (E := E) rfl rfl rfl rfl) fun _ _ _ _ h => h) (pa_cons (pv 0) pa_nil)))
      (pss_cons (ps_expr (pe_cal cal_need_size hr (by decide) (by rfl) (L2N.passes_call (L2N.takes_of (E := E) rfl rfl rfl rfl) fun _ _ _ _ h => h) (pa_cons (pv 1) pa_nil)))
      (pss_cons (ps_expr (pe_cal cal_need_count hr (by decide) (by rfl) (L2N.passes_call (L2N.takes_of (E := E) rfl rfl rfl rfl) fun _ _ _ _ h => h) (pa_cons (pv 2) (pa_cons pe_int (pa_cons (pe_op op_sub (pv 1) pe_int) pa_nil)))))
      (pss_cons (ps_expr (pe_cal cal_need_count hr (by decide) (by rfl) (L2N.passes_call (L2N.takes_of (E := E) rfl rfl rfl rfl) fun _ _ _ _ h => h) (pa_cons (pv 3) (pa_cons (pv 2) (pa_cons (pe_gI (n := 64) (by rfl) k_MOST_LIMIT) pa_nil)))))
      (pss_cons (ps_setLc (i := 4) (own := [("place", 13)]) (g := (gName 13)) (tt := tYes) (by rfl) sc_worst.nd rfl rfl (sw_true rfl rfl rfl (by decide +kernel)) (pi_range1 (by rfl) m_range (pa_cons (pv 1) pa_nil)) (blkOk_by (own := [("place", 13)]) (N := ["rule", "size", "many", "limit", "owned", "key", "best", "far", "keys", "counts", "here", "found", "count", "place"]) (sc := defScope s_worst) (by decide +kernel)) (fun _ _ _ _ _ => (pg_name (i := 13) sc_worst.nd rfl (Or.inl rfl))) (fun _ _ _ _ _ => pts_nil) (fun _ _ _ _ _ => (pe_lst pa_nil)))
      (pss_cons (ps_for (passes_of rfl) rfl (pi_range1 (by rfl) m_range (pa_cons (pv 3) pa_nil)) (pg_name (i := 5) sc_worst.nd rfl (Or.inl sc_worst_v5))
      (pss_one (ps_expr (pe_bm PySem.F.plainAttrs_list PySem.F.slot_list_append PySem.F.type_list_append mt_append (pe_ix ix_list (pv 4) (pe_cal cal_home_of hr (by decide) (by rfl) passN (pa_cons (pv 0) (pa_cons (pv 5) (pa_cons (pv 1) pa_nil)))) (fun _ _ => rfl)) (pa_cons (pv 5) pa_nil)))))
      (pss_cons (ps_set (i := 6) sc_worst.nd rfl (Or.inl sc_worst_v6) pe_non)
      (pss_cons (ps_set (i := 7) sc_worst.nd rfl (Or.inl sc_worst_v7) (pe_un un_neg pe_int))
      (pss_cons (ps_for (passes_of rfl) rfl (pi_list (pe_cal cal_dealt hr (by decide) (by rfl) (L2N.passes_call (L2N.takes_of (E := E) rfl rfl rfl rfl) fun _ _ _ _ h => h) (pa_cons (pe_lc (own := [("keys", 8)]) (g := (gName 8)) (tt := tYes) (by rfl) sc_worst.nd (pi_list (pv 4)) (blkOk_by (own := [("keys", 8)]) (N := ["rule", "size", "many", "limit", "owned", "key", "best", "far", "keys", "counts", "here", "found", "count", "place"]) (sc := defScope s_worst) (by decide +kernel)) (fun _ _ _ _ _ => (pg_name (i := 8) sc_worst.nd rfl (Or.inl rfl))) (fun _ _ _ _ _ => pts_nil) (fun _ _ _ _ _ => (pe_callB call_len_seq (by rfl) m_len (by decide +kernel) (pa_cons (pv 8) pa_nil)))) (pa_cons (pv 2) pa_nil)))) (pg_name (i := 9) sc_worst.nd rfl (Or.inl sc_worst_v9))
      (pss_cons (ps_set (i := 10) sc_worst.nd rfl (Or.inl sc_worst_v10) (pe_cal cal_ways_of hr (by decide) (by rfl) passN (pa_cons (pe_cal cal_homes_by hr (by decide) (by rfl) passN (pa_cons (pv 9) pa_nil)) (pa_cons (pv 1) pa_nil))))
      (pss_one (ps_if (pt_cmpR op_gt (pv 10) (pv 7) (nomark _))
      (pss_cons (ps_set (i := 6) sc_worst.nd rfl (Or.inl sc_worst_v6) (pv 9))
      (pss_one (ps_set (i := 7) sc_worst.nd rfl (Or.inl sc_worst_v7) (pv 10))))
      pss_nil))))
      (pss_cons (ps_set (i := 11) sc_worst.nd rfl (Or.inl sc_worst_v11) (pe_lst pa_nil))
      (pss_cons (ps_for (passes_of rfl) rfl (pi_zipM (by rfl) m_zip (pa_cons (pv 4) (pa_cons (pv 6) pa_nil))) (pg_tup rfl (pgs_cons (pg_name (i := 8) sc_worst.nd rfl (Or.inl sc_worst_v8)) (pgs_cons (pg_name (i := 12) sc_worst.nd rfl (Or.inl sc_worst_v12)) pgs_nil)))
      (pss_one (ps_expr (pe_bm PySem.F.plainAttrs_list PySem.F.slot_list_extend PySem.F.type_list_extend mt_extend (pv 11) (pa_cons (pe_slice sl_list (pv 8) po_none (po_some (pv 12))) pa_nil)))))
      (pss_one (ps_ret (pe_tup (pa_cons (pe_callB cr_sortedI (by rfl) m_sorted (by decide +kernel) (pa_cons (pv 11) pa_nil)) (pa_cons (pv 7) pa_nil))))))))))))))))
theorem sc__law_told : FnScope ["_law_rule_here", "_law_size", "_law_many", "_law_limit", "_law_e"] ["_law_rule_here", "_law_size", "_law_many", "_law_limit"] (defScope s__law_told) := ⟨rfl, rfl, rfl, by decide +kernel, rfl, by decide +kernel, by decide +kernel⟩
theorem sc__law_told_v0 : (defScope s__law_told).names.lookup ("_law_rule_here" : Str) = some .local := by decide +kernel
theorem sc__law_told_v1 : (defScope s__law_told).names.lookup ("_law_size" : Str) = some .local := by decide +kernel
theorem sc__law_told_v2 : (defScope s__law_told).names.lookup ("_law_many" : Str) = some .local := by decide +kernel
theorem sc__law_told_v3 : (defScope s__law_told).names.lookup ("_law_limit" : Str) = some .local := by decide +kernel
theorem sc__law_told_v4 : (defScope s__law_told).names.lookup ("_law_e" : Str) = some .local := by decide +kernel
def t__law_told (K : PySem.W.Frag) (cs : Cs) (E : XK) : TS :=
  (tTry K cs (.ref cs.StrewError) 4 fun W => (tRet (tCallS (sp_worst K cs) (WE W) (tCons (tVar 0) (tCons (tVar 1) (tCons (tVar 2) (tCons (tVar 3) tNil)))))))
def sp__law_told (K : PySem.W.Frag) (cs : Cs) : Sp := fun vs H Q _ => ∃ v i j l, vs = [v, .int i, .int j, .int l] ∧ WorstW H cs v i j l (fun H' p => upR Q (.ref p) H') (fun _ nm => upR Q (.str nm) H)
theorem c__law_told {K : PySem.W.Frag} {cs : Cs} {H : Hp} {v : V} {i j l : Int} {Q : PV} {E : XK} (h : WorstW H cs v i j l (fun H' p => Q (.ref p) H') (fun _ nm => Q (.str nm) H)) : kC (fun ws H Q => sp__law_told K cs ws H Q E) [v, .int i, .int j, .int l] H Q :=
  fun H1 e _ q => ⟨v, i, j, l, rfl, h.up e (fun H' n k H2 e2 => q _ _ _ k e2) fun c nm _ k H2 e2 => q _ _ _ k (e.tr e2)⟩
theorem pure__law_told {K : PySem.W.Frag} {cs : Cs} {H : Hp} {vs : List V} {Q : VK} {E : XK} (kx : ExmW K cs) (h : sp__law_told K cs vs H Q E) : t__law_told K cs E { nx := fun _ H' => Q .non H', rt := Q } (start ["_law_rule_here", "_law_size", "_law_many", "_law_limit", "_law_e"] vs) H := by
  obtain ⟨v, i, j, l, rfl, h⟩ := h
  refine fin (σ := [some v, some (.int i), some (.int j), some (.int l), none]) ?_
  unfold t__law_told
  refine s_try kx fun W hW => ?_
  refine s_ret (e_callS ?_)
  k_clsL
  exact c_worst (h.up Ex.rf (fun _ _ k => k) fun c nm hw k H2 e2 => by
    show W (.ref c) none [some v, some (.int i), some (.int j), some (.int l), none] H2
    exact hW c nm _ H hw (Nat.lt_succ_self _) k H2 e2)
theorem ok__law_told {P : Program} {w : World} {K : PySem.W.Frag} {mg : Str → Option Value} {base : Heap} {cs : Cs} (D__law_told : Dn K mg "_law_told" s__law_told ["_law_rule_here", "_law_size", "_law_many", "_law_limit"]) (cal__law_word : CalX P w K mg base 1 "_law_word" ["_law_e"] (sp_word cs)) (cal_worst : Cal P w K mg base (L2N.CX P w) 5 "worst" ["rule", "size", "many", "limit"] (sp_worst K cs)) (kx : ExmW K cs) (x_StrewError : ExcT K mg "StrewError" cs.StrewError) :
    Cal P w K mg base (L2N.CX P w) 6 "_law_told" ["_law_rule_here", "_law_size", "_law_many", "_law_limit"] (sp__law_told K cs) := by
  refine cal_mk D__law_told sc__law_told (fun vs H Q E h => ?_) fun f cdv A outer s H vs Q E hr h => ⟨t__law_told K cs E, ?_, pure__law_told kx h⟩
  · unfold sp__law_told at h
    first | (obtain ⟨rfl, _⟩ := h; rfl) | (obtain ⟨_, rfl, _⟩ := h; rfl) | (obtain ⟨_, _, rfl, _⟩ := h; rfl) | (obtain ⟨_, _, _, rfl, _⟩ := h; rfl) | (obtain ⟨_, _, _, _, rfl, _⟩ := h; rfl) | (obtain ⟨_, _, _, _, _, rfl, _⟩ := h; rfl) | (obtain ⟨_, _, _, _, _, _, rfl, _⟩ := h; rfl) | (obtain ⟨_, _, _, _, _, _, _, rfl, _⟩ := h; rfl) | (obtain ⟨_, _, _, _, _, _, _, _, rfl, _⟩ := h; rfl) | (obtain ⟨_, _, _, _, _, _, _, _, _, rfl, _⟩ := h; rfl) | (obtain ⟨_, _, _, _, _, _, _, _, _, _, rfl, _⟩ := h; rfl) | (obtain ⟨_, _, _, _, _, _, _, _, _, _, _, rfl, _⟩ := h; rfl) | (obtain ⟨_, _, _, _, _, _, _, _, _, _, _, _, rfl, _⟩ := h; rfl) | (obtain ⟨_, _, _, _, _, _, _, _, _, _, _, _, _, rfl, _⟩ := h; rfl) | (obtain ⟨_, _, _, _, _, _, _, _, _, _, _, _, _, _, rfl, _⟩ := h; rfl) | (obtain ⟨_, _, _, _, _, _, _, _, _, _, _, _, _, _, _, rfl, _⟩ := h; rfl)
  · exact (pss_one (ps_tryT (i := 4) rfl rfl sc__law_told.nd rfl sc__law_told_v4 (by rfl) x_StrewError.g cal__law_word hr (by decide) (by rfl) (fun W pn xe tk => (pss_one (ps_ret (pe_calS cal_worst hr (by decide) (by rfl) (fun σ => L2N.passAt tk σ) (pa_cons (pv 0) (pa_cons (pv 1) (pa_cons (pv 2) (pa_cons (pv 3) pa_nil)))))))) (fun _ _ => pv 4)))
theorem sc__law_home : FnScope ["_law_rule_here", "_law_key", "_law_size", "_law_whole", "_law_turn"] ["_law_rule_here", "_law_key", "_law_size"] (defScope s__law_home) := ⟨rfl, rfl, rfl, by decide +kernel, rfl, by decide +kernel, by decide +kernel⟩
theorem sc__law_home_v0 : (defScope s__law_home).names.lookup ("_law_rule_here" : Str) = some .local := by decide +kernel
theorem sc__law_home_v1 : (defScope s__law_home).names.lookup ("_law_key" : Str) = some .local := by decide +kernel
theorem sc__law_home_v2 : (defScope s__law_home).names.lookup ("_law_size" : Str) = some .local := by decide +kernel
theorem sc__law_home_v3 : (defScope s__law_home).names.lookup ("_law_whole" : Str) = some .local := by decide +kernel
theorem sc__law_home_v4 : (defScope s__law_home).names.lookup ("_law_turn" : Str) = some .local := by decide +kernel
def t__law_home (K : PySem.W.Frag) (cs : Cs) (E : XK) : TS :=
  (tSeq (tIfS (tTest (tOp rEq (tOp (rIxT K) (tVar 0) (tC (.int 0))) (tC (.str "times"))))
  (tRet (tOp (rI (fun _ j => 0 < j) fun i j => .int (i % j)) (tOp (rI0 fun i j => .int (i + j)) (tOp (rI IntMulOk fun i j => .int (i * j)) (tOp (rIxT K) (tVar 0) (tC (.int 1))) (tVar 1)) (tOp (rIxT K) (tVar 0) (tC (.int 2)))) (tVar 2)))
  tNext)
  (tSeq (tIfS (tTest (tOp rEq (tOp (rIxT K) (tVar 0) (tC (.int 0))) (tC (.str "told"))))
  (tRet (tOp (rI (fun _ j => 0 < j) fun i j => .int (i % j)) (tOp (rIxT K) (tOp (rIxT K) (tVar 0) (tC (.int 1))) (tOp (rI (fun _ j => 0 < j) fun i j => .int (i % j)) (tVar 1) (tCB (fun xs H Q => ∃ p ys, xs = [V.ref p] ∧ (SqL K H p ys ∨ SqT K H p ys) ∧ Q (.int ys.length) H) (tCons (tOp (rIxT K) (tVar 0) (tC (.int 1))) tNil)))) (tVar 2)))
  tNext)
  (tSeq (tAsg (tC (.int 2)) (gName 3))
  (tSeq (tFor (iRng1 (tCons (tOp (rI0 fun i j => .int (i - j)) (tOp (rIxT K) (tVar 0) (tC (.int 2))) (tC (.int 1))) tNil)) (gName 4)
  (tAsg (tOp (rI IntMulOk fun i j => .int (i * j)) (tVar 3) (tC (.int 2))) (gName 3)))
  (tRet (tOp (rI CDivW fun i j => .int (i / j)) (tOp (rI IntMulOk fun i j => .int (i * j)) (tOp (rI (fun _ j => 0 < j) fun i j => .int (i % j)) (tOp (rI IntMulOk fun i j => .int (i * j)) (tOp (rIxT K) (tVar 0) (tC (.int 1))) (tVar 1)) (tVar 3)) (tVar 2)) (tVar 3)))))))
def sp__law_home (K : PySem.W.Frag) (_ : Cs) : Sp := fun vs H Q _ => ∃ (v : V) (r : Rl) (key size : Nat), vs = [v, .int (key : Int), .int (size : Int)] ∧ IsRl H v r ∧ r.ok ∧ key ≤ 999999 ∧ 2 ≤ size ∧ size ≤ 1024 ∧ upR Q (.int (homeN r key size : Nat)) H
theorem c__law_home {K : PySem.W.Frag} {cs : Cs} {H : Hp} {v : V} {r : Rl} {key size : Nat} {i j : Int} {Q : PV} {E : XK} (hi : i = key) (hj : j = size) (h : IsRl H v r) (ho : r.ok) (hk : key ≤ 999999) (h2 : 2 ≤ size) (h6 : size ≤ 64) (k : Q (.int (homeN r key size : Nat)) H) : kC (fun ws H Q => sp__law_home K cs ws H Q E) [v, .int i, .int j] H Q := by
  subst hi hj
  exact fun H1 e _ q => ⟨v, r, key, size, rfl, h.up e, ho, hk, h2, by omega, fun H2 e2 => q _ _ _ k (e.tr e2)⟩
theorem c__law_homeL {K : PySem.W.Frag} {cs : Cs} {H : Hp} {v : V} {r : Rl} {key size : Nat} {i j : Int} {Q : PV} {E : XK} (hi : i = key) (hj : j = size) (h : IsRl H v r) (ho : r.ok) (hk : key ≤ 999999) (h2 : 2 ≤ size) (h6 : size ≤ 1024) (k : Q (.int (homeN r key size : Nat)) H) : kC (fun ws H Q => sp__law_home K cs ws H Q E) [v, .int i, .int j] H Q := by
  subst hi hj
  exact fun H1 e _ q => ⟨v, r, key, size, rfl, h.up e, ho, hk, h2, h6, fun H2 e2 => q _ _ _ k (e.tr e2)⟩
theorem pure__law_home {K : PySem.W.Frag} {cs : Cs} {H : Hp} {vs : List V} {Q : VK} {E : XK} (h : sp__law_home K cs vs H Q E) : t__law_home K cs E { nx := fun _ H' => Q .non H', rt := Q } (start ["_law_rule_here", "_law_key", "_law_size", "_law_whole", "_law_turn"] vs) H := by
  obtain ⟨v, r, key, size, rfl, h, ho, hk, h2, h6, q⟩ := h
  refine fin (σ := [some v, some (.int (key : Int)), some (.int (size : Int)), none, none]) ?_
  unfold t__law_home
  cases r with
  | times a b =>
    obtain ⟨p, rfl, hp⟩ := h
    obtain ⟨ha, hb⟩ := ho
    k_clsL
    exact upE q (by rw [homeN]; exact congrArg V.int (by push_cast; rfl))
  | high a b =>
    obtain ⟨p, rfl, hp⟩ := h
    obtain ⟨ha, hb1, hb⟩ := ho
    have w1 : 2 ^ b < 2 ^ 31 := pow_lt30 hb
    have e2 : homeN (.high a b) key size = a * key % 2 ^ b * size / 2 ^ b := rfl
    rw [e2] at q
    k_clsL
    refine s_for ?_
    k_clsL
    refine ⟨b - 1, by congr 2; omega, by omega, fun i s H1 => H1 = H ∧ ∃ z, s = [some (.ref p), some (.int (key : Int)), some (.int (size : Int)), some (.int ((2 ^ (i + 1) : Nat) : Int)), z], ⟨rfl, none, rfl⟩, fun _ _ _ _ _ => trivial, ?_, ?_⟩
    · rintro i s H1 hi ⟨rfl, z, rfl⟩
      refine g_name ?_
      k_clsL
      refine ⟨_, ⟨rfl, some (.int (i : Nat)), ?_⟩, by k_offL⟩
      have e3 : ((2 ^ (i + 1) : Nat) : Int) * 2 = ((2 ^ (i + 1 + 1) : Nat) : Int) := by
        push_cast
        rw [Int.pow_succ (2 : Int) (i + 1)]
      rw [e3]
      rfl
    · rintro s H1 ⟨rfl, z, rfl⟩
      have e4 : b - 1 + 1 = b := by omega
      rw [e4]
      have w0 : 0 < 2 ^ b := Nat.two_pow_pos b
      generalize 2 ^ b = W at *
      k_clsL
      exact upE q (congrArg V.int (by push_cast; rfl))
  | told ns =>
    obtain ⟨p, l, rfl, hp, hl⟩ := h
    obtain ⟨ha, hb, hn⟩ := ho
    k_clsL
    rw [List.length_map]
    k_clsL
    have hi : key % ns.length < ns.length := Nat.mod_lt _ (by omega)
    refine r_ixT (v := .int ((ns[key % ns.length] : Nat) : Int)) (SqT.of hl) (atI_mod (by rw [List.getElem?_map, List.getElem?_eq_getElem hi]; rfl)) ?_
    k_clsL
    refine upE q (congrArg V.int ?_)
    rw [homeN, List.getD_eq_getElem?_getD, List.getElem?_eq_getElem hi]
    push_cast
    rfl
theorem ok__law_home {P : Program} {w : World} {K : PySem.W.Frag} {mg : Str → Option Value} {base : Heap} {cs : Cs} (D__law_home : Dn K mg "_law_home" s__law_home ["_law_rule_here", "_law_key", "_law_size"]) (m_len : mg "len" = none) (m_range : mg "range" = none) :
    Cal P w K mg base (L2N.CX P w) 1 "_law_home" ["_law_rule_here", "_law_key", "_law_size"] (sp__law_home K cs) := by
  refine cal_mk D__law_home sc__law_home (fun vs H Q E h => ?_) fun f cdv A outer s H vs Q E hr h => ⟨t__law_home K cs E, ?_, pure__law_home h⟩
  · unfold sp__law_home at h
    first | (obtain ⟨rfl, _⟩ := h; rfl) | (obtain ⟨_, rfl, _⟩ := h; rfl) | (obtain ⟨_, _, rfl, _⟩ := h; rfl) | (obtain ⟨_, _, _, rfl, _⟩ := h; rfl) | (obtain ⟨_, _, _, _, rfl, _⟩ := h; rfl) | (obtain ⟨_, _, _, _, _, rfl, _⟩ := h; rfl) | (obtain ⟨_, _, _, _, _, _, rfl, _⟩ := h; rfl) | (obtain ⟨_, _, _, _, _, _, _, rfl, _⟩ := h; rfl) | (obtain ⟨_, _, _, _, _, _, _, _, rfl, _⟩ := h; rfl) | (obtain ⟨_, _, _, _, _, _, _, _, _, rfl, _⟩ := h; rfl) | (obtain ⟨_, _, _, _, _, _, _, _, _, _, rfl, _⟩ := h; rfl) | (obtain ⟨_, _, _, _, _, _, _, _, _, _, _, rfl, _⟩ := h; rfl) | (obtain ⟨_, _, _, _, _, _, _, _, _, _, _, _, rfl, _⟩ := h; rfl) | (obtain ⟨_, _, _, _, _, _, _, _, _, _, _, _, _, rfl, _⟩ := h; rfl) | (obtain ⟨_, _, _, _, _, _, _, _, _, _, _, _, _, _, rfl, _⟩ := h; rfl) | (obtain ⟨_, _, _, _, _, _, _, _, _, _, _, _, _, _, _, rfl, _⟩ := h; rfl)
  · exact (pss_cons (ps_if (pt_cmpR op_eq (pe_ix ix_tup (pv 0) pe_int (fun _ _ => rfl)) pe_str (nomark _))
      (pss_one (ps_ret (pe_op op_mod (pe_op op_add (pe_op op_mulX (pe_ix ix_tup (pv 0) pe_int (fun _ _ => rfl)) (pv 1)) (pe_ix ix_tup (pv 0) pe_int (fun _ _ => rfl))) (pv 2))))
      pss_nil)
      (pss_cons (ps_if (pt_cmpR op_eq (pe_ix ix_tup (pv 0) pe_int (fun _ _ => rfl)) pe_str (nomark _))
      (pss_one (ps_ret (pe_op op_mod (pe_ix ix_tup (pe_ix ix_tup (pv 0) pe_int (fun _ _ => rfl)) (pe_op op_mod (pv 1) (pe_callB call_len_seq (by rfl) m_len (by decide +kernel) (pa_cons (pe_ix ix_tup (pv 0) pe_int (fun _ _ => rfl)) pa_nil))) (fun _ _ => rfl)) (pv 2))))
      pss_nil)
      (pss_cons (ps_set (i := 3) sc__law_home.nd rfl (Or.inl sc__law_home_v3) pe_int)
      (pss_cons (ps_for (passes_of rfl) rfl (pi_range1 (by rfl) m_range (pa_cons (pe_op op_sub (pe_ix ix_tup (pv 0) pe_int (fun _ _ => rfl)) pe_int) pa_nil)) (pg_name (i := 4) sc__law_home.nd rfl (Or.inl sc__law_home_v4))
      (pss_one (ps_set (i := 3) sc__law_home.nd rfl (Or.inl sc__law_home_v3) (pe_op op_mulX (pv 3) pe_int))))
      (pss_one (ps_ret (pe_op op_fdivW (pe_op op_mulX (pe_op op_mod (pe_op op_mulX (pe_ix ix_tup (pv 0) pe_int (fun _ _ => rfl)) (pv 1)) (pv 3)) (pv 2)) (pv 3))))))))
theorem sc__law_ways : FnScope ["_law_rule_here", "_law_size", "_law_keys_here", "_law_taken", "_law_found", "_law_key", "_law_place"] ["_law_rule_here", "_law_size", "_law_keys_here"] (defScope s__law_ways) := ⟨rfl, rfl, rfl, by decide +kernel, rfl, by decide +kernel, by decide +kernel⟩
theorem sc__law_ways_v0 : (defScope s__law_ways).names.lookup ("_law_rule_here" : Str) = some .local := by decide +kernel
theorem sc__law_ways_v1 : (defScope s__law_ways).names.lookup ("_law_size" : Str) = some .local := by decide +kernel
theorem sc__law_ways_v2 : (defScope s__law_ways).names.lookup ("_law_keys_here" : Str) = some .local := by decide +kernel
theorem sc__law_ways_v3 : (defScope s__law_ways).names.lookup ("_law_taken" : Str) = some .local := by decide +kernel
theorem sc__law_ways_v4 : (defScope s__law_ways).names.lookup ("_law_found" : Str) = some .local := by decide +kernel
theorem sc__law_ways_v5 : (defScope s__law_ways).names.lookup ("_law_key" : Str) = some .local := by decide +kernel
theorem sc__law_ways_v6 : (defScope s__law_ways).names.lookup ("_law_place" : Str) = some .local := by decide +kernel
def t__law_ways (K : PySem.W.Frag) (cs : Cs) (E : XK) : TS :=
  (tSeq (tAsg (tOp rRep (tLst (tCons (tC (.bl false)) tNil)) (tVar 1)) (gName 3))
  (tSeq (tAsg (tC (.int 0)) (gName 4))
  (tSeq (tFor (iList K (tVar 2)) (gName 5)
  (tSeq (tAsg (tCall (sp__law_home K cs) [] E0 (tCons (tVar 0) (tCons (tVar 5) (tCons (tVar 1) tNil)))) (gName 6))
  (tSeq (tWhile (tB (tOp (rIxL K) (tVar 3) (tVar 6)))
  (tSeq (tAsg (tOp (rI (fun _ j => 0 < j) fun i j => .int (i % j)) (tOp (rI0 fun i j => .int (i + j)) (tVar 6) (tC (.int 1))) (tVar 1)) (gName 6))
  (tAsg (tOp (rI0 fun i j => .int (i + j)) (tVar 4) (tC (.int 1))) (gName 4))))
  (tAsg (tC (.bl true)) (gSub (tVar 3) (tVar 6) rSetL)))))
  (tRet (tVar 4)))))
def tkB (Bs : List Bool) (q : Nat) : Prop := Bs.getD q false = true
theorem tkB_set {Bs : List Bool} {p q : Nat} (h : p < Bs.length) : tkB (Bs.set p true) q ↔ tkB Bs q ∨ q = p := by
  unfold tkB
  rw [List.getD_eq_getElem?_getD, List.getElem?_set]
  by_cases e : p = q
  · subst e
    simp [h]
  · rw [if_neg e, ← List.getD_eq_getElem?_getD]
    exact ⟨.inl, fun z => z.resolve_right fun y => e y.symm⟩
theorem tkB_at {Bs : List Bool} {p : Nat} (h : p < Bs.length) : (Bs.map V.bl)[p]? = some (.bl (Bs.getD p false)) := by
  rw [List.getElem?_map, List.getD_eq_getElem?_getD, List.getElem?_eq_getElem h]
  rfl
theorem far_add {n a p : Nat} {z : List (Nat × Nat)} : Rg.far n (z ++ [(a, p)]) = Rg.far n z + Rg.wy n a p := by
  unfold Rg.far
  rw [List.map_append, List.sum_append]
  simp
def sp__law_ways (K : PySem.W.Frag) (_ : Cs) : Sp := fun vs H Q _ => ∃ (v : V) (r : Rl) (n : Nat) (a : Addr) (ks : List Nat), vs = [v, .int (n : Int), .ref a] ∧ IsRl H v r ∧ r.ok ∧ 2 ≤ n ∧ n ≤ 64 ∧ SqL K H a (ks.map fun n : Nat => V.int (n : Int)) ∧ ks.length < n ∧ (∀ k ∈ ks, k ≤ 999999) ∧
  ∀ H', Ex H H' → upR Q (.int ((wayN n (ks.map fun k => homeN r k n) : Nat) : Int)) H'
theorem c__law_ways {K : PySem.W.Frag} {cs : Cs} {H : Hp} {v : V} {r : Rl} {n : Nat} {i : Int} {a : Addr} {ks : List Nat} {Q : PV} {E : XK} (hi : i = n) (hr : IsRl H v r) (ho : r.ok) (h2 : 2 ≤ n) (h6 : n ≤ 64) (hs : SqL K H a (ks.map fun n : Nat => V.int (n : Int))) (hl : ks.length < n) (hk : ∀ k ∈ ks, k ≤ 999999)
    (k : ∀ H', Ex H H' → Q (.int ((wayN n (ks.map fun k => homeN r k n) : Nat) : Int)) H') : kC (fun ws H Q => sp__law_ways K cs ws H Q E) [v, .int i, .ref a] H Q := by
  subst hi
  exact fun H1 e _ q => ⟨v, r, n, a, ks, rfl, hr.up e, ho, h2, h6, e.sl hs, hl, hk, fun H' e1 H2 e2 => q _ _ _ (k H' (e.tr e1)) e2⟩
theorem pure__law_ways {K : PySem.W.Frag} {cs : Cs} {H : Hp} {vs : List V} {Q : VK} {E : XK} (h : sp__law_ways K cs vs H Q E) : t__law_ways K cs E { nx := fun _ H' => Q .non H', rt := Q } (start ["_law_rule_here", "_law_size", "_law_keys_here", "_law_taken", "_law_found", "_law_key", "_law_place"] vs) H := by
  obtain ⟨v, r, n, a, ks, rfl, hr, ho, h2, h6, hs, hl, hk, q⟩ := h
  refine fin (σ := [some v, some (.int (n : Int)), some (.ref a), none, none, none, none]) ?_
  unfold t__law_ways
  k_clsL
  rename_i l hl1
  refine r_rep1 (x := .bl false) (n := n) upd_same (by omega) fun f hf => ?_
  k_clsL
  refine s_for ?_
  k_clsL
  have hfH : H f = none := (Ex.news hl1).fresh hf
  refine ⟨fun i s H1 => Ex H H1 ∧ ∃ Bs z z5 z6, H1 f = some (.lst (Bs.map V.bl)) ∧ Bs.length = n ∧ Rg.Park n (tkB Bs) z ∧ z.map (·.1) = (ks.take i).map (fun k => homeN r k n) ∧ s = [some v, some (.int (n : Int)), some (.ref a), some (.ref f), some (.int ((Rg.far n z : Nat) : Int)), z5, z6], ?_, fun i s H1 _ h => h.1.sl hs, ?_, ?_⟩
  · refine ⟨(Ex.news hl1).newr hf, List.replicate n false, [], none, none, ?_, by simp, Rg.Park.nil.iff fun q => ⟨fun h => h.elim, fun h => ?_⟩, rfl, rfl⟩
    · rw [upd_same, List.map_replicate]
    · unfold tkB at h
      rw [List.getD_eq_getElem?_getD, List.getElem?_replicate] at h
      split at h <;> cases h
  · rintro i s H1 hi ⟨e1, Bs, z, z5, z6, hf1, hlen, P, hz, rfl⟩ x hx
    have hi2 : i < ks.length := by simpa using hi
    rw [List.getElem?_map, List.getElem?_eq_getElem hi2] at hx
    have hx : V.int ((ks[i] : Nat) : Int) = x := Option.some.inj hx
    subst hx
    have hhi : homeN r ks[i] n < n := homeN_lt (by omega)
    have hki := hk _ (List.getElem_mem hi2)
    have hzl : z.length = i := by
      have := congrArg List.length hz
      rw [List.length_map, List.length_map, List.length_take] at this
      omega
    have htk : (ks.take (i + 1)).map (fun k => homeN r k n) = (ks.take i).map (fun k => homeN r k n) ++ [homeN r ks[i] n] := by
      rw [List.take_succ, List.getElem?_eq_getElem hi2, List.map_append]
      rfl
    obtain ⟨e, he, hte⟩ := P.empty (by omega)
    refine g_name ?_
    k_clsL
    refine c__law_home rfl rfl (hr.up e1) ho hki h2 h6 ?_
    k_clsL
    generalize ks[i] = key at *
    generalize hho : homeN r key n = hm at *
    refine s_while (fun k s' H2 => Ex H1 H2 ∧ ∃ p : Nat, p < n ∧ Rg.wy n p e = k ∧ (∀ q, q < n → Rg.wy n hm q < Rg.wy n hm p → tkB Bs q) ∧ s' = [some v, some (.int (n : Int)), some (.ref a), some (.ref f), some (.int ((Rg.far n z + Rg.wy n hm p : Nat) : Int)), some (.int (key : Int)), some (.int (p : Int))]) (Rg.wy n hm e) ⟨Ex.rf, hm, hhi, rfl, fun q _ h => by rw [Rg.wy_self] at h; exact absurd h (Nat.not_lt_zero _), by rw [Rg.wy_self]; rfl⟩ ?_
    rintro k s' H2 ⟨e2, p, hp, rfl, hw, rfl⟩
    have hf2 := e2 _ _ hf1
    k_clsL
    refine r_ixL (SqL.of hf2) (atI_nat (tkB_at (by omega))) ?_
    refine ⟨_, rfl, fun ht => ?_, fun ht => ?_⟩
    · have htp : tkB Bs p := ht
      have hpe : p ≠ e := fun y => hte (y ▸ htp)
      have hnl := Rg.nx_lt (n := n) (p := p) (by omega)
      have hst := Rg.wy_step hp he hpe
      have hlt : Rg.wy n hm p < Rg.wy n hm e := by
        rcases Nat.lt_trichotomy (Rg.wy n hm p) (Rg.wy n hm e) with y | y | y
        · exact y
        · exact absurd (Rg.wy_inj hhi hp he y) hpe
        · exact absurd (hw e he y) hte
      have hen := Rg.wy_lt hhi he
      have hnx := Rg.wy_nx hhi hp (by omega)
      k_clsL
      rw [nx_emod hp]
      refine ⟨_, _, by omega, ⟨e2, Rg.nx n p, hnl, rfl, fun q hq hq2 => ?_, ?_⟩, Ex.rf⟩
      · by_cases y : q = p
        · exact y ▸ htp
        · have : Rg.wy n hm q ≠ Rg.wy n hm p := fun y2 => y (Rg.wy_inj hhi hq hp y2)
          exact hw q hq (by omega)
      · have e9 : ((Rg.far n z + Rg.wy n hm (Rg.nx n p) : Nat) : Int) = ((Rg.far n z + Rg.wy n hm p : Nat) : Int) + 1 := by omega
        rw [e9]
        rfl
    · have htp : ¬ tkB Bs p := fun y => by
        unfold tkB at y
        rw [y] at ht
        cases ht
      k_clsL
      refine g_subL ?_
      k_clsL
      refine ⟨f, _, _, p, rfl, rfl, hf2, by rw [List.length_map, hlen]; exact ixN_nat hp, ?_⟩
      refine ⟨_, ⟨(e1.tr e2).mutr hfH, Bs.set p true, z ++ [(hm, p)], _, _, ?_, by rw [List.length_set]; exact hlen, (P.add hhi hp htp hw).iff fun q => (tkB_set (by omega)).symm, ?_, by rw [far_add]⟩, Ex.rf⟩
      · rw [upd_same, List.map_set]
      · rw [List.map_append, hz, htk]
        rfl
  · rintro s H1 ⟨e1, Bs, z, z5, z6, hf1, hlen, P, hz, rfl⟩
    rw [List.length_map, List.take_length] at hz
    k_clsL
    have hw : wayN n (ks.map fun k => homeN r k n) = Rg.far n z := wayN_park (by rw [List.length_map]; exact hl) (fun x hx => by
      obtain ⟨k, _, rfl⟩ := List.mem_map.mp hx
      exact homeN_lt (by omega)) P (by rw [hz])
    have := q H1 e1
    rw [hw] at this
    exact this
theorem ok__law_ways {P : Program} {w : World} {K : PySem.W.Frag} {mg : Str → Option Value} {base : Heap} {cs : Cs} (D__law_ways : Dn K mg "_law_ways" s__law_ways ["_law_rule_here", "_law_size", "_law_keys_here"]) (cal__law_home : Cal P w K mg base (L2N.CX P w) 1 "_law_home" ["_law_rule_here", "_law_key", "_law_size"] (sp__law_home K cs)) :
    Cal P w K mg base (L2N.CX P w) 2 "_law_ways" ["_law_rule_here", "_law_size", "_law_keys_here"] (sp__law_ways K cs) := by
  refine cal_mk D__law_ways sc__law_ways (fun vs H Q E h => ?_) fun f cdv A outer s H vs Q E hr h => ⟨t__law_ways K cs E, ?_, pure__law_ways h⟩
  · unfold sp__law_ways at h
    first | (obtain ⟨rfl, _⟩ := h; rfl) | (obtain ⟨_, rfl, _⟩ := h; rfl) | (obtain ⟨_, _, rfl, _⟩ := h; rfl) | (obtain ⟨_, _, _, rfl, _⟩ := h; rfl) | (obtain ⟨_, _, _, _, rfl, _⟩ := h; rfl) | (obtain ⟨_, _, _, _, _, rfl, _⟩ := h; rfl) | (obtain ⟨_, _, _, _, _, _, rfl, _⟩ := h; rfl) | (obtain ⟨_, _, _, _, _, _, _, rfl, _⟩ := h; rfl) | (obtain ⟨_, _, _, _, _, _, _, _, rfl, _⟩ := h; rfl) | (obtain ⟨_, _, _, _, _, _, _, _, _, rfl, _⟩ := h; rfl) | (obtain ⟨_, _, _, _, _, _, _, _, _, _, rfl, _⟩ := h; rfl) | (obtain ⟨_, _, _, _, _, _, _, _, _, _, _, rfl, _⟩ := h; rfl) | (obtain ⟨_, _, _, _, _, _, _, _, _, _, _, _, rfl, _⟩ := h; rfl) | (obtain ⟨_, _, _, _, _, _, _, _, _, _, _, _, _, rfl, _⟩ := h; rfl) | (obtain ⟨_, _, _, _, _, _, _, _, _, _, _, _, _, _, rfl, _⟩ := h; rfl) | (obtain ⟨_, _, _, _, _, _, _, _, _, _, _, _, _, _, _, rfl, _⟩ := h; rfl)
  · exact (pss_cons (ps_set (i := 3) sc__law_ways.nd rfl (Or.inl sc__law_ways_v3) (pe_op op_rep (pe_lst (pa_cons pe_bl pa_nil)) (pv 1)))
      (pss_cons (ps_set (i := 4) sc__law_ways.nd rfl (Or.inl sc__law_ways_v4) pe_int)
      (pss_cons (ps_for (passes_of rfl) rfl (pi_list (pv 2)) (pg_name (i := 5) sc__law_ways.nd rfl (Or.inl sc__law_ways_v5))
      (pss_cons (ps_set (i := 6) sc__law_ways.nd rfl (Or.inl sc__law_ways_v6) (pe_cal cal__law_home hr (by decide) (by rfl) passN (pa_cons (pv 0) (pa_cons (pv 5) (pa_cons (pv 1) pa_nil)))))
      (pss_cons (ps_while (passes_of rfl) (pt_val (pe_ix ix_list (pv 3) (pv 6) (fun _ _ => rfl)))
      (pss_cons (ps_set (i := 6) sc__law_ways.nd rfl (Or.inl sc__law_ways_v6) (pe_op op_mod (pe_op op_add (pv 6) pe_int) (pv 1)))
      (pss_one (ps_set (i := 4) sc__law_ways.nd rfl (Or.inl sc__law_ways_v4) (pe_op op_add (pv 4) pe_int)))))
      (pss_one (ps_asg pe_bl (pg_sub (pv 3) (pv 6) set_list))))))
      (pss_one (ps_ret (pv 4))))))
theorem sc__law_choices : FnScope ["_law_limit", "_law_many", "_law_found", "_law_key", "_law_one"] ["_law_limit", "_law_many"] (defScope s__law_choices) := ⟨rfl, rfl, rfl, by decide +kernel, rfl, by decide +kernel, by decide +kernel⟩
theorem sc__law_choices_v0 : (defScope s__law_choices).names.lookup ("_law_limit" : Str) = some .local := by decide +kernel
theorem sc__law_choices_v1 : (defScope s__law_choices).names.lookup ("_law_many" : Str) = some .cell := by decide +kernel
theorem sc__law_choices_v2 : (defScope s__law_choices).names.lookup ("_law_found" : Str) = some .local := by decide +kernel
theorem sc__law_choices_v3 : (defScope s__law_choices).names.lookup ("_law_key" : Str) = some .cell := by decide +kernel
def t__law_choices (K : PySem.W.Frag) (cs : Cs) (E : XK) : TS :=
  (tSeq (tAsg (tLst (tCons (tLst tNil) tNil)) (gName 2))
  (tSeq (tFor (iRng1 (tCons (tVar 0) tNil)) (gName 3)
  (tAsg (tOp rCat (tVar 2) (tLc (iList K (tVar 2)) (gName 4) (tTest (tOp (rI0 fun i j => .bl (decide (i < j))) (tCB (fun xs H Q => ∃ p ys, xs = [V.ref p] ∧ (SqL K H p ys ∨ SqT K H p ys) ∧ Q (.int ys.length) H) (tCons (tVar 4) tNil)) (tVar 1))) (tOp rCat (tVar 4) (tLst (tCons (tVar 3) tNil))) [4])) (gName 2)))
  (tRet (tLc (iList K (tVar 2)) (gName 4) (tTest (tOp rEq (tCB (fun xs H Q => ∃ p ys, xs = [V.ref p] ∧ (SqL K H p ys ∨ SqT K H p ys) ∧ Q (.int ys.length) H) (tCons (tVar 4) tNil)) (tVar 1))) (tVar 4) [4]))))
def choicesN (many limit : Nat) : List (List Nat) := (chN many limit).filter fun one => decide (one.length = many)
def sp__law_choices (K : PySem.W.Frag) (_ : Cs) : Sp := fun vs H Q _ => ∃ (limit many : Nat), vs = [.int (limit : Int), .int (many : Int)] ∧ limit ≤ 12 ∧ many ≤ 64 ∧ ∀ (H' : Hp) (p : Addr) (ps : List Addr), Ex H H' → H' p = some (.lst (ps.map V.ref)) → NLs H' ps (choicesN many limit) → upR Q (.ref p) H'
theorem c__law_choices {K : PySem.W.Frag} {cs : Cs} {H : Hp} {limit many : Nat} {i j : Int} {Q : PV} {E : XK} (hi : i = limit) (hj : j = many) (h12 : limit ≤ 12) (hm : many ≤ 64) (k : ∀ (H' : Hp) (p : Addr) (ps : List Addr), Ex H H' → H' p = some (.lst (ps.map V.ref)) → NLs H' ps (choicesN many limit) → Q (.ref p) H') : kC (fun ws H Q => sp__law_choices K cs ws H Q E) [.int i, .int j] H Q := by
  subst hi hj
  exact fun H1 e _ q => ⟨limit, many, rfl, h12, hm, fun H' p ps e1 h1 h2 H2 e2 => q _ _ _ (k H' p ps (e.tr e1) h1 h2) e2⟩
theorem pure__law_choices {K : PySem.W.Frag} {cs : Cs} {H : Hp} {vs : List V} {Q : VK} {E : XK} (h : sp__law_choices K cs vs H Q E) : t__law_choices K cs E { nx := fun _ H' => Q .non H', rt := Q } (start ["_law_limit", "_law_many", "_law_found", "_law_key", "_law_one"] vs) H := by
  obtain ⟨limit, many, rfl, h12, hm, q⟩ := h
  refine fin (σ := [some (.int (limit : Int)), some (.int (many : Int)), none, none, none]) ?_
  unfold t__law_choices
  k_clsL
  rename_i l0 hl0 f0 hf0
  refine s_for1 limit (fun i s H1 => Ex H H1 ∧ ∃ f ps z3 z4, s = [some (.int (limit : Int)), some (.int (many : Int)), some (.ref f), z3, z4] ∧ H1 f = some (.lst (ps.map V.ref)) ∧ NLs H1 ps (chN many i)) ?_
  k_clsL
  refine ⟨rfl, by omega, ⟨(Ex.news hl0).newr hf0, f0, [l0], none, none, rfl, upd_same, .cons (b := []) (at_new hf0 upd_same) .nil⟩, ?_, ?_⟩
  · rintro i s H1 hi ⟨e1, f, ps, z3, z4, rfl, hf1, hN⟩
    have hlen : ps.length ≤ 4096 := by
      rw [hN.len]
      exact Nat.le_trans (chN_len i) (Nat.pow_le_pow_right (by decide) (by omega : i ≤ 12))
    k_clsL
    refine e_lc ?_
    k_clsL
    intro D hD
    refine ⟨fun j H2 => Ex H1 H2 ∧ ∃ qs : List Addr, H2 D = some (.lst (qs.map V.ref)) ∧ NLs H2 qs ((((chN many i).take j).filter fun one => decide (one.length < many)).map fun one => one ++ [i]) ∧ ∀ x ∈ qs, x ≠ D, ⟨Ex.news hD, [], upd_same, .nil, fun _ h => absurd h List.not_mem_nil⟩, fun j H2 _ h => SqL.of (h.1 _ _ hf1), ?_, ?_⟩
    · rintro j H2 hj ⟨e2, qs, hD2, hN2, hne⟩ x hx
      have hj2 : j < ps.length := by simpa using hj
      rw [List.getElem?_map, List.getElem?_eq_getElem hj2] at hx
      have hx : V.ref ps[j] = x := Option.some.inj hx
      subst hx
      obtain ⟨one, ho1, ho2⟩ := hN.at (List.getElem?_eq_getElem hj2)
      have ho3 := e2 _ _ ho2
      have htk : (chN many i).take (j + 1) = (chN many i).take j ++ [one] := by
        rw [List.take_succ, ho1]
        rfl
      refine g_name ⟨rfl, ?_⟩
      k_clsL
      rw [List.length_map]
      refine ⟨fun hb => ?_, fun hb => ?_⟩
      · have hb : one.length < many := by have := of_decide_eq_true hb; omega
        k_clsL
        rename_i l1 hl1
        refine r_cat (at_new hl1 ho3) upd_same (Nat.le_trans (by rw [List.length_map, List.length_singleton]; omega : _ ≤ 100) (by decide)) fun p hp => ?_
        have hD3 : (upd (upd H2 l1 (.lst [.int (i : Int)])) p (.lst ((one.map fun n : Nat => V.int (n : Int)) ++ [.int (i : Int)]))) D = some (.lst (qs.map V.ref)) := at_new hp (at_new hl1 hD2)
        have e3 : Ex H2 (upd (upd H2 l1 (.lst [.int (i : Int)])) p (.lst ((one.map fun n : Nat => V.int (n : Int)) ++ [.int (i : Int)]))) := (Ex.news hl1).newr hp
        have hpD : p ≠ D := fun e => by
          rw [e, at_new hl1 hD2] at hp
          cases hp
        refine ⟨qs.map V.ref, _, hD3, ?_, ⟨(e2.tr e3).mutr hD, qs ++ [p], ?_, ?_, ?_⟩, Ex.rf⟩
        · rw [List.length_map, hN2.len, List.length_map]
          refine Nat.lt_of_le_of_lt (Nat.le_trans (List.length_filter_le _ _) (Nat.le_trans (List.length_take_le _ _) (by omega : j ≤ 4096))) (by decide)
        · rw [List.map_append]
          exact upd_same
        · rw [htk, List.filter_append, List.map_append]
          have hf : [one].filter (fun one => decide (one.length < many)) = [one] := by simp [hb]
          rw [hf]
          refine NLs.app ((hN2.up e3).keep hne) (.cons ?_ .nil)
          rw [upd_ne hpD, upd_same, List.map_append]
          rfl
        · intro x hx
          rcases List.mem_append.mp hx with hx | hx
          · exact hne x hx
          · rw [List.mem_singleton.mp hx]
            exact hpD
      · have hb : ¬ one.length < many := by have := of_decide_eq_false hb; omega
        refine ⟨H2, ⟨e2, qs, hD2, ?_, hne⟩, Ex.rf⟩
        rw [htk, List.filter_append, List.map_append]
        have hf : [one].filter (fun one => decide (one.length < many)) = [] := by simp [hb]
        rw [hf]
        simpa using hN2
    · rintro H2 ⟨e2, qs, hD2, hN2, hne⟩
      have hf2 := e2 _ _ hf1
      rw [List.length_map, List.take_of_length_le (Nat.le_of_eq hN.len.symm)] at hN2
      have hN3 : NLs H2 (ps ++ qs) (chN many (i + 1)) := NLs.app (hN.up e2) hN2
      have hlen2 : (ps ++ qs).length ≤ 4096 := by
        rw [hN3.len]
        exact Nat.le_trans (chN_len (i + 1)) (Nat.pow_le_pow_right (by decide) (by omega : i + 1 ≤ 12))
      rw [List.length_append] at hlen2
      refine r_cat hf2 hD2 (Nat.le_trans (by rw [List.length_map, List.length_map]; omega : _ ≤ 4096) (by decide)) fun p hp => ?_
      rw [← List.map_append]
      exact ⟨_, ⟨(e1.tr e2).newr hp, p, ps ++ qs, _, _, rfl, upd_same, hN3.up (Ex.news hp)⟩, Ex.rf⟩
  · rintro s H1 ⟨e1, f, ps, z3, z4, rfl, hf1, hN⟩
    have hlen : ps.length ≤ 4096 := by
      rw [hN.len]
      exact Nat.le_trans (chN_len limit) (Nat.pow_le_pow_right (by decide) (by omega : limit ≤ 12))
    k_clsL
    refine e_lc ?_
    k_clsL
    intro D hD
    refine ⟨fun j H2 => Ex H1 H2 ∧ ∃ qs : List Addr, H2 D = some (.lst (qs.map V.ref)) ∧ NLs H2 qs (((chN many limit).take j).filter fun one => decide (one.length = many)) ∧ ∀ x ∈ qs, x ≠ D, ⟨Ex.news hD, [], upd_same, .nil, fun _ h => absurd h List.not_mem_nil⟩, fun j H2 _ h => SqL.of (h.1 _ _ hf1), ?_, ?_⟩
    · rintro j H2 hj ⟨e2, qs, hD2, hN2, hne⟩ x hx
      have hj2 : j < ps.length := by simpa using hj
      rw [List.getElem?_map, List.getElem?_eq_getElem hj2] at hx
      have hx : V.ref ps[j] = x := Option.some.inj hx
      subst hx
      obtain ⟨one, ho1, ho2⟩ := hN.at (List.getElem?_eq_getElem hj2)
      have ho3 := e2 _ _ ho2
      have hpD : ps[j] ≠ D := fun e => by
        rw [← e, ho2] at hD
        cases hD
      have htk : (chN many limit).take (j + 1) = (chN many limit).take j ++ [one] := by
        rw [List.take_succ, ho1]
        rfl
      refine g_name ⟨rfl, ?_⟩
      k_clsL
      rw [List.length_map]
      refine ⟨fun hb => ?_, fun hb => ?_⟩
      · have hb : one.length = many := by have := of_decide_eq_true hb; omega
        k_clsL
        refine ⟨qs.map V.ref, _, hD2, ?_, ⟨e2.mutr hD, qs ++ [ps[j]], ?_, ?_, ?_⟩, Ex.rf⟩
        · rw [List.length_map, hN2.len]
          refine Nat.lt_of_le_of_lt (Nat.le_trans (List.length_filter_le _ _) (Nat.le_trans (List.length_take_le _ _) (by omega : j ≤ 4096))) (by decide)
        · rw [List.map_append]
          exact upd_same
        · rw [htk, List.filter_append]
          have hf : [one].filter (fun one => decide (one.length = many)) = [one] := by simp [hb]
          rw [hf]
          refine NLs.app (hN2.keep hne) (.cons ?_ .nil)
          rw [upd_ne hpD]
          exact ho3
        · intro x hx
          rcases List.mem_append.mp hx with hx | hx
          · exact hne x hx
          · rw [List.mem_singleton.mp hx]
            exact hpD
      · have hb : ¬ one.length = many := by have := of_decide_eq_false hb; omega
        refine ⟨H2, ⟨e2, qs, hD2, ?_, hne⟩, Ex.rf⟩
        rw [htk, List.filter_append]
        have hf : [one].filter (fun one => decide (one.length = many)) = [] := by simp [hb]
        rw [hf]
        simpa using hN2
    · rintro H2 ⟨e2, qs, hD2, hN2, hne⟩
      rw [List.length_map, List.take_of_length_le (Nat.le_of_eq hN.len.symm)] at hN2
      exact q H2 D qs (e1.tr e2) hD2 hN2
theorem ok__law_choices {P : Program} {w : World} {K : PySem.W.Frag} {mg : Str → Option Value} {base : Heap} {cs : Cs} (D__law_choices : Dn K mg "_law_choices" s__law_choices ["_law_limit", "_law_many"]) (m_range : mg "range" = none) (m_len : mg "len" = none) :
    Cal P w K mg base (L2N.CX P w) 1 "_law_choices" ["_law_limit", "_law_many"] (sp__law_choices K cs) := by
  refine cal_mk D__law_choices sc__law_choices (fun vs H Q E h => ?_) fun f cdv A outer s H vs Q E hr h => ⟨t__law_choices K cs E, ?_, pure__law_choices h⟩
  · unfold sp__law_choices at h
    first | (obtain ⟨rfl, _⟩ := h; rfl) | (obtain ⟨_, rfl, _⟩ := h; rfl) | (obtain ⟨_, _, rfl, _⟩ := h; rfl) | (obtain ⟨_, _, _, rfl, _⟩ := h; rfl) | (obtain ⟨_, _, _, _, rfl, _⟩ := h; rfl) | (obtain ⟨_, _, _, _, _, rfl, _⟩ := h; rfl) | (obtain ⟨_, _, _, _, _, _, rfl, _⟩ := h; rfl) | (obtain ⟨_, _, _, _, _, _, _, rfl, _⟩ := h; rfl) | (obtain ⟨_, _, _, _, _, _, _, _, rfl, _⟩ := h; rfl) | (obtain ⟨_, _, _, _, _, _, _, _, _, rfl, _⟩ := h; rfl) | (obtain ⟨_, _, _, _, _, _, _, _, _, _, rfl, _⟩ := h; rfl) | (obtain ⟨_, _, _, _, _, _, _, _, _, _, _, rfl, _⟩ := h; rfl) | (obtain ⟨_, _, _, _, _, _, _, _, _, _, _, _, rfl, _⟩ := h; rfl) | (obtain ⟨_, _, _, _, _, _, _, _, _, _, _, _, _, rfl, _⟩ := h; rfl) | (obtain ⟨_, _, _, _, _, _, _, _, _, _, _, _, _, _, rfl, _⟩ := h; rfl) | (obtain ⟨_, _, _, _, _, _, _, _, _, _, _, _, _, _, _, rfl, _⟩ := h; rfl)
  · exact (pss_cons (ps_set (i := 2) sc__law_choices.nd rfl (Or.inl sc__law_choices_v2) (pe_lst (pa_cons (pe_lst pa_nil) pa_nil)))
      (pss_cons (ps_for (passes_of rfl) rfl (pi_range1 (by rfl) m_range (pa_cons (pv 0) pa_nil)) (pg_name (i := 3) sc__law_choices.nd rfl (Or.inr sc__law_choices_v3))
      (pss_one (ps_set (i := 2) sc__law_choices.nd rfl (Or.inl sc__law_choices_v2) (pe_op op_cat (pv 2) (pe_lc (own := [("_law_one", 4)]) (g := (gName 4)) (tt := (tTest (tOp (rI0 fun i j => .bl (decide (i < j))) (tCB (fun xs H Q => ∃ p ys, xs = [V.ref p] ∧ (SqL K H p ys ∨ SqT K H p ys) ∧ Q (.int ys.length) H) (tCons (tVar 4) tNil)) (tVar 1)))) (by rfl) sc__law_choices.nd (pi_list (pv 2)) (blkOk_by (own := [("_law_one", 4)]) (N := ["_law_limit", "_law_many", "_law_found", "_law_key", "_law_one"]) (sc := defScope s__law_choices) (by decide +kernel)) (fun _ _ _ _ _ => (pg_name (i := 4) sc__law_choices.nd rfl (Or.inl rfl))) (fun _ _ _ _ _ => (pts_one (pt_cmpR op_lt (pe_callB call_len_seq (by rfl) m_len (by decide +kernel) (pa_cons (pv 4) pa_nil)) (pv 1) (nomark _)))) (fun _ _ _ _ _ => (pe_op op_cat (pv 4) (pe_lst (pa_cons (pv 3) pa_nil)))))))))
      (pss_one (ps_ret (pe_lc (own := [("_law_one", 4)]) (g := (gName 4)) (tt := (tTest (tOp rEq (tCB (fun xs H Q => ∃ p ys, xs = [V.ref p] ∧ (SqL K H p ys ∨ SqT K H p ys) ∧ Q (.int ys.length) H) (tCons (tVar 4) tNil)) (tVar 1)))) (by rfl) sc__law_choices.nd (pi_list (pv 2)) (blkOk_by (own := [("_law_one", 4)]) (N := ["_law_limit", "_law_many", "_law_found", "_law_key", "_law_one"]) (sc := defScope s__law_choices) (by decide +kernel)) (fun _ _ _ _ _ => (pg_name (i := 4) sc__law_choices.nd rfl (Or.inl rfl))) (fun _ _ _ _ _ => (pts_one (pt_cmpR op_eq (pe_callB call_len_seq (by rfl) m_len (by decide +kernel) (pa_cons (pv 4) pa_nil)) (pv 1) (nomark _)))) (fun _ _ _ _ _ => (pv 4)))))))
theorem sc_law : FnScope ["_law_script", "_law_k", "_law_more", "_law_rule_here", "_law_size", "_law_limit", "_law_many", "_law_found", "_law_keys_here", "_law_far", "_law_same", "_law_some", "_law_one", "_law_key"] ["_law_script"] (defScope s_law) := ⟨rfl, rfl, rfl, by decide +kernel, rfl, by decide +kernel, by decide +kernel⟩
theorem sc_law_v0 : (defScope s_law).names.lookup ("_law_script" : Str) = some .local := by decide +kernel
theorem sc_law_v1 : (defScope s_law).names.lookup ("_law_k" : Str) = some .local := by decide +kernel
theorem sc_law_v2 : (defScope s_law).names.lookup ("_law_more" : Str) = some .local := by decide +kernel
theorem sc_law_v3 : (defScope s_law).names.lookup ("_law_rule_here" : Str) = some .cell := by decide +kernel
theorem sc_law_v4 : (defScope s_law).names.lookup ("_law_size" : Str) = some .cell := by decide +kernel
theorem sc_law_v5 : (defScope s_law).names.lookup ("_law_limit" : Str) = some .cell := by decide +kernel
theorem sc_law_v6 : (defScope s_law).names.lookup ("_law_many" : Str) = some .local := by decide +kernel
theorem sc_law_v7 : (defScope s_law).names.lookup ("_law_found" : Str) = some .local := by decide +kernel
theorem sc_law_v8 : (defScope s_law).names.lookup ("_law_keys_here" : Str) = some .local := by decide +kernel
theorem sc_law_v9 : (defScope s_law).names.lookup ("_law_far" : Str) = some .local := by decide +kernel
theorem sc_law_v10 : (defScope s_law).names.lookup ("_law_same" : Str) = some .local := by decide +kernel
theorem sc_law_v11 : (defScope s_law).names.lookup ("_law_some" : Str) = some .local := by decide +kernel
def t_law_c9 (K : PySem.W.Frag) (cs : Cs) (E : XK) : TS :=
  (tSeq (tAsg (tLst (tCons (tTup (tCons (tC .non) (tCons (tC (.int 1)) (tCons (tC (.int 9)) (tCons (tC (.int 9)) tNil))))) (tCons (tTup (tCons (tVar 3) (tCons (tC (.int 1)) (tCons (tC (.int 0)) (tCons (tC (.int 4)) tNil))))) (tCons (tTup (tCons (tVar 3) (tCons (tC (.int 8)) (tCons (tC (.int 8)) (tCons (tC (.int 9)) tNil))))) (tCons (tTup (tCons (tVar 3) (tCons (tC (.int 8)) (tCons (tC (.int 3)) (tCons (tC (.int 2)) tNil))))) tNil))))) (gName 11))
  (tSeq (tAsg (tOp rCat (tVar 11) (tLst (tCons (tTup (tCons (tVar 3) (tCons (tC (.int 8)) (tCons (tC (.int 3)) (tCons (tC (.int 65)) tNil))))) (tCons (tTup (tCons (tVar 3) (tCons (tC (.int 8)) (tCons (tUn (rU fun i => .int (-i)) (tC (.int 1))) (tCons (tC (.int 4)) tNil))))) tNil)))) (gName 11))
  (tIfS (tTest (tOp (rNeD K) (tLc (iList K (tVar 11)) (gName 12) tYes (tCall (sp__law_told K cs) [] E0 (tCons (tOp (rIxT K) (tVar 12) (tC (.int 0))) (tCons (tOp (rIxT K) (tVar 12) (tC (.int 1))) (tCons (tOp (rIxT K) (tVar 12) (tC (.int 2))) (tCons (tOp (rIxT K) (tVar 12) (tC (.int 3))) tNil))))) [12]) (tOp rCat (tLst (tCons (tC (.str "BadRule")) tNil)) (tOp rRep (tLst (tCons (tC (.str "BadSize")) tNil)) (tC (.int 5))))))
  (tRet (tC (.bl false)))
  tNext)))
def t_law_c8 (K : PySem.W.Frag) (cs : Cs) (E : XK) : TS :=
  (tSeq (tAsg (tTup (tCons (tC (.str "told")) (tCons (tTup (tCons (tC (.int 3)) tNil)) tNil))) (gName 10))
  (tSeq (tIfS (tOr (tTest (tOp rNe (tOp (rIxT K) (tCall (sp__law_told K cs) [] E0 (tCons (tVar 10) (tCons (tC (.int 64)) (tCons (tC (.int 40)) (tCons (tC (.int 64)) tNil))))) (tC (.int 1))) (tC (.int 780)))) (tTest (tOp rNe (tCall (sp__law_told K cs) [] E0 (tCons (tTup (tCons (tC (.str "times")) (tCons (tC (.int 1)) (tCons (tC (.int 0)) tNil)))) (tCons (tC (.int 32)) (tCons (tC (.int 12)) (tCons (tC (.int 32)) tNil))))) (tC (.str "TooMany")))))
  (tRet (tC (.bl false)))
  tNext)
  (t_law_c9 K cs E)))
def t_law_c7 (K : PySem.W.Frag) (cs : Cs) (E : XK) : TS :=
  (tSeq (tIfS (tTest (tOp rNe (tCB (rMax K) (tCons (tLc (iList K (tCall (sp__law_choices K cs) [] E0 (tCons (tVar 5) (tCons (tVar 6) tNil)))) (gName 12) tYes (tCall (sp__law_ways K cs) [] E0 (tCons (tVar 3) (tCons (tVar 4) (tCons (tVar 12) tNil)))) [12]) tNil)) (tVar 9)))
  (tRet (tC (.bl false)))
  tNext)
  (t_law_c8 K cs E))
def t_law_c6 (K : PySem.W.Frag) (cs : Cs) (E : XK) : TS :=
  (tSeq (tIfS (tTest (tOp rNe (tVar 9) (tCall (sp__law_ways K cs) [] E0 (tCons (tVar 3) (tCons (tVar 4) (tCons (tVar 8) tNil))))))
  (tRet (tC (.bl false)))
  tNext)
  (t_law_c7 K cs E))
def t_law_c5 (K : PySem.W.Frag) (cs : Cs) (E : XK) : TS :=
  (tSeq (tIfS (tOr (tTest (tOp (rNeD K) (tVar 8) (tSortSet K (tVar 8)))) (tOr (tTest (tOp rNe (tCB (fun xs H Q => ∃ p ys, xs = [V.ref p] ∧ (SqL K H p ys ∨ SqT K H p ys) ∧ Q (.int ys.length) H) (tCons (tVar 8) tNil)) (tVar 6))) (tNot (tB (tCB (rAll K) (tCons (tLc (iList K (tVar 8)) (gName 13) tYes (tChain (rI0 fun i j => .bl (decide (i ≤ j))) (rI0 fun i j => .bl (decide (i < j))) (tC (.int 0)) (tVar 13) (tVar 5)) [13]) tNil))))))
  (tRet (tC (.bl false)))
  tNext)
  (t_law_c6 K cs E))
def t_law_c4 (K : PySem.W.Frag) (cs : Cs) (E : XK) : TS :=
  (tSeq (tAsg (tVar 7) (gTup K 2 (gCons (gName 8) (gCons (gName 9) gNil))))
  (t_law_c5 K cs E))
def t_law_c3 (K : PySem.W.Frag) (cs : Cs) (E : XK) : TS :=
  (tSeq (tIfS (tTest (tOp (rNeD K) (tVar 7) (tCall (sp__law_told K cs) [] E0 (tCons (tVar 3) (tCons (tVar 4) (tCons (tVar 6) (tCons (tVar 5) tNil)))))))
  (tRet (tC (.bl false)))
  tNext)
  (t_law_c4 K cs E))
def t_law_c2 (K : PySem.W.Frag) (cs : Cs) (E : XK) : TS :=
  (tSeq (tIfS (tOr (tNot (tB (tCB (rIsi K) (tCons (tVar 7) (tCons (tC (.ty "tuple")) tNil))))) (tNot (tB (tCB (rIsi K) (tCons (tOp (rIxT K) (tVar 7) (tC (.int 0))) (tCons (tC (.ty "list")) tNil))))))
  (tRet (tC (.bl false)))
  tNext)
  (t_law_c3 K cs E))
def t_law_c1 (K : PySem.W.Frag) (cs : Cs) (E : XK) : TS :=
  (tSeq (tAsg (tCall (sp__law_told K cs) [] E0 (tCons (tVar 3) (tCons (tVar 4) (tCons (tVar 6) (tCons (tVar 5) tNil))))) (gName 7))
  (t_law_c2 K cs E))
def t_law (K : PySem.W.Frag) (cs : Cs) (E : XK) : TS :=
  (tSeq (tFor (iRng1 (tCons (tCB (fun xs H Q => ∃ i j, xs = [V.int i, .int j] ∧ Q (.int (if j > i then j else i)) H) (tCons (tC (.int 1)) (tCons (tCB (fun xs H Q => ∃ i j, xs = [V.int i, .int j] ∧ Q (.int (if j < i then j else i)) H) (tCons (tC (.int 2)) (tCons (tCB (fun xs H Q => ∃ p ys, xs = [V.ref p] ∧ (SqL K H p ys ∨ SqT K H p ys) ∧ Q (.int ys.length) H) (tCons (tVar 0) tNil)) tNil))) tNil))) tNil)) (gName 1)
  (tSeq (tAsg (tCall (sp__law_drawn K cs) [] E0 (tCons (tCall (sp__law_cell K cs) [] E0 (tCons (tVar 0) (tCons (tVar 1) tNil))) (tCons (tVar 1) tNil))) (gName 2))
  (tSeq (tAsg (tCall (sp__law_rule K cs) [] E0 (tCons (tVar 2) tNil)) (gName 3))
  (tSeq (tAsg (tOp (rI0 fun i j => .int (i + j)) (tC (.int 2)) (tOp (rI (fun _ j => 0 < j) fun i j => .int (i % j)) (tOp (rI CDivW fun i j => .int (i / j)) (tVar 2) (tC (.int 8))) (tC (.int 7)))) (gName 4))
  (tSeq (tAsg (tOp (rI (fun _ j => 0 < j) fun i j => .int (i % j)) (tOp (rI CDivW fun i j => .int (i / j)) (tVar 2) (tC (.int 64))) (tC (.int 10))) (gName 5))
  (tSeq (tAsg (tOp (rI (fun _ j => 0 < j) fun i j => .int (i % j)) (tOp (rI CDivW fun i j => .int (i / j)) (tVar 2) (tC (.int 1024))) (tOp (rI0 fun i j => .int (i + j)) (tCB (rNuC3 nuMin3) (tCons (tVar 5) (tCons (tOp (rI0 fun i j => .int (i - j)) (tVar 4) (tC (.int 1))) (tCons (tC (.int 5)) tNil)))) (tC (.int 1)))) (gName 6))
  (t_law_c1 K cs E)))))))
  (tRet (tC (.bl true))))
def tlD (ms : List Int) (f : Int) : PyData := .tuple [.list (ms.map PyData.int), .int f]
theorem dep_i : ∀ ms : List Int, PyData.depthAll (ms.map PyData.int) = 0
  | [] => rfl
  | x :: ms => by
    simp only [List.map_cons, PyData.depthAll, dep_i ms]
    rfl
theorem shaped_tl (ms : List Int) (f : Int) : SeqAt.shaped (tlD ms f) = true := by
  have hl : (PyData.list (ms.map PyData.int)).canLay0 = true ∧ (PyData.list (ms.map PyData.int)).depth ≤ 50 := by
    obtain ⟨h1, _⟩ := lay_all (ds := ms.map PyData.int) fun d hd => by
      obtain ⟨x, _, rfl⟩ := List.mem_map.mp hd
      exact ⟨rfl, Nat.zero_le _⟩
    refine ⟨by unfold PyData.canLay0; exact h1, ?_⟩
    unfold PyData.depth
    rw [dep_i]
    decide
  obtain ⟨h1, h2⟩ := lay_all (ds := [.list (ms.map PyData.int), .int f]) fun d hd => by
    simp only [List.mem_cons, List.not_mem_nil, or_false] at hd
    rcases hd with rfl | rfl
    · exact hl
    · exact ⟨rfl, Nat.zero_le _⟩
  have h3 : PyData.depth (tlD ms f) ≤ 64 := by
    unfold tlD PyData.depth
    first | exact Nat.le_trans (Nat.succ_le_succ h2) (by decide) | exact Nat.le_trans (Nat.add_le_add_left h2 1) (by decide)
  have h4 : PyData.canLay0 (tlD ms f) = true := by
    unfold tlD PyData.canLay0
    exact h1
  unfold SeqAt.shaped
  rw [h4, decide_eq_true h3]
  rfl
theorem r_neTL {K : PySem.W.Frag} {H : Hp} {Q : PV} {p q a b : Addr} {ms : List Int} {f : Int} (h1 : H p = some (.tup [.ref a, .int f])) (h2 : H q = some (.tup [.ref b, .int f])) (ha : H a = some (.lst (ms.map V.int))) (hb : H b = some (.lst (ms.map V.int))) (k : Q (.bl false) H) : kR (rNeD K) (.ref p) (.ref q) H Q := by
  have dp : ∀ {p a : Addr}, H p = some (.tup [.ref a, .int f]) → H a = some (.lst (ms.map V.int)) → Dp K H (.ref p) (tlD ms f) := fun h1 h2 => .tup (SqT.of h1) (.cons (.lst (SqL.of h2) (dp_ints ms)) (.cons (.int f) .nil))
  refine r_neD (dp h1 ha) (dp h2 hb) (shaped_tl ms f) (shaped_tl ms f) (b := true) ?_ k
  have e1 := eqv_ints ms ms
  rw [decide_eq_true rfl] at e1
  simp only [tlD, PyData.eqv, PyData.eqvAll] at e1 ⊢
  simp [e1]
theorem strict_one {a b : List Int} (h1 : a.Pairwise (· < ·)) (h2 : b.Pairwise (· < ·)) (h : ∀ k, k ∈ a ↔ k ∈ b) : a = b :=
  sorted_one ((List.perm_ext_iff_of_nodup (h1.imp fun h => by omega) (h2.imp fun h => by omega)).mpr h) (h1.imp fun h => by omega) (h2.imp fun h => by omega)
theorem kE_gen {te : TE} {σ : Sg} {H : Hp} {Q : PV} (P : Hp → Prop) (h : P H) (k : ∀ H', P H' → kE te σ H' Q) : kE te σ H Q := k H h
def sp_law (K : PySem.W.Frag) (_ : Cs) : Sp := spLaw K
theorem pure_law {K : PySem.W.Frag} {cs : Cs} {H : Hp} {vs : List V} {Q : VK} {E : XK} (h : sp_law K cs vs H Q E) : t_law K cs E { nx := fun _ H' => Q .non H', rt := Q } (start ["_law_script", "_law_k", "_law_more", "_law_rule_here", "_law_size", "_law_limit", "_law_many", "_law_found", "_law_keys_here", "_law_far", "_law_same", "_law_some", "_law_one", "_law_key"] vs) H := by
  obtain ⟨a, ns, rfl, hS, hl, q⟩ := h
  refine fin (σ := [some (.ref a), none, none, none, none, none, none, none, none, none, none, none, none, none]) ?_
  unfold t_law
  obtain ⟨n, hn, hn63⟩ : ∃ n : Nat, (if (if (((ns.map V.int).length : Nat) : Int) < 2 then (((ns.map V.int).length : Nat) : Int) else 2) > 1 then (if (((ns.map V.int).length : Nat) : Int) < 2 then (((ns.map V.int).length : Nat) : Int) else 2) else 1) = (n : Int) ∧ n ≤ 63 :=
    nat_of (by split <;> split <;> omega) (by split <;> split <;> omega)
  k_clsL
  refine s_for1 n (fun i σ H1 => Ex H H1 ∧ ∃ y1 y2 y3 y4 y5 y6 y7 y8 y9 y10 y11, σ = [some (.ref a), y1, y2, y3, y4, y5, y6, y7, y8, y9, y10, y11, none, none]) ?_
  k_clsL
  refine ⟨by rw [hn], by omega, ⟨Ex.rf, none, none, none, none, none, none, none, none, none, none, none, rfl⟩, ?_, ?_⟩
  · rintro i σ H1 hi ⟨eH, y1, y2, y3, y4, y5, y6, y7, y8, y9, y10, y11, rfl⟩
    have hS := eH.sl hS
    k_clsL
    rename_i z1 m hm v r H2 e2 hr ho
    obtain ⟨n, hn, h2, h8⟩ : ∃ n : Nat, (2 : Int) + (m : Int) / 8 % 7 = (n : Int) ∧ 2 ≤ n ∧ n ≤ 8 := ⟨2 + m / 8 % 7, by omega, by omega, by omega⟩
    obtain ⟨limit, hlim, h9⟩ : ∃ limit : Nat, (m : Int) / 64 % 10 = (limit : Int) ∧ limit ≤ 9 := ⟨m / 64 % 10, by omega, by omega⟩
    rw [hn, hlim]
    obtain ⟨w, hw, hw1, hw2, hw3⟩ : ∃ w : Nat, (if (5 : Int) < (if (n : Int) - 1 < (limit : Int) then (n : Int) - 1 else (limit : Int)) then 5 else (if (n : Int) - 1 < (limit : Int) then (n : Int) - 1 else (limit : Int))) = (w : Int) ∧ w ≤ limit ∧ w < n ∧ w ≤ 5 := by
      by_cases c1 : (n : Int) - 1 < (limit : Int)
      · rw [if_pos c1]
        by_cases c2 : (5 : Int) < (n : Int) - 1
        · rw [if_pos c2]
          exact ⟨5, rfl, by omega, by omega, by omega⟩
        · rw [if_neg c2]
          exact ⟨n - 1, by omega, by omega, by omega, by omega⟩
      · rw [if_neg c1]
        by_cases c2 : (5 : Int) < (limit : Int)
        · rw [if_pos c2]
          exact ⟨5, rfl, by omega, by omega, by omega⟩
        · rw [if_neg c2]
          exact ⟨limit, by omega, by omega, by omega, by omega⟩
    rw [hw]
    obtain ⟨many, hmany, hm1⟩ : ∃ many : Nat, (m : Int) / 1024 % ((w : Int) + 1) = (many : Int) ∧ many ≤ w := ⟨m / 1024 % (w + 1), by push_cast; rfl, by have : m / 1024 % (w + 1) < w + 1 := Nat.mod_lt _ (by omega); omega⟩
    rw [hmany]
    have hmn : many < n := by omega
    have hml : many ≤ limit := by omega
    have hh : ∀ k, (fun k => homeN r k n) k < n := hN_lt (by omega)
    have few : ∀ k, k ≤ n → (dealtK (roomK (fun k => homeN r k n) n limit) many k).length ≤ 4000 := fun k hk => Nat.le_trans (dealt_small hh h9 k hk) (by decide)
    have pre : ∀ k, k < n → (∀ j, j ≤ k → (dealtK (roomK (fun k => homeN r k n) n limit) many j).length ≤ 4000) → (dealtK (roomK (fun k => homeN r k n) n limit) many (k + 1)).length ≤ 90000 := fun k hk _ => Nat.le_trans (dealt_small hh h9 (k + 1) hk) (by decide)
    have eH2 := eH.tr e2
    clear hw hmany hn hlim e2 hS eH
    unfold t_law_c1
    k_clsL
    refine c__law_told (.inr ⟨r, hr, ho, .inr ⟨n, rfl, h2, by omega, .inr ⟨many, rfl, hmn, .inr ⟨limit, rfl, hml, by omega, pre, .inr ⟨few, fun H3 p q2 ms far e3 hp hq W => ?_⟩⟩⟩⟩⟩)
    obtain ⟨w1, w2, w3, w4, w5⟩ := W.law hh hmn hml
    have hms9 : ∀ k ∈ ms, k ≤ 999999 := fun k hk => by have := w3 k hk; omega
    k_clsL
    unfold t_law_c2
    k_clsL
    unfold t_law_c3
    k_clsL
    have hr3 := hr.up e3
    refine c__law_told (.inr ⟨r, hr3, ho, .inr ⟨n, rfl, h2, by omega, .inr ⟨many, rfl, hmn, .inr ⟨limit, rfl, hml, by omega, pre, .inr ⟨few, fun H4 p' q' ms' far' e4 hp' hq' W' => ?_⟩⟩⟩⟩⟩)
    obtain ⟨rfl, rfl⟩ := W.uniq W'
    have hp4 := e4 _ _ hp
    have hq4 := e4 _ _ hq
    rw [← nI_v] at hq4 hq'
    refine r_neTL (ms := nI ms) hp4 hp' hq4 hq' ?_
    have eH4 := (eH2.tr e3).tr e4
    have hr4 := hr3.up e4
    have hq5 := hq4
    rw [nI_v] at hq5
    clear hp hq hp' hq' W' hr3 e3 e4
    k_clsL
    unfold t_law_c4
    k_clsL
    unfold t_law_c5
    k_clsL
    refine ⟨by rw [nI_len]; omega, fun ws p5 H5 k1 k2 e5 k3 k4 => ?_⟩
    have ew : nI ms = ws := strict_one (List.pairwise_map.mpr (w1.imp fun h => by omega)) k1 fun k => (k2 k).symm
    subst ew
    refine r_neIs (ns := nI ms) (ms := nI ms) (SqL.of (e5 _ _ hq4)) (SqL.of k4) ?_
    have hq6 := e5 _ _ hq5
    have eH5 := eH4.tr e5
    have hr5 := hr4.up e5
    clear k1 k2 k3 k4 hq4 hq5 hp4 hr4 e5
    k_clsL
    refine ndec2 (fun h => absurd rfl h) fun _ => ?_
    k_clsL
    rw [List.length_map, w2]
    k_clsL
    refine ndec2 (fun h => absurd rfl h) fun _ => ?_
    k_clsL
    refine e_lcZ ?_
    k_clsL
    refine ⟨SqL.of hq6, by rw [List.length_map]; omega, ms.map fun _ => V.bl true, by simp, ?_, ?_⟩
    · intro D acc j hD hj x hx
      have hj2 : j < ms.length := by simpa using hj
      rw [List.getElem?_map, List.getElem?_eq_getElem hj2] at hx
      have hx : V.int ((ms[j] : Nat) : Int) = x := Option.some.inj hx
      subst hx
      have hlt := w3 _ (List.getElem_mem hj2)
      have hz : (ms.map fun _ => V.bl true)[j]? = some (.bl true) := by rw [List.getElem?_map, List.getElem?_eq_getElem hj2]; rfl
      refine g_name ⟨rfl, t_yes ⟨rfl, ?_⟩⟩
      k_clsL
      rw [decide_eq_true (by omega)]
      exact ⟨hz, Ex.rf⟩
    intro D hD
    k_clsL
    have hbt : (ms.map fun _ => V.bl true) = (ms.map fun _ => true).map V.bl := by rw [List.map_map]; rfl
    rw [hbt]
    refine c_all (SqL.of upd_same) ?_
    have hall : (ms.map fun _ => true).all id = true := by simp
    rw [hall]
    have e6 : Ex H5 (upd H5 D (.lst ((ms.map fun _ => true).map V.bl))) := Ex.news hD
    generalize upd H5 D (.lst ((ms.map fun _ => true).map V.bl)) = H6 at *
    have hq7 := e6 _ _ hq6
    have hr6 := hr5.up e6
    have eH6 := eH5.tr e6
    clear hq6 hr5 e6 eH5 hD
    k_clsL
    unfold t_law_c6
    k_clsL
    refine c__law_ways (ks := ms) rfl hr6 ho h2 (by omega) (SqL.of hq7) (by omega) hms9 fun H7 e7 => ?_
    rw [w4]
    k_clsL
    refine ndec2 (fun h => absurd rfl h) fun _ => ?_
    have hr7 := hr6.up e7
    have eH7 := eH6.tr e7
    clear hq7 hr6 eH6 e7
    k_clsL
    unfold t_law_c7
    k_clsL
    refine e_lcZ ?_
    k_clsL
    refine c__law_choices rfl rfl (by omega) (by omega) fun H8 pc pcs e8 hpc hN => ?_
    have hr8 := hr7.up e8
    have eH8 := eH7.tr e8
    have hch : ∀ one ∈ choicesN many limit, one.Pairwise (· < ·) ∧ (∀ x ∈ one, x < limit) ∧ one.length = many := fun one ho1 => by
      obtain ⟨q1, q2⟩ := List.mem_filter.mp ho1
      obtain ⟨a1, a2, _⟩ := chN_mem.mp q1
      exact ⟨a1, a2, of_decide_eq_true q2⟩
    have hclen : pcs.length ≤ 512 := by
      rw [hN.len]
      exact Nat.le_trans (List.length_filter_le _ _) (Nat.le_trans (chN_len limit) (Nat.pow_le_pow_right (by decide) h9))
    refine ⟨pc, _, rfl, SqL.of hpc, SqL.of hpc, by rw [List.length_map]; omega, (choicesN many limit).map fun one => V.int ((wayN n (one.map fun k => homeN r k n) : Nat) : Int), by rw [List.length_map, List.length_map, hN.len], ?_, ?_⟩
    · intro D acc j hD hj x hx
      have hj2 : j < pcs.length := by simpa using hj
      rw [List.getElem?_map, List.getElem?_eq_getElem hj2] at hx
      have hx : V.ref pcs[j] = x := Option.some.inj hx
      subst hx
      obtain ⟨one, ho1, ho2⟩ := hN.at (List.getElem?_eq_getElem hj2)
      obtain ⟨a1, a2, a3⟩ := hch one (List.mem_of_getElem? ho1)
      have hz : ((choicesN many limit).map fun one => V.int ((wayN n (one.map fun k => homeN r k n) : Nat) : Int))[j]? = some (.int ((wayN n (one.map fun k => homeN r k n) : Nat) : Int)) := by rw [List.getElem?_map, ho1]; rfl
      refine g_name ⟨rfl, t_yes ⟨rfl, ?_⟩⟩
      k_clsL
      refine c__law_ways (ks := one) rfl (hr8.up (Ex.news hD)) ho h2 (by omega) (SqL.of ((Ex.news (o := .lst acc) hD) _ _ ho2)) (by omega) (fun k hk => by have := a2 k hk; omega) fun H9 e9 => ?_
      exact ⟨hz, e9⟩
    intro D hD
    k_clsL
    have hmm : ((choicesN many limit).map fun one => V.int ((wayN n (one.map fun k => homeN r k n) : Nat) : Int)) = ((choicesN many limit).map fun one => ((wayN n (one.map fun k => homeN r k n) : Nat) : Int)).map V.int := by rw [List.map_map]; rfl
    have hin : ms ∈ choicesN many limit := List.mem_filter.mpr ⟨chN_mem.mpr ⟨w1, w3, by omega⟩, decide_eq_true w2⟩
    rw [hmm]
    refine c_maxL (SqL.of upd_same) (by rw [List.length_map]; exact List.length_pos_of_mem hin) fun mx hmx hle => ?_
    have hmxf : mx = (far : Int) := by
      obtain ⟨one, ho1, rfl⟩ := List.mem_map.mp hmx
      obtain ⟨a1, a2, a3⟩ := hch one ho1
      have q1 := w5 one (a1.imp fun h => Nat.ne_of_lt h) a2 a3
      have q2 := hle _ (List.mem_map.mpr ⟨ms, hin, rfl⟩)
      rw [w4] at q2
      omega
    subst hmxf
    k_clsL
    refine ndec2 (fun h => absurd rfl h) fun _ => ?_
    have hr9 := hr8.up (Ex.news (o := .lst (((choicesN many limit).map fun one => ((wayN n (one.map fun k => homeN r k n) : Nat) : Int)).map V.int)) hD)
    have eH9 := eH8.newr (o := .lst (((choicesN many limit).map fun one => ((wayN n (one.map fun k => homeN r k n) : Nat) : Int)).map V.int)) hD
    generalize upd H8 D (.lst (((choicesN many limit).map fun one => ((wayN n (one.map fun k => homeN r k n) : Nat) : Int)).map V.int)) = H9 at *
    clear hpc hN hr8 eH8 hD hr7 eH7 hmm hch e8
    k_clsL
    unfold t_law_c8
    k_clsL
    rename_i t1 ht1 t2 ht2
    refine c__law_told (.inr ⟨.told [3], ⟨t2, t1, rfl, upd_same, at_new ht2 upd_same⟩, ⟨by decide, by decide, by simp⟩, .inr ⟨64, rfl, by omega, by omega, .inr ⟨40, rfl, by omega, .inr ⟨64, rfl, by omega, by omega, fun k hk _ => Nat.le_trans (same_few (k + 1) (List.mem_range.mpr (by omega))) (by decide), .inr ⟨fun k hk => same_few k (List.mem_range.mpr (by omega)), fun H10 p1 q1 ms1 far1 e10 hp1 hq1 W1 => ?_⟩⟩⟩⟩⟩)
    have hf1 : far1 = 780 := by
      obtain ⟨b, hb, hf, _⟩ := W1.best
      rw [hf]
      exact same_780 b hb
    subst hf1
    have e910 := ((Ex.news (o := .tup [.int 3]) ht1).newr (o := .tup [.str "told", .ref t1]) ht2).tr e10
    have hr10 := hr9.up e910
    have eH10 := eH9.tr e910
    clear e910 e10 ht1 ht2 hr9 eH9 W1 hq1
    k_clsL
    rename_i t3 ht3
    refine c__law_told (.inr ⟨.times 1 0, ⟨t3, rfl, upd_same⟩, ⟨by decide, by decide⟩, .inr ⟨32, rfl, by omega, by omega, .inr ⟨12, rfl, by omega, .inr ⟨32, rfl, by omega, by omega, fun k hk hj => ?_, .inl ⟨⟨12, by omega, many_too⟩, ?_⟩⟩⟩⟩⟩)
    · by_cases z : k < 12
      · exact many_pre k (List.mem_range.mpr z)
      · have := hj 12 (by omega)
        have := many_too
        omega
    have hr11 := hr10.up (Ex.news (o := .tup [.str "times", .int 1, .int 0]) ht3)
    have eH11 := eH10.newr (o := .tup [.str "times", .int 1, .int 0]) ht3
    generalize upd H10 t3 (.tup [.str "times", .int 1, .int 0]) = H11 at *
    clear hr10 eH10 hp1 ht3
    k_clsL
    unfold t_law_c9
    k_clsL
    rename_i u1 hu1 u2 hu2 u3 hu3 u4 hu4 l5 hl5 u6 hu6 u7 hu7 l8 hl8 l9 hl9
    refine kE_gen (fun H' => Ex H11 H' ∧ H' u1 = some (.tup [.non, .int 1, .int 9, .int 9]) ∧ H' u2 = some (.tup [v, .int 1, .int 0, .int 4]) ∧ H' u3 = some (.tup [v, .int 8, .int 8, .int 9]) ∧ H' u4 = some (.tup [v, .int 8, .int 3, .int 2]) ∧ H' u6 = some (.tup [v, .int 8, .int 3, .int 65]) ∧ H' u7 = some (.tup [v, .int 8, .int (-1), .int 4]) ∧ H' l9 = some (.lst [.ref u1, .ref u2, .ref u3, .ref u4, .ref u6, .ref u7])) ⟨by k_offL, by k_memK, by k_memK, by k_memK, by k_memK, by k_memK, by k_memK, upd_same⟩ ?_
    rintro H12 ⟨e12, f1, f2, f3, f4, f6, f7, f9⟩
    have hr12 := hr11.up e12
    have eH12 := eH11.tr e12
    clear hu1 hu2 hu3 hu4 hl5 hu6 hu7 hl8 hl9 hr11 eH11 e12
    clear hms9 w2 w3 w4 w5 few pre hh
    show kE _ [some (.ref a), some (.int ((i : Nat) : Int)), some (.int (m : Int)), some v, some (.int (n : Int)), some (.int (limit : Int)), some (.int (many : Int)), some (.ref p), some (.ref q2), some (.int (far : Int)), some (.ref t2), some (.ref l9), none, none] H12 _
    refine e_lcZ ?_
    k_clsL
    refine ⟨SqL.of f9, Nat.le_of_ble_eq_true rfl, [.str "BadRule", .str "BadSize", .str "BadSize", .str "BadSize", .str "BadSize", .str "BadSize"], rfl, ?_⟩
    refine ⟨?_, fun D hD => ?_⟩
    · intro D acc j hD hj x hx
      have hj : j < 6 := hj
      have hrD := hr12.up (Ex.news (o := .lst acc) hD)
      match j, hj with
      | 0, _ =>
        cases hx
        refine g_name ⟨rfl, t_yes ⟨rfl, ?_⟩⟩
        k_clsL
        exact c__law_told (.inl ⟨⟨.non, .non, rfl, rfl⟩, ⟨rfl, Ex.rf⟩⟩)
      | 1, _ =>
        cases hx
        refine g_name ⟨rfl, t_yes ⟨rfl, ?_⟩⟩
        k_clsL
        exact c__law_told (.inr ⟨r, hrD, ho, .inl ⟨rfl, ⟨rfl, Ex.rf⟩⟩⟩)
      | 2, _ =>
        cases hx
        refine g_name ⟨rfl, t_yes ⟨rfl, ?_⟩⟩
        k_clsL
        exact c__law_told (.inr ⟨r, hrD, ho, .inr ⟨8, rfl, by omega, by omega, .inl ⟨rfl, ⟨rfl, Ex.rf⟩⟩⟩⟩)
      | 3, _ =>
        cases hx
        refine g_name ⟨rfl, t_yes ⟨rfl, ?_⟩⟩
        k_clsL
        exact c__law_told (.inr ⟨r, hrD, ho, .inr ⟨8, rfl, by omega, by omega, .inr ⟨3, rfl, by omega, .inl ⟨rfl, ⟨rfl, Ex.rf⟩⟩⟩⟩⟩)
      | 4, _ =>
        cases hx
        refine g_name ⟨rfl, t_yes ⟨rfl, ?_⟩⟩
        k_clsL
        exact c__law_told (.inr ⟨r, hrD, ho, .inr ⟨8, rfl, by omega, by omega, .inr ⟨3, rfl, by omega, .inl ⟨rfl, ⟨rfl, Ex.rf⟩⟩⟩⟩⟩)
      | 5, _ =>
        cases hx
        refine g_name ⟨rfl, t_yes ⟨rfl, ?_⟩⟩
        k_clsL
        exact c__law_told (.inr ⟨r, hrD, ho, .inr ⟨8, rfl, by omega, by omega, .inl ⟨rfl, ⟨rfl, Ex.rf⟩⟩⟩⟩)
    · k_clsL
      refine r_rep1 (x := .str "BadSize") (n := 5) upd_same (by omega) fun rp hrp => ?_
      k_clsL
      refine r_neSs (zs := ["BadRule", "BadSize", "BadSize", "BadSize", "BadSize", "BadSize"]) (ws := ["BadRule", "BadSize", "BadSize", "BadSize", "BadSize", "BadSize"]) (by k_memK) (SqL.of upd_same) (by decide +kernel) (by decide +kernel) ?_
      k_clsL
      exact ⟨_, ⟨eH12.tr (by k_offL), _, _, _, _, _, _, _, _, _, _, _, rfl⟩, Ex.rf⟩
  · rintro σ H1 ⟨eH, y1, y2, y3, y4, y5, y6, y7, y8, y9, y10, y11, rfl⟩
    k_clsL
    exact fun H2 _ => q H2
theorem ok_law {P : Program} {w : World} {K : PySem.W.Frag} {mg : Str → Option Value} {base : Heap} {cs : Cs} {f : Addr} {fd : FuncData} (F : Fun K "law" "law" s_law f fd) (cal__law_cell : Cal P w K mg base (L2N.CX P w) 1 "_law_cell" ["_law_script", "_law_k"] (sp__law_cell K cs)) (cal__law_drawn : Cal P w K mg base (L2N.CX P w) 1 "_law_drawn" ["_law_cell_here", "_law_k"] (sp__law_drawn K cs)) (cal__law_rule : Cal P w K mg base (L2N.CX P w) 1 "_law_rule" ["_law_more"] (sp__law_rule K cs)) (cal__law_told : Cal P w K mg base (L2N.CX P w) 6 "_law_told" ["_law_rule_here", "_law_size", "_law_many", "_law_limit"] (sp__law_told K cs)) (cal__law_ways : Cal P w K mg base (L2N.CX P w) 2 "_law_ways" ["_law_rule_here", "_law_size", "_law_keys_here"] (sp__law_ways K cs)) (cal__law_choices : Cal P w K mg base (L2N.CX P w) 1 "_law_choices" ["_law_limit", "_law_many"] (sp__law_choices K cs)) (m_range : mg "range" = none) (m_len : mg "len" = none) (m_min : mg "min" = none) (m_max : mg "max" = none) (m_tuple : mg "tuple" = none) (m_isinstance : mg "isinstance" = none) (m_list : mg "list" = none) (m_sorted : mg "sorted" = none) (m_set : mg "set" = none) (m_all : mg "all" = none) :
    FnOk P w K mg base (L2N.CX P w) 7 f fd ["_law_script"] (spLaw K) := by
  refine fn_mk F sc_law (fun vs H Q E h => ?_) fun cdv A outer s H vs Q E hr h => ⟨t_law K cs E, ?_, pure_law (cs := cs) h⟩
  · unfold spLaw at h
    first | (obtain ⟨rfl, _⟩ := h; rfl) | (obtain ⟨_, rfl, _⟩ := h; rfl) | (obtain ⟨_, _, rfl, _⟩ := h; rfl) | (obtain ⟨_, _, _, rfl, _⟩ := h; rfl) | (obtain ⟨_, _, _, _, rfl, _⟩ := h; rfl) | (obtain ⟨_, _, _, _, _, rfl, _⟩ := h; rfl) | (obtain ⟨_, _, _, _, _, _, rfl, _⟩ := h; rfl) | (obtain ⟨_, _, _, _, _, _, _, rfl, _⟩ := h; rfl) | (obtain ⟨_, _, _, _, _, _, _, _, rfl, _⟩ := h; rfl) | (obtain ⟨_, _, _, _, _, _, _, _, _, rfl, _⟩ := h; rfl) | (obtain ⟨_, _, _, _, _, _, _, _, _, _, rfl, _⟩ := h; rfl) | (obtain ⟨_, _, _, _, _, _, _, _, _, _, _, rfl, _⟩ := h; rfl) | (obtain ⟨_, _, _, _, _, _, _, _, _, _, _, _, rfl, _⟩ := h; rfl) | (obtain ⟨_, _, _, _, _, _, _, _, _, _, _, _, _, rfl, _⟩ := h; rfl) | (obtain ⟨_, _, _, _, _, _, _, _, _, _, _, _, _, _, rfl, _⟩ := h; rfl) | (obtain ⟨_, _, _, _, _, _, _, _, _, _, _, _, _, _, _, rfl, _⟩ := h; rfl)
  · exact (pss_cons (ps_for (passes_of rfl) rfl (pi_range1 (by rfl) m_range (pa_cons (pe_callB (call_max2 rfl) (by rfl) m_max (by decide +kernel) (pa_cons pe_int (pa_cons (pe_callB (call_min2 rfl) (by rfl) m_min (by decide +kernel) (pa_cons pe_int (pa_cons (pe_callB call_len_seq (by rfl) m_len (by decide +kernel) (pa_cons (pv 0) pa_nil)) pa_nil))) pa_nil))) pa_nil)) (pg_name (i := 1) sc_law.nd rfl (Or.inl sc_law_v1))
      (pss_cons (ps_set (i := 2) sc_law.nd rfl (Or.inl sc_law_v2) (pe_cal cal__law_drawn hr (by decide) (by rfl) passN (pa_cons (pe_cal cal__law_cell hr (by decide) (by rfl) passN (pa_cons (pv 0) (pa_cons (pv 1) pa_nil))) (pa_cons (pv 1) pa_nil))))
      (pss_cons (ps_set (i := 3) sc_law.nd rfl (Or.inr sc_law_v3) (pe_cal cal__law_rule hr (by decide) (by rfl) passN (pa_cons (pv 2) pa_nil)))
      (pss_cons (ps_set (i := 4) sc_law.nd rfl (Or.inr sc_law_v4) (pe_op op_add pe_int (pe_op op_mod (pe_op op_fdivW (pv 2) pe_int) pe_int)))
      (pss_cons (ps_set (i := 5) sc_law.nd rfl (Or.inr sc_law_v5) (pe_op op_mod (pe_op op_fdivW (pv 2) pe_int) pe_int))
      (pss_cons (ps_set (i := 6) sc_law.nd rfl (Or.inl sc_law_v6) (pe_op op_mod (pe_op op_fdivW (pv 2) pe_int) (pe_op op_add (pe_callB (call_min3Nu rfl) (by rfl) m_min (by decide +kernel) (pa_cons (pv 5) (pa_cons (pe_op op_sub (pv 4) pe_int) (pa_cons pe_int pa_nil)))) pe_int)))
      (pss_cons (ps_set (i := 7) sc_law.nd rfl (Or.inl sc_law_v7) (pe_cal cal__law_told hr (by decide) (by rfl) passN (pa_cons (pv 3) (pa_cons (pv 4) (pa_cons (pv 6) (pa_cons (pv 5) pa_nil))))))
      (pss_cons (ps_if (PW.pt (pw_or (pt_not (pt_val (pe_callB call_isi (by rfl) m_isinstance (by decide +kernel) (pa_cons (pv 7) (pa_cons (pe_bltn (v := .ty "tuple") (by rfl) m_tuple (by decide +kernel) rfl) pa_nil))))) (pw_or1 (pt_not (pt_val (pe_callB call_isi (by rfl) m_isinstance (by decide +kernel) (pa_cons (pe_ix ix_tup (pv 7) pe_int (fun _ _ => rfl)) (pa_cons (pe_bltn (v := .ty "list") (by rfl) m_list (by decide +kernel) rfl) pa_nil))))))))
      (pss_one (ps_ret pe_bl))
      pss_nil)
      (pss_cons (ps_if (pt_cmpR (op_neD hr.units) (pv 7) (pe_cal cal__law_told hr (by decide) (by rfl) passN (pa_cons (pv 3) (pa_cons (pv 4) (pa_cons (pv 6) (pa_cons (pv 5) pa_nil))))) (nomark _))
      (pss_one (ps_ret pe_bl))
      pss_nil)
      (pss_cons (ps_asg (pv 7) (pg_tup rfl (pgs_cons (pg_name (i := 8) sc_law.nd rfl (Or.inl sc_law_v8)) (pgs_cons (pg_name (i := 9) sc_law.nd rfl (Or.inl sc_law_v9)) pgs_nil))))
      (pss_cons (ps_if (PW.pt (pw_or (pt_cmpR (op_neD hr.units) (pv 8) (pe_sortSet (by rfl) (by rfl) m_sorted (by rfl) m_set (pv 8)) (nomark _)) (pw_or (pt_cmpR op_ne (pe_callB call_len_seq (by rfl) m_len (by decide +kernel) (pa_cons (pv 8) pa_nil)) (pv 6) (nomark _)) (pw_or1 (pt_not (pt_val (pe_callB (cr_all rfl) (by rfl) m_all (by decide +kernel) (pa_cons (pe_lc (own := [("_law_key", 13)]) (g := (gName 13)) (tt := tYes) (by rfl) sc_law.nd (pi_list (pv 8)) (blkOk_by (own := [("_law_key", 13)]) (N := ["_law_script", "_law_k", "_law_more", "_law_rule_here", "_law_size", "_law_limit", "_law_many", "_law_found", "_law_keys_here", "_law_far", "_law_same", "_law_some", "_law_one", "_law_key"]) (sc := defScope s_law) (by decide +kernel)) (fun _ _ _ _ _ => (pg_name (i := 13) sc_law.nd rfl (Or.inl rfl))) (fun _ _ _ _ _ => pts_nil) (fun _ _ _ _ _ => (pe_chain op_le op_lt pe_int (pv 13) (pv 5)))) pa_nil))))))))
      (pss_one (ps_ret pe_bl))
      pss_nil)
      (pss_cons (ps_if (pt_cmpR op_ne (pv 9) (pe_cal cal__law_ways hr (by decide) (by rfl) passN (pa_cons (pv 3) (pa_cons (pv 4) (pa_cons (pv 8) pa_nil)))) (nomark _))
      (pss_one (ps_ret pe_bl))
      pss_nil)
      (pss_cons (ps_if (pt_cmpR op_ne (pe_callB (cr_max rfl) (by rfl) m_max (by decide +kernel) (pa_cons (pe_lc (own := [("_law_one", 12)]) (g := (gName 12)) (tt := tYes) (by rfl) sc_law.nd (pi_list (pe_cal cal__law_choices hr (by decide) (by rfl) passN (pa_cons (pv 5) (pa_cons (pv 6) pa_nil)))) (blkOk_by (own := [("_law_one", 12)]) (N := ["_law_script", "_law_k", "_law_more", "_law_rule_here", "_law_size", "_law_limit", "_law_many", "_law_found", "_law_keys_here", "_law_far", "_law_same", "_law_some", "_law_one", "_law_key"]) (sc := defScope s_law) (by decide +kernel)) (fun _ _ _ _ _ => (pg_name (i := 12) sc_law.nd rfl (Or.inl rfl))) (fun _ _ _ _ _ => pts_nil) (fun _ _ _ _ _ => (pe_cal cal__law_ways hr (by decide) (by rfl) passN (pa_cons (pv 3) (pa_cons (pv 4) (pa_cons (pv 12) pa_nil)))))) pa_nil)) (pv 9) (nomark _))
      (pss_one (ps_ret pe_bl))
      pss_nil)
      (pss_cons (ps_set (i := 10) sc_law.nd rfl (Or.inl sc_law_v10) (pe_tup (pa_cons pe_str (pa_cons (pe_tup (pa_cons pe_int pa_nil)) pa_nil))))
      (pss_cons (ps_if (PW.pt (pw_or (pt_cmpR op_ne (pe_ix ix_tup (pe_cal cal__law_told hr (by decide) (by rfl) passN (pa_cons (pv 10) (pa_cons pe_int (pa_cons pe_int (pa_cons pe_int pa_nil))))) pe_int (fun _ _ => rfl)) pe_int (nomark _)) (pw_or1 (pt_cmpR op_ne (pe_cal cal__law_told hr (by decide) (by rfl) passN (pa_cons (pe_tup (pa_cons pe_str (pa_cons pe_int (pa_cons pe_int pa_nil)))) (pa_cons pe_int (pa_cons pe_int (pa_cons pe_int pa_nil))))) pe_str (nomark _)))))
      (pss_one (ps_ret pe_bl))
      pss_nil)
      (pss_cons (ps_set (i := 11) sc_law.nd rfl (Or.inl sc_law_v11) (pe_lst (pa_cons (pe_tup (pa_cons pe_non (pa_cons pe_int (pa_cons pe_int (pa_cons pe_int pa_nil))))) (pa_cons (pe_tup (pa_cons (pv 3) (pa_cons pe_int (pa_cons pe_int (pa_cons pe_int pa_nil))))) (pa_cons (pe_tup (pa_cons (pv 3) (pa_cons pe_int (pa_cons pe_int (pa_cons pe_int pa_nil))))) (pa_cons (pe_tup (pa_cons (pv 3) (pa_cons pe_int (pa_cons pe_int (pa_cons pe_int pa_nil))))) pa_nil))))))
      (pss_cons (ps_set (i := 11) sc_law.nd rfl (Or.inl sc_law_v11) (pe_op op_cat (pv 11) (pe_lst (pa_cons (pe_tup (pa_cons (pv 3) (pa_cons pe_int (pa_cons pe_int (pa_cons pe_int pa_nil))))) (pa_cons (pe_tup (pa_cons (pv 3) (pa_cons pe_int (pa_cons (pe_un un_neg pe_int) (pa_cons pe_int pa_nil))))) pa_nil)))))
      (pss_one (ps_if (pt_cmpR (op_neD hr.units) (pe_lc (own := [("_law_one", 12)]) (g := (gName 12)) (tt := tYes) (by rfl) sc_law.nd (pi_list (pv 11)) (blkOk_by (own := [("_law_one", 12)]) (N := ["_law_script", "_law_k", "_law_more", "_law_rule_here", "_law_size", "_law_limit", "_law_many", "_law_found", "_law_keys_here", "_law_far", "_law_same", "_law_some", "_law_one", "_law_key"]) (sc := defScope s_law) (by decide +kernel)) (fun _ _ _ _ _ => (pg_name (i := 12) sc_law.nd rfl (Or.inl rfl))) (fun _ _ _ _ _ => pts_nil) (fun _ _ _ _ _ => (pe_cal cal__law_told hr (by decide) (by rfl) passN (pa_cons (pe_ix ix_tup (pv 12) pe_int (fun _ _ => rfl)) (pa_cons (pe_ix ix_tup (pv 12) pe_int (fun _ _ => rfl)) (pa_cons (pe_ix ix_tup (pv 12) pe_int (fun _ _ => rfl)) (pa_cons (pe_ix ix_tup (pv 12) pe_int (fun _ _ => rfl)) pa_nil))))))) (pe_op op_cat (pe_lst (pa_cons pe_str pa_nil)) (pe_op op_rep (pe_lst (pa_cons pe_str pa_nil)) pe_int)) (nomark _))
      (pss_one (ps_ret pe_bl))
      pss_nil)))))))))))))))))))
      (pss_one (ps_ret pe_bl)))
theorem all_mk {l : PySem.W.OpenLaw} {w : World} {K : PySem.W.Frag} {h : Heap} {mg : Str → Option Value} {fa : Addr} (X : K.In h) (G : h.Ns mainGlobals mg) (hfa : mg "law" = some (.ref fa))
    {C_BadKey : Addr}
    {C_BadRule : Addr}
    {C_BadSize : Addr}
    {C_Full : Addr}
    {C_StrewError : Addr}
    {C_TooMany : Addr}
    {f0 : Addr} {od0 an0 : Option Addr} {sl0 : Array (Option Value)} {oc0 kV0 dc0 pm0 cd0 ct0 : Value}
    {f1 : Addr} {od1 an1 : Option Addr} {sl1 : Array (Option Value)} {oc1 kV1 dc1 pm1 cd1 ct1 : Value}
    {f2 : Addr} {od2 an2 : Option Addr} {sl2 : Array (Option Value)} {oc2 kV2 dc2 pm2 cd2 ct2 : Value}
    {f3 : Addr} {od3 an3 : Option Addr} {sl3 : Array (Option Value)} {oc3 kV3 dc3 pm3 cd3 ct3 : Value}
    {f4 : Addr} {od4 an4 : Option Addr} {sl4 : Array (Option Value)} {oc4 kV4 dc4 pm4 cd4 ct4 : Value}
    {f5 : Addr} {od5 an5 : Option Addr} {sl5 : Array (Option Value)} {oc5 kV5 dc5 pm5 cd5 ct5 : Value}
    {f6 : Addr} {od6 an6 : Option Addr} {sl6 : Array (Option Value)} {oc6 kV6 dc6 pm6 cd6 ct6 : Value}
    {f7 : Addr} {od7 an7 : Option Addr} {sl7 : Array (Option Value)} {oc7 kV7 dc7 pm7 cd7 ct7 : Value}
    {f8 : Addr} {od8 an8 : Option Addr} {sl8 : Array (Option Value)} {oc8 kV8 dc8 pm8 cd8 ct8 : Value}
    {f9 : Addr} {od9 an9 : Option Addr} {sl9 : Array (Option Value)} {oc9 kV9 dc9 pm9 cd9 ct9 : Value}
    {f10 : Addr} {od10 an10 : Option Addr} {sl10 : Array (Option Value)} {oc10 kV10 dc10 pm10 cd10 ct10 : Value}
    {f11 : Addr} {od11 an11 : Option Addr} {sl11 : Array (Option Value)} {oc11 kV11 dc11 pm11 cd11 ct11 : Value}
    {f12 : Addr} {od12 an12 : Option Addr} {sl12 : Array (Option Value)} {oc12 kV12 dc12 pm12 cd12 ct12 : Value}
    {f13 : Addr} {od13 an13 : Option Addr} {sl13 : Array (Option Value)} {oc13 kV13 dc13 pm13 cd13 ct13 : Value}
    {f14 : Addr} {od14 an14 : Option Addr} {sl14 : Array (Option Value)} {oc14 kV14 dc14 pm14 cd14 ct14 : Value}
    {f15 : Addr} {od15 an15 : Option Addr} {sl15 : Array (Option Value)} {oc15 kV15 dc15 pm15 cd15 ct15 : Value}
    {f16 : Addr} {od16 an16 : Option Addr} {sl16 : Array (Option Value)} {oc16 kV16 dc16 pm16 cd16 ct16 : Value}
    {f17 : Addr} {od17 an17 : Option Addr} {sl17 : Array (Option Value)} {oc17 kV17 dc17 pm17 cd17 ct17 : Value}
    {f18 : Addr} {od18 an18 : Option Addr} {sl18 : Array (Option Value)} {oc18 kV18 dc18 pm18 cd18 ct18 : Value}
    {f19 : Addr} {od19 an19 : Option Addr} {sl19 : Array (Option Value)} {oc19 kV19 dc19 pm19 cd19 ct19 : Value}
    {f20 : Addr} {od20 an20 : Option Addr} {sl20 : Array (Option Value)} {oc20 kV20 dc20 pm20 cd20 ct20 : Value}
    {tk_LEAST_SIZE : Tok}
    {tk_MOST_BITS : Tok}
    {tk_MOST_LIMIT : Tok}
    {tk_MOST_NUMBER : Tok}
    {tk_MOST_NUMBERS : Tok}
    {tk_MOST_SIZE : Tok}
    {tk_MOST_TOLD : Tok}
    {tk_MOST_WAYS : Tok}
    (n_BadKey : PySem.W.nsIn K mainGlobals "BadKey" = some (some (.ref C_BadKey)))
    (kc_BadKey : PySem.W.keepIn K (.ref C_BadKey) = true)
    (xc_BadKey : PySem.W.excIn K C_BadKey [.type "ValueError", .type "Exception", .type "BaseException", .type "object"] "ValueError.__new__" = true)
    (bc_BadKey : PySem.W.subIn K (.ref C_BadKey) (.type "BaseException") = some true)
    (tc_BadKey : PySem.W.typeIn K (.ref C_BadKey) = some (.type "type"))
    (n_BadRule : PySem.W.nsIn K mainGlobals "BadRule" = some (some (.ref C_BadRule)))
    (kc_BadRule : PySem.W.keepIn K (.ref C_BadRule) = true)
    (xc_BadRule : PySem.W.excIn K C_BadRule [.type "ValueError", .type "Exception", .type "BaseException", .type "object"] "ValueError.__new__" = true)
    (bc_BadRule : PySem.W.subIn K (.ref C_BadRule) (.type "BaseException") = some true)
    (tc_BadRule : PySem.W.typeIn K (.ref C_BadRule) = some (.type "type"))
    (n_BadSize : PySem.W.nsIn K mainGlobals "BadSize" = some (some (.ref C_BadSize)))
    (kc_BadSize : PySem.W.keepIn K (.ref C_BadSize) = true)
    (xc_BadSize : PySem.W.excIn K C_BadSize [.type "ValueError", .type "Exception", .type "BaseException", .type "object"] "ValueError.__new__" = true)
    (bc_BadSize : PySem.W.subIn K (.ref C_BadSize) (.type "BaseException") = some true)
    (tc_BadSize : PySem.W.typeIn K (.ref C_BadSize) = some (.type "type"))
    (n_Full : PySem.W.nsIn K mainGlobals "Full" = some (some (.ref C_Full)))
    (kc_Full : PySem.W.keepIn K (.ref C_Full) = true)
    (xc_Full : PySem.W.excIn K C_Full [.type "ValueError", .type "Exception", .type "BaseException", .type "object"] "ValueError.__new__" = true)
    (bc_Full : PySem.W.subIn K (.ref C_Full) (.type "BaseException") = some true)
    (tc_Full : PySem.W.typeIn K (.ref C_Full) = some (.type "type"))
    (n_StrewError : PySem.W.nsIn K mainGlobals "StrewError" = some (some (.ref C_StrewError)))
    (kc_StrewError : PySem.W.keepIn K (.ref C_StrewError) = true)
    (xc_StrewError : PySem.W.excIn K C_StrewError [.type "ValueError", .type "Exception", .type "BaseException", .type "object"] "ValueError.__new__" = true)
    (bc_StrewError : PySem.W.subIn K (.ref C_StrewError) (.type "BaseException") = some true)
    (tc_StrewError : PySem.W.typeIn K (.ref C_StrewError) = some (.type "type"))
    (n_TooMany : PySem.W.nsIn K mainGlobals "TooMany" = some (some (.ref C_TooMany)))
    (kc_TooMany : PySem.W.keepIn K (.ref C_TooMany) = true)
    (xc_TooMany : PySem.W.excIn K C_TooMany [.type "ValueError", .type "Exception", .type "BaseException", .type "object"] "ValueError.__new__" = true)
    (bc_TooMany : PySem.W.subIn K (.ref C_TooMany) (.type "BaseException") = some true)
    (tc_TooMany : PySem.W.typeIn K (.ref C_TooMany) = some (.type "type"))
    (hd_StrewError : PySem.W.hasDictIn K C_StrewError = true)
    (wn : PySem.W.specialIn K (.builtin "object.__class__") "__get__" = some (some (.builtin "getset_descriptor.__get__")))
    (wt : PySem.W.takesIn K (.builtin "object.__class__") = some true)
    (hg_BadRule : PySem.W.findIn K (.ref C_BadRule) "__getattribute__" = some (some (.builtin "BaseException.__getattribute__")))
    (hk_BadRule : PySem.W.findIn K (.ref C_BadRule) "__getattr__" = some none)
    (hd_BadRule : PySem.W.hasDictIn K C_BadRule = true)
    (ha_BadRule : PySem.W.findIn K (.ref C_BadRule) "__class__" = some (some (.builtin "object.__class__")))
    (hm_BadRule : PySem.W.mroIn K C_BadRule (.type "object") = some true)
    (kv_BadRule : PySem.W.subIn K (.ref C_BadRule) (.type "ValueError") = some true)
    (ex_BadRule : PySem.W.subIn K (.ref C_BadRule) (.ref C_StrewError) = some true)
    (kk_BadRule_BadRule : PySem.W.subIn K (.ref C_BadRule) (.ref C_BadRule) = some true)
    (kk_BadRule_BadKey : PySem.W.subIn K (.ref C_BadRule) (.ref C_BadKey) = some false)
    (kk_BadRule_BadSize : PySem.W.subIn K (.ref C_BadRule) (.ref C_BadSize) = some false)
    (kk_BadRule_Full : PySem.W.subIn K (.ref C_BadRule) (.ref C_Full) = some false)
    (kk_BadRule_TooMany : PySem.W.subIn K (.ref C_BadRule) (.ref C_TooMany) = some false)
    (hg_BadKey : PySem.W.findIn K (.ref C_BadKey) "__getattribute__" = some (some (.builtin "BaseException.__getattribute__")))
    (hk_BadKey : PySem.W.findIn K (.ref C_BadKey) "__getattr__" = some none)
    (hd_BadKey : PySem.W.hasDictIn K C_BadKey = true)
    (ha_BadKey : PySem.W.findIn K (.ref C_BadKey) "__class__" = some (some (.builtin "object.__class__")))
    (hm_BadKey : PySem.W.mroIn K C_BadKey (.type "object") = some true)
    (kv_BadKey : PySem.W.subIn K (.ref C_BadKey) (.type "ValueError") = some true)
    (ex_BadKey : PySem.W.subIn K (.ref C_BadKey) (.ref C_StrewError) = some true)
    (kk_BadKey_BadRule : PySem.W.subIn K (.ref C_BadKey) (.ref C_BadRule) = some false)
    (kk_BadKey_BadKey : PySem.W.subIn K (.ref C_BadKey) (.ref C_BadKey) = some true)
    (kk_BadKey_BadSize : PySem.W.subIn K (.ref C_BadKey) (.ref C_BadSize) = some false)
    (kk_BadKey_Full : PySem.W.subIn K (.ref C_BadKey) (.ref C_Full) = some false)
    (kk_BadKey_TooMany : PySem.W.subIn K (.ref C_BadKey) (.ref C_TooMany) = some false)
    (hg_BadSize : PySem.W.findIn K (.ref C_BadSize) "__getattribute__" = some (some (.builtin "BaseException.__getattribute__")))
    (hk_BadSize : PySem.W.findIn K (.ref C_BadSize) "__getattr__" = some none)
    (hd_BadSize : PySem.W.hasDictIn K C_BadSize = true)
    (ha_BadSize : PySem.W.findIn K (.ref C_BadSize) "__class__" = some (some (.builtin "object.__class__")))
    (hm_BadSize : PySem.W.mroIn K C_BadSize (.type "object") = some true)
    (kv_BadSize : PySem.W.subIn K (.ref C_BadSize) (.type "ValueError") = some true)
    (ex_BadSize : PySem.W.subIn K (.ref C_BadSize) (.ref C_StrewError) = some true)
    (kk_BadSize_BadRule : PySem.W.subIn K (.ref C_BadSize) (.ref C_BadRule) = some false)
    (kk_BadSize_BadKey : PySem.W.subIn K (.ref C_BadSize) (.ref C_BadKey) = some false)
    (kk_BadSize_BadSize : PySem.W.subIn K (.ref C_BadSize) (.ref C_BadSize) = some true)
    (kk_BadSize_Full : PySem.W.subIn K (.ref C_BadSize) (.ref C_Full) = some false)
    (kk_BadSize_TooMany : PySem.W.subIn K (.ref C_BadSize) (.ref C_TooMany) = some false)
    (hg_Full : PySem.W.findIn K (.ref C_Full) "__getattribute__" = some (some (.builtin "BaseException.__getattribute__")))
    (hk_Full : PySem.W.findIn K (.ref C_Full) "__getattr__" = some none)
    (hd_Full : PySem.W.hasDictIn K C_Full = true)
    (ha_Full : PySem.W.findIn K (.ref C_Full) "__class__" = some (some (.builtin "object.__class__")))
    (hm_Full : PySem.W.mroIn K C_Full (.type "object") = some true)
    (kv_Full : PySem.W.subIn K (.ref C_Full) (.type "ValueError") = some true)
    (ex_Full : PySem.W.subIn K (.ref C_Full) (.ref C_StrewError) = some true)
    (kk_Full_BadRule : PySem.W.subIn K (.ref C_Full) (.ref C_BadRule) = some false)
    (kk_Full_BadKey : PySem.W.subIn K (.ref C_Full) (.ref C_BadKey) = some false)
    (kk_Full_BadSize : PySem.W.subIn K (.ref C_Full) (.ref C_BadSize) = some false)
    (kk_Full_Full : PySem.W.subIn K (.ref C_Full) (.ref C_Full) = some true)
    (kk_Full_TooMany : PySem.W.subIn K (.ref C_Full) (.ref C_TooMany) = some false)
    (hg_TooMany : PySem.W.findIn K (.ref C_TooMany) "__getattribute__" = some (some (.builtin "BaseException.__getattribute__")))
    (hk_TooMany : PySem.W.findIn K (.ref C_TooMany) "__getattr__" = some none)
    (hd_TooMany : PySem.W.hasDictIn K C_TooMany = true)
    (ha_TooMany : PySem.W.findIn K (.ref C_TooMany) "__class__" = some (some (.builtin "object.__class__")))
    (hm_TooMany : PySem.W.mroIn K C_TooMany (.type "object") = some true)
    (kv_TooMany : PySem.W.subIn K (.ref C_TooMany) (.type "ValueError") = some true)
    (ex_TooMany : PySem.W.subIn K (.ref C_TooMany) (.ref C_StrewError) = some true)
    (kk_TooMany_BadRule : PySem.W.subIn K (.ref C_TooMany) (.ref C_BadRule) = some false)
    (kk_TooMany_BadKey : PySem.W.subIn K (.ref C_TooMany) (.ref C_BadKey) = some false)
    (kk_TooMany_BadSize : PySem.W.subIn K (.ref C_TooMany) (.ref C_BadSize) = some false)
    (kk_TooMany_Full : PySem.W.subIn K (.ref C_TooMany) (.ref C_Full) = some false)
    (kk_TooMany_TooMany : PySem.W.subIn K (.ref C_TooMany) (.ref C_TooMany) = some true)
    (a0 : PySem.W.nsIn K mainGlobals "_law_cell" = some (some (.ref f0)))
    (l0 : K.lookup f0 = some ⟨oc0, od0, .func (PySem.W.fnOf "_law_cell" "_law_cell" (defArgs s__law_cell) (defBody s__law_cell) (defScope s__law_cell) .none kV0 dc0 pm0 an0 cd0 ct0), sl0⟩)
    (c0 : PySem.W.codeIn K cd0 "_law_cell" = true)
    (k0 : PySem.W.keepIn K (.ref f0) = true)
    (a1 : PySem.W.nsIn K mainGlobals "_law_drawn" = some (some (.ref f1)))
    (l1 : K.lookup f1 = some ⟨oc1, od1, .func (PySem.W.fnOf "_law_drawn" "_law_drawn" (defArgs s__law_drawn) (defBody s__law_drawn) (defScope s__law_drawn) .none kV1 dc1 pm1 an1 cd1 ct1), sl1⟩)
    (c1 : PySem.W.codeIn K cd1 "_law_drawn" = true)
    (k1 : PySem.W.keepIn K (.ref f1) = true)
    (a2 : PySem.W.nsIn K mainGlobals "_law_rule" = some (some (.ref f2)))
    (l2 : K.lookup f2 = some ⟨oc2, od2, .func (PySem.W.fnOf "_law_rule" "_law_rule" (defArgs s__law_rule) (defBody s__law_rule) (defScope s__law_rule) .none kV2 dc2 pm2 an2 cd2 ct2), sl2⟩)
    (c2 : PySem.W.codeIn K cd2 "_law_rule" = true)
    (k2 : PySem.W.keepIn K (.ref f2) = true)
    (a3 : PySem.W.nsIn K mainGlobals "_law_word" = some (some (.ref f3)))
    (l3 : K.lookup f3 = some ⟨oc3, od3, .func (PySem.W.fnOf "_law_word" "_law_word" (defArgs s__law_word) (defBody s__law_word) (defScope s__law_word) .none kV3 dc3 pm3 an3 cd3 ct3), sl3⟩)
    (c3 : PySem.W.codeIn K cd3 "_law_word" = true)
    (k3 : PySem.W.keepIn K (.ref f3) = true)
    (a4 : PySem.W.nsIn K mainGlobals "is_count" = some (some (.ref f4)))
    (l4 : K.lookup f4 = some ⟨oc4, od4, .func (PySem.W.fnOf "is_count" "is_count" (defArgs s_is_count) (defBody s_is_count) (defScope s_is_count) .none kV4 dc4 pm4 an4 cd4 ct4), sl4⟩)
    (c4 : PySem.W.codeIn K cd4 "is_count" = true)
    (k4 : PySem.W.keepIn K (.ref f4) = true)
    (a5 : PySem.W.nsIn K mainGlobals "is_numbers" = some (some (.ref f5)))
    (l5 : K.lookup f5 = some ⟨oc5, od5, .func (PySem.W.fnOf "is_numbers" "is_numbers" (defArgs s_is_numbers) (defBody s_is_numbers) (defScope s_is_numbers) .none kV5 dc5 pm5 an5 cd5 ct5), sl5⟩)
    (c5 : PySem.W.codeIn K cd5 "is_numbers" = true)
    (k5 : PySem.W.keepIn K (.ref f5) = true)
    (a6 : PySem.W.nsIn K mainGlobals "is_rule" = some (some (.ref f6)))
    (l6 : K.lookup f6 = some ⟨oc6, od6, .func (PySem.W.fnOf "is_rule" "is_rule" (defArgs s_is_rule) (defBody s_is_rule) (defScope s_is_rule) .none kV6 dc6 pm6 an6 cd6 ct6), sl6⟩)
    (c6 : PySem.W.codeIn K cd6 "is_rule" = true)
    (k6 : PySem.W.keepIn K (.ref f6) = true)
    (a7 : PySem.W.nsIn K mainGlobals "need_rule" = some (some (.ref f7)))
    (l7 : K.lookup f7 = some ⟨oc7, od7, .func (PySem.W.fnOf "need_rule" "need_rule" (defArgs s_need_rule) (defBody s_need_rule) (defScope s_need_rule) .none kV7 dc7 pm7 an7 cd7 ct7), sl7⟩)
    (c7 : PySem.W.codeIn K cd7 "need_rule" = true)
    (k7 : PySem.W.keepIn K (.ref f7) = true)
    (a8 : PySem.W.nsIn K mainGlobals "need_size" = some (some (.ref f8)))
    (l8 : K.lookup f8 = some ⟨oc8, od8, .func (PySem.W.fnOf "need_size" "need_size" (defArgs s_need_size) (defBody s_need_size) (defScope s_need_size) .none kV8 dc8 pm8 an8 cd8 ct8), sl8⟩)
    (c8 : PySem.W.codeIn K cd8 "need_size" = true)
    (k8 : PySem.W.keepIn K (.ref f8) = true)
    (a9 : PySem.W.nsIn K mainGlobals "need_count" = some (some (.ref f9)))
    (l9 : K.lookup f9 = some ⟨oc9, od9, .func (PySem.W.fnOf "need_count" "need_count" (defArgs s_need_count) (defBody s_need_count) (defScope s_need_count) .none kV9 dc9 pm9 an9 cd9 ct9), sl9⟩)
    (c9 : PySem.W.codeIn K cd9 "need_count" = true)
    (k9 : PySem.W.keepIn K (.ref f9) = true)
    (a10 : PySem.W.nsIn K mainGlobals "home_of" = some (some (.ref f10)))
    (l10 : K.lookup f10 = some ⟨oc10, od10, .func (PySem.W.fnOf "home_of" "home_of" (defArgs s_home_of) (defBody s_home_of) (defScope s_home_of) .none kV10 dc10 pm10 an10 cd10 ct10), sl10⟩)
    (c10 : PySem.W.codeIn K cd10 "home_of" = true)
    (k10 : PySem.W.keepIn K (.ref f10) = true)
    (a11 : PySem.W.nsIn K mainGlobals "dealt" = some (some (.ref f11)))
    (l11 : K.lookup f11 = some ⟨oc11, od11, .func (PySem.W.fnOf "dealt" "dealt" (defArgs s_dealt) (defBody s_dealt) (defScope s_dealt) .none kV11 dc11 pm11 an11 cd11 ct11), sl11⟩)
    (c11 : PySem.W.codeIn K cd11 "dealt" = true)
    (k11 : PySem.W.keepIn K (.ref f11) = true)
    (a12 : PySem.W.nsIn K mainGlobals "homes_by" = some (some (.ref f12)))
    (l12 : K.lookup f12 = some ⟨oc12, od12, .func (PySem.W.fnOf "homes_by" "homes_by" (defArgs s_homes_by) (defBody s_homes_by) (defScope s_homes_by) .none kV12 dc12 pm12 an12 cd12 ct12), sl12⟩)
    (c12 : PySem.W.codeIn K cd12 "homes_by" = true)
    (k12 : PySem.W.keepIn K (.ref f12) = true)
    (a13 : PySem.W.nsIn K mainGlobals "laid" = some (some (.ref f13)))
    (l13 : K.lookup f13 = some ⟨oc13, od13, .func (PySem.W.fnOf "laid" "laid" (defArgs s_laid) (defBody s_laid) (defScope s_laid) .none kV13 dc13 pm13 an13 cd13 ct13), sl13⟩)
    (c13 : PySem.W.codeIn K cd13 "laid" = true)
    (k13 : PySem.W.keepIn K (.ref f13) = true)
    (a14 : PySem.W.nsIn K mainGlobals "ways_of" = some (some (.ref f14)))
    (l14 : K.lookup f14 = some ⟨oc14, od14, .func (PySem.W.fnOf "ways_of" "ways_of" (defArgs s_ways_of) (defBody s_ways_of) (defScope s_ways_of) .none kV14 dc14 pm14 an14 cd14 ct14), sl14⟩)
    (c14 : PySem.W.codeIn K cd14 "ways_of" = true)
    (k14 : PySem.W.keepIn K (.ref f14) = true)
    (a15 : PySem.W.nsIn K mainGlobals "worst" = some (some (.ref f15)))
    (l15 : K.lookup f15 = some ⟨oc15, od15, .func (PySem.W.fnOf "worst" "worst" (defArgs s_worst) (defBody s_worst) (defScope s_worst) .none kV15 dc15 pm15 an15 cd15 ct15), sl15⟩)
    (c15 : PySem.W.codeIn K cd15 "worst" = true)
    (k15 : PySem.W.keepIn K (.ref f15) = true)
    (a16 : PySem.W.nsIn K mainGlobals "_law_told" = some (some (.ref f16)))
    (l16 : K.lookup f16 = some ⟨oc16, od16, .func (PySem.W.fnOf "_law_told" "_law_told" (defArgs s__law_told) (defBody s__law_told) (defScope s__law_told) .none kV16 dc16 pm16 an16 cd16 ct16), sl16⟩)
    (c16 : PySem.W.codeIn K cd16 "_law_told" = true)
    (k16 : PySem.W.keepIn K (.ref f16) = true)
    (a17 : PySem.W.nsIn K mainGlobals "_law_home" = some (some (.ref f17)))
    (l17 : K.lookup f17 = some ⟨oc17, od17, .func (PySem.W.fnOf "_law_home" "_law_home" (defArgs s__law_home) (defBody s__law_home) (defScope s__law_home) .none kV17 dc17 pm17 an17 cd17 ct17), sl17⟩)
    (c17 : PySem.W.codeIn K cd17 "_law_home" = true)
    (k17 : PySem.W.keepIn K (.ref f17) = true)
    (a18 : PySem.W.nsIn K mainGlobals "_law_ways" = some (some (.ref f18)))
    (l18 : K.lookup f18 = some ⟨oc18, od18, .func (PySem.W.fnOf "_law_ways" "_law_ways" (defArgs s__law_ways) (defBody s__law_ways) (defScope s__law_ways) .none kV18 dc18 pm18 an18 cd18 ct18), sl18⟩)
    (c18 : PySem.W.codeIn K cd18 "_law_ways" = true)
    (k18 : PySem.W.keepIn K (.ref f18) = true)
    (a19 : PySem.W.nsIn K mainGlobals "_law_choices" = some (some (.ref f19)))
    (l19 : K.lookup f19 = some ⟨oc19, od19, .func (PySem.W.fnOf "_law_choices" "_law_choices" (defArgs s__law_choices) (defBody s__law_choices) (defScope s__law_choices) .none kV19 dc19 pm19 an19 cd19 ct19), sl19⟩)
    (c19 : PySem.W.codeIn K cd19 "_law_choices" = true)
    (k19 : PySem.W.keepIn K (.ref f19) = true)
    (a20 : PySem.W.nsIn K mainGlobals "law" = some (some (.ref f20)))
    (l20 : K.lookup f20 = some ⟨oc20, od20, .func (PySem.W.fnOf "law" "law" (defArgs s_law) (defBody s_law) (defScope s_law) .none kV20 dc20 pm20 an20 cd20 ct20), sl20⟩)
    (c20 : PySem.W.codeIn K cd20 "law" = true)
    (k20 : PySem.W.keepIn K (.ref f20) = true)
    (v_LEAST_SIZE : PySem.W.nsIn K mainGlobals "LEAST_SIZE" = some (some (.int 2 tk_LEAST_SIZE)))
    (v_MOST_BITS : PySem.W.nsIn K mainGlobals "MOST_BITS" = some (some (.int 30 tk_MOST_BITS)))
    (v_MOST_LIMIT : PySem.W.nsIn K mainGlobals "MOST_LIMIT" = some (some (.int 64 tk_MOST_LIMIT)))
    (v_MOST_NUMBER : PySem.W.nsIn K mainGlobals "MOST_NUMBER" = some (some (.int 999999 tk_MOST_NUMBER)))
    (v_MOST_NUMBERS : PySem.W.nsIn K mainGlobals "MOST_NUMBERS" = some (some (.int 64 tk_MOST_NUMBERS)))
    (v_MOST_SIZE : PySem.W.nsIn K mainGlobals "MOST_SIZE" = some (some (.int 64 tk_MOST_SIZE)))
    (v_MOST_TOLD : PySem.W.nsIn K mainGlobals "MOST_TOLD" = some (some (.int 999 tk_MOST_TOLD)))
    (v_MOST_WAYS : PySem.W.nsIn K mainGlobals "MOST_WAYS" = some (some (.int 4000 tk_MOST_WAYS)))
    (b_ValueError : PySem.W.nsIn K mainGlobals "ValueError" = some none)
    (b_all : PySem.W.nsIn K mainGlobals "all" = some none)
    (b_bool : PySem.W.nsIn K mainGlobals "bool" = some none)
    (b_enumerate : PySem.W.nsIn K mainGlobals "enumerate" = some none)
    (b_int : PySem.W.nsIn K mainGlobals "int" = some none)
    (b_isinstance : PySem.W.nsIn K mainGlobals "isinstance" = some none)
    (b_len : PySem.W.nsIn K mainGlobals "len" = some none)
    (b_list : PySem.W.nsIn K mainGlobals "list" = some none)
    (b_max : PySem.W.nsIn K mainGlobals "max" = some none)
    (b_min : PySem.W.nsIn K mainGlobals "min" = some none)
    (b_range : PySem.W.nsIn K mainGlobals "range" = some none)
    (b_set : PySem.W.nsIn K mainGlobals "set" = some none)
    (b_sorted : PySem.W.nsIn K mainGlobals "sorted" = some none)
    (b_sum : PySem.W.nsIn K mainGlobals "sum" = some none)
    (b_tuple : PySem.W.nsIn K mainGlobals "tuple" = some none)
    (b_zip : PySem.W.nsIn K mainGlobals "zip" = some none) :
    ∃ fd : FuncData, (∀ (s : Shared) (v : Value), BindsTo s fd ⟨[v], []⟩ [("_law_script", v)]) ∧ ∀ base : Heap, K.In base → base.Ns mainGlobals mg → FnOk l.prog w K mg base (L2N.CX l.prog w) 7 fa fd ["_law_script"] (spLaw K) := by
  have e := hfa.symm.trans (PySem.W.mg_of X G a20)
  cases e
  refine ⟨PySem.W.fnOf "law" "law" (defArgs s_law) (defBody s_law) (defScope s_law) .none kV20 dc20 pm20 an20 cd20 ct20, fun s v => .of_eq rfl, fun base _ _ => ?_⟩
  let cs : Cs := ⟨C_BadRule, C_BadKey, C_BadSize, C_Full, C_TooMany, C_StrewError, 0, 0, 0⟩
  have x_BadKey : ExcT K mg "BadKey" cs.BadKey := ⟨PySem.W.mg_of X G n_BadKey, kc_BadKey, xc_BadKey, bc_BadKey, tc_BadKey⟩
  have x_BadRule : ExcT K mg "BadRule" cs.BadRule := ⟨PySem.W.mg_of X G n_BadRule, kc_BadRule, xc_BadRule, bc_BadRule, tc_BadRule⟩
  have x_BadSize : ExcT K mg "BadSize" cs.BadSize := ⟨PySem.W.mg_of X G n_BadSize, kc_BadSize, xc_BadSize, bc_BadSize, tc_BadSize⟩
  have x_Full : ExcT K mg "Full" cs.Full := ⟨PySem.W.mg_of X G n_Full, kc_Full, xc_Full, bc_Full, tc_Full⟩
  have x_StrewError : ExcT K mg "StrewError" cs.StrewError := ⟨PySem.W.mg_of X G n_StrewError, kc_StrewError, xc_StrewError, bc_StrewError, tc_StrewError⟩
  have x_TooMany : ExcT K mg "TooMany" cs.TooMany := ⟨PySem.W.mg_of X G n_TooMany, kc_TooMany, xc_TooMany, bc_TooMany, tc_TooMany⟩
  have kw_BadRule := kitC_mk (cs := cs) (⟨hg_BadRule, hk_BadRule, bc_BadRule, hd_BadRule, ha_BadRule, wn, wt, hm_BadRule⟩ : ExcC K C_BadRule) hd_BadRule hd_BadKey hd_BadSize hd_Full hd_TooMany tc_BadRule tc_BadKey tc_BadSize tc_Full tc_TooMany kk_BadRule_BadRule kk_BadRule_BadRule kk_BadRule_BadKey kk_BadRule_BadSize kk_BadRule_Full kk_BadRule_TooMany kv_BadRule
  have kw_BadKey := kitC_mk (cs := cs) (⟨hg_BadKey, hk_BadKey, bc_BadKey, hd_BadKey, ha_BadKey, wn, wt, hm_BadKey⟩ : ExcC K C_BadKey) hd_BadRule hd_BadKey hd_BadSize hd_Full hd_TooMany tc_BadRule tc_BadKey tc_BadSize tc_Full tc_TooMany kk_BadKey_BadKey kk_BadKey_BadRule kk_BadKey_BadKey kk_BadKey_BadSize kk_BadKey_Full kk_BadKey_TooMany kv_BadKey
  have kw_BadSize := kitC_mk (cs := cs) (⟨hg_BadSize, hk_BadSize, bc_BadSize, hd_BadSize, ha_BadSize, wn, wt, hm_BadSize⟩ : ExcC K C_BadSize) hd_BadRule hd_BadKey hd_BadSize hd_Full hd_TooMany tc_BadRule tc_BadKey tc_BadSize tc_Full tc_TooMany kk_BadSize_BadSize kk_BadSize_BadRule kk_BadSize_BadKey kk_BadSize_BadSize kk_BadSize_Full kk_BadSize_TooMany kv_BadSize
  have kw_Full := kitC_mk (cs := cs) (⟨hg_Full, hk_Full, bc_Full, hd_Full, ha_Full, wn, wt, hm_Full⟩ : ExcC K C_Full) hd_BadRule hd_BadKey hd_BadSize hd_Full hd_TooMany tc_BadRule tc_BadKey tc_BadSize tc_Full tc_TooMany kk_Full_Full kk_Full_BadRule kk_Full_BadKey kk_Full_BadSize kk_Full_Full kk_Full_TooMany kv_Full
  have kw_TooMany := kitC_mk (cs := cs) (⟨hg_TooMany, hk_TooMany, bc_TooMany, hd_TooMany, ha_TooMany, wn, wt, hm_TooMany⟩ : ExcC K C_TooMany) hd_BadRule hd_BadKey hd_BadSize hd_Full hd_TooMany tc_BadRule tc_BadKey tc_BadSize tc_Full tc_TooMany kk_TooMany_TooMany kk_TooMany_BadRule kk_TooMany_BadKey kk_TooMany_BadSize kk_TooMany_Full kk_TooMany_TooMany kv_TooMany
  have kw : KitW K cs := ⟨kw_BadRule, kw_BadKey, kw_BadSize, kw_Full, kw_TooMany⟩
  have kx : ExmW K cs := exmW_mk (PySem.W.exm_ref bc_StrewError hd_StrewError tc_StrewError ex_BadRule) (PySem.W.exm_ref bc_StrewError hd_StrewError tc_StrewError ex_BadKey) (PySem.W.exm_ref bc_StrewError hd_StrewError tc_StrewError ex_BadSize) (PySem.W.exm_ref bc_StrewError hd_StrewError tc_StrewError ex_Full) (PySem.W.exm_ref bc_StrewError hd_StrewError tc_StrewError ex_TooMany)
  have k_LEAST_SIZE : ∃ t, mg "LEAST_SIZE" = some (.int 2 t) := ⟨_, PySem.W.mg_of X G v_LEAST_SIZE⟩
  have k_MOST_BITS : ∃ t, mg "MOST_BITS" = some (.int 30 t) := ⟨_, PySem.W.mg_of X G v_MOST_BITS⟩
  have k_MOST_LIMIT : ∃ t, mg "MOST_LIMIT" = some (.int 64 t) := ⟨_, PySem.W.mg_of X G v_MOST_LIMIT⟩
  have k_MOST_NUMBER : ∃ t, mg "MOST_NUMBER" = some (.int 999999 t) := ⟨_, PySem.W.mg_of X G v_MOST_NUMBER⟩
  have k_MOST_NUMBERS : ∃ t, mg "MOST_NUMBERS" = some (.int 64 t) := ⟨_, PySem.W.mg_of X G v_MOST_NUMBERS⟩
  have k_MOST_SIZE : ∃ t, mg "MOST_SIZE" = some (.int 64 t) := ⟨_, PySem.W.mg_of X G v_MOST_SIZE⟩
  have k_MOST_TOLD : ∃ t, mg "MOST_TOLD" = some (.int 999 t) := ⟨_, PySem.W.mg_of X G v_MOST_TOLD⟩
  have k_MOST_WAYS : ∃ t, mg "MOST_WAYS" = some (.int 4000 t) := ⟨_, PySem.W.mg_of X G v_MOST_WAYS⟩
  have m_ValueError : mg "ValueError" = none := PySem.W.mg_none_of X G b_ValueError
  have m_all : mg "all" = none := PySem.W.mg_none_of X G b_all
  have m_bool : mg "bool" = none := PySem.W.mg_none_of X G b_bool
  have m_enumerate : mg "enumerate" = none := PySem.W.mg_none_of X G b_enumerate
  have m_int : mg "int" = none := PySem.W.mg_none_of X G b_int
  have m_isinstance : mg "isinstance" = none := PySem.W.mg_none_of X G b_isinstance
  have m_len : mg "len" = none := PySem.W.mg_none_of X G b_len
  have m_list : mg "list" = none := PySem.W.mg_none_of X G b_list
  have m_max : mg "max" = none := PySem.W.mg_none_of X G b_max
  have m_min : mg "min" = none := PySem.W.mg_none_of X G b_min
  have m_range : mg "range" = none := PySem.W.mg_none_of X G b_range
  have m_set : mg "set" = none := PySem.W.mg_none_of X G b_set
  have m_sorted : mg "sorted" = none := PySem.W.mg_none_of X G b_sorted
  have m_sum : mg "sum" = none := PySem.W.mg_none_of X G b_sum
  have m_tuple : mg "tuple" = none := PySem.W.mg_none_of X G b_tuple
  have m_zip : mg "zip" = none := PySem.W.mg_none_of X G b_zip
  have D__law_cell : Dn K mg "_law_cell" s__law_cell ["_law_script", "_law_k"] := ⟨f0, _, fun_mk (st := s__law_cell) l0 c0 k0, PySem.W.mg_of X G a0, (fun_mk (st := s__law_cell) l0 c0 k0).binds fun _ _ _ _ _ _ us hl => match us, hl with | [_, _], _ => rfl⟩
  have cal__law_cell := ok__law_cell (P := l.prog) (w := w) (mg := mg) (base := base) (cs := cs) D__law_cell m_len
  have D__law_drawn : Dn K mg "_law_drawn" s__law_drawn ["_law_cell_here", "_law_k"] := ⟨f1, _, fun_mk (st := s__law_drawn) l1 c1 k1, PySem.W.mg_of X G a1, (fun_mk (st := s__law_drawn) l1 c1 k1).binds fun _ _ _ _ _ _ us hl => match us, hl with | [_, _], _ => rfl⟩
  have cal__law_drawn := ok__law_drawn (P := l.prog) (w := w) (mg := mg) (base := base) (cs := cs) D__law_drawn
  have D__law_rule : Dn K mg "_law_rule" s__law_rule ["_law_more"] := ⟨f2, _, fun_mk (st := s__law_rule) l2 c2 k2, PySem.W.mg_of X G a2, (fun_mk (st := s__law_rule) l2 c2 k2).binds fun _ _ _ _ _ _ us hl => match us, hl with | [_], _ => rfl⟩
  have cal__law_rule := ok__law_rule (P := l.prog) (w := w) (mg := mg) (base := base) (cs := cs) D__law_rule m_range m_tuple
  have D__law_word : Dn K mg "_law_word" s__law_word ["_law_e"] := ⟨f3, _, fun_mk (st := s__law_word) l3 c3 k3, PySem.W.mg_of X G a3, (fun_mk (st := s__law_word) l3 c3 k3).binds fun _ _ _ _ _ _ us hl => match us, hl with | [_], _ => rfl⟩
  have cal__law_word := ok__law_word (P := l.prog) (w := w) (mg := mg) (base := base) (cs := cs) D__law_word kw m_isinstance m_int m_sum m_ValueError x_BadRule x_BadKey x_BadSize x_Full x_TooMany
  have D_is_count : Dn K mg "is_count" s_is_count ["thing", "least", "most"] := ⟨f4, _, fun_mk (st := s_is_count) l4 c4 k4, PySem.W.mg_of X G a4, (fun_mk (st := s_is_count) l4 c4 k4).binds fun _ _ _ _ _ _ us hl => match us, hl with | [_, _, _], _ => rfl⟩
  have cal_is_count := ok_is_count (P := l.prog) (w := w) (mg := mg) (base := base) (cs := cs) D_is_count m_int m_isinstance m_bool
  have D_is_numbers : Dn K mg "is_numbers" s_is_numbers ["thing"] := ⟨f5, _, fun_mk (st := s_is_numbers) l5 c5 k5, PySem.W.mg_of X G a5, (fun_mk (st := s_is_numbers) l5 c5 k5).binds fun _ _ _ _ _ _ us hl => match us, hl with | [_], _ => rfl⟩
  have cal_is_numbers := ok_is_numbers (P := l.prog) (w := w) (mg := mg) (base := base) (cs := cs) D_is_numbers cal_is_count m_tuple m_isinstance m_len m_all k_MOST_NUMBERS k_MOST_TOLD
  have D_is_rule : Dn K mg "is_rule" s_is_rule ["thing"] := ⟨f6, _, fun_mk (st := s_is_rule) l6 c6 k6, PySem.W.mg_of X G a6, (fun_mk (st := s_is_rule) l6 c6 k6).binds fun _ _ _ _ _ _ us hl => match us, hl with | [_], _ => rfl⟩
  have cal_is_rule := ok_is_rule (P := l.prog) (w := w) (mg := mg) (base := base) (cs := cs) D_is_rule cal_is_numbers cal_is_count m_tuple m_isinstance m_len m_int k_MOST_NUMBER k_MOST_BITS
  have D_need_rule : Dn K mg "need_rule" s_need_rule ["rule"] := ⟨f7, _, fun_mk (st := s_need_rule) l7 c7 k7, PySem.W.mg_of X G a7, (fun_mk (st := s_need_rule) l7 c7 k7).binds fun _ _ _ _ _ _ us hl => match us, hl with | [_], _ => rfl⟩
  have cal_need_rule := ok_need_rule (P := l.prog) (w := w) (mg := mg) (base := base) (cs := cs) D_need_rule cal_is_rule x_BadRule
  have D_need_size : Dn K mg "need_size" s_need_size ["size"] := ⟨f8, _, fun_mk (st := s_need_size) l8 c8 k8, PySem.W.mg_of X G a8, (fun_mk (st := s_need_size) l8 c8 k8).binds fun _ _ _ _ _ _ us hl => match us, hl with | [_], _ => rfl⟩
  have cal_need_size := ok_need_size (P := l.prog) (w := w) (mg := mg) (base := base) (cs := cs) D_need_size cal_is_count k_LEAST_SIZE k_MOST_SIZE x_BadSize
  have D_need_count : Dn K mg "need_count" s_need_count ["number", "least", "most"] := ⟨f9, _, fun_mk (st := s_need_count) l9 c9 k9, PySem.W.mg_of X G a9, (fun_mk (st := s_need_count) l9 c9 k9).binds fun _ _ _ _ _ _ us hl => match us, hl with | [_, _, _], _ => rfl⟩
  have cal_need_count := ok_need_count (P := l.prog) (w := w) (mg := mg) (base := base) (cs := cs) D_need_count cal_is_count x_BadSize
  have D_home_of : Dn K mg "home_of" s_home_of ["rule", "key", "size"] := ⟨f10, _, fun_mk (st := s_home_of) l10 c10 k10, PySem.W.mg_of X G a10, (fun_mk (st := s_home_of) l10 c10 k10).binds fun _ _ _ _ _ _ us hl => match us, hl with | [_, _, _], _ => rfl⟩
  have cal_home_of := ok_home_of (P := l.prog) (w := w) (mg := mg) (base := base) (cs := cs) D_home_of m_len
  have D_dealt : Dn K mg "dealt" s_dealt ["room", "many"] := ⟨f11, _, fun_mk (st := s_dealt) l11 c11 k11, PySem.W.mg_of X G a11, (fun_mk (st := s_dealt) l11 c11 k11).binds fun _ _ _ _ _ _ us hl => match us, hl with | [_, _], _ => rfl⟩
  have cal_dealt := ok_dealt (P := l.prog) (w := w) (mg := mg) (base := base) (cs := cs) D_dealt m_enumerate m_sum m_range m_max m_min m_len k_MOST_WAYS x_TooMany
  have D_homes_by : Dn K mg "homes_by" s_homes_by ["counts"] := ⟨f12, _, fun_mk (st := s_homes_by) l12 c12 k12, PySem.W.mg_of X G a12, (fun_mk (st := s_homes_by) l12 c12 k12).binds fun _ _ _ _ _ _ us hl => match us, hl with | [_], _ => rfl⟩
  have cal_homes_by := ok_homes_by (P := l.prog) (w := w) (mg := mg) (base := base) (cs := cs) D_homes_by m_enumerate
  have D_laid : Dn K mg "laid" s_laid ["homes", "size"] := ⟨f13, _, fun_mk (st := s_laid) l13 c13 k13, PySem.W.mg_of X G a13, (fun_mk (st := s_laid) l13 c13 k13).binds fun _ _ _ _ _ _ us hl => match us, hl with | [_, _], _ => rfl⟩
  have cal_laid := ok_laid (P := l.prog) (w := w) (mg := mg) (base := base) (cs := cs) D_laid m_enumerate
  have D_ways_of : Dn K mg "ways_of" s_ways_of ["homes", "size"] := ⟨f14, _, fun_mk (st := s_ways_of) l14 c14 k14, PySem.W.mg_of X G a14, (fun_mk (st := s_ways_of) l14 c14 k14).binds fun _ _ _ _ _ _ us hl => match us, hl with | [_, _], _ => rfl⟩
  have cal_ways_of := ok_ways_of (P := l.prog) (w := w) (mg := mg) (base := base) (cs := cs) D_ways_of cal_laid m_enumerate
  have D_worst : Dn K mg "worst" s_worst ["rule", "size", "many", "limit"] := ⟨f15, _, fun_mk (st := s_worst) l15 c15 k15, PySem.W.mg_of X G a15, (fun_mk (st := s_worst) l15 c15 k15).binds fun _ _ _ _ _ _ us hl => match us, hl with | [_, _, _, _], _ => rfl⟩
  have cal_worst := ok_worst (P := l.prog) (w := w) (mg := mg) (base := base) (cs := cs) D_worst cal_need_rule cal_need_size cal_need_count cal_home_of cal_dealt cal_homes_by cal_ways_of m_range m_len m_zip m_sorted k_MOST_LIMIT
  have D__law_told : Dn K mg "_law_told" s__law_told ["_law_rule_here", "_law_size", "_law_many", "_law_limit"] := ⟨f16, _, fun_mk (st := s__law_told) l16 c16 k16, PySem.W.mg_of X G a16, (fun_mk (st := s__law_told) l16 c16 k16).binds fun _ _ _ _ _ _ us hl => match us, hl with | [_, _, _, _], _ => rfl⟩
  have cal__law_told := ok__law_told (P := l.prog) (w := w) (mg := mg) (base := base) (cs := cs) D__law_told cal__law_word cal_worst kx x_StrewError
  have D__law_home : Dn K mg "_law_home" s__law_home ["_law_rule_here", "_law_key", "_law_size"] := ⟨f17, _, fun_mk (st := s__law_home) l17 c17 k17, PySem.W.mg_of X G a17, (fun_mk (st := s__law_home) l17 c17 k17).binds fun _ _ _ _ _ _ us hl => match us, hl with | [_, _, _], _ => rfl⟩
  have cal__law_home := ok__law_home (P := l.prog) (w := w) (mg := mg) (base := base) (cs := cs) D__law_home m_len m_range
  have D__law_ways : Dn K mg "_law_ways" s__law_ways ["_law_rule_here", "_law_size", "_law_keys_here"] := ⟨f18, _, fun_mk (st := s__law_ways) l18 c18 k18, PySem.W.mg_of X G a18, (fun_mk (st := s__law_ways) l18 c18 k18).binds fun _ _ _ _ _ _ us hl => match us, hl with | [_, _, _], _ => rfl⟩
  have cal__law_ways := ok__law_ways (P := l.prog) (w := w) (mg := mg) (base := base) (cs := cs) D__law_ways cal__law_home
  have D__law_choices : Dn K mg "_law_choices" s__law_choices ["_law_limit", "_law_many"] := ⟨f19, _, fun_mk (st := s__law_choices) l19 c19 k19, PySem.W.mg_of X G a19, (fun_mk (st := s__law_choices) l19 c19 k19).binds fun _ _ _ _ _ _ us hl => match us, hl with | [_, _], _ => rfl⟩
  have cal__law_choices := ok__law_choices (P := l.prog) (w := w) (mg := mg) (base := base) (cs := cs) D__law_choices m_range m_len
  exact ok_law (cs := cs) (fun_mk (st := s_law) l20 c20 k20) cal__law_cell cal__law_drawn cal__law_rule cal__law_told cal__law_ways cal__law_choices m_range m_len m_min m_max m_tuple m_isinstance m_list m_sorted m_set m_all
theorem walk {l : PySem.W.OpenLaw} {q : Program} {loose : List Str} {XP : (Str → Option Value) → Heap → Prop} {YP : World → Heap → Prop} {d : DefRec} {K : Params → PySem.W.Frag} (hn : l.most = some 63) (hdf : d.params.defaults = [])
    (hY : ∀ (w : World) (h : Heap), YP w h → (K w.params).In h)
    (F : ∀ (w : World) (mg : Str → Option Value) (fa : Addr) (h : Heap), (K w.params).In h → h.Ns mainGlobals mg → mg d.name = some (.ref fa) →
      ∃ fd : FuncData, (∀ (s : Shared) (u : Value), BindsTo s fd ⟨[u], []⟩ [("_law_script", u)]) ∧ ∀ base : Heap, (K w.params).In base → base.Ns mainGlobals mg → FnOk l.prog w (K w.params) mg base (L2N.CX l.prog w) 7 fa fd ["_law_script"] (spLaw (K w.params))) :
    PySem.W.WalkO q loose XP YP l.row.toRowW d [] (fun f vs => PySem.call f vs) := by
  refine L2.walk_of (n := 63) (k := 7) (x := "_law_script") (CX := fun w => L2N.CX l.prog w) (sp := fun w => spLaw (K w.params)) hn (by decide) hdf ⟨rfl, by decide, by decide⟩ hY F (fun _ _ a ns hl _ hS => ⟨a, ns, rfl, hS, hl, fun _ => rfl⟩) fun _ _ _ _ _ h => ?_
  obtain ⟨_, _, _, _, _, _, _, _, _, _, _, _, z⟩ := h
  exact z.elim
end Lg
open PySem PySem.W PyProof.Rows
set_option maxRecDepth 100000 in
set_option maxHeartbeats 0 in
theorem PySem.Challenge.cw_strewn_k70_whole_worst_holds : PySem.Challenge.rw_strewn_k70_whole_worst.Holds := by
  w_on; o_law; k_head; (case hw => w_witness2)
  k_fill
  refine Lg.walk (l := PySem.Challenge.rw_strewn_k70_whole_worst) rfl rfl (fun w h Y => PySem.W.kIn_of Y) ?F
  case F =>
    intro w mg fa h KX G hmg
    refine' Lg.all_mk KX G hmg ?n_BadKey ?kc_BadKey ?xc_BadKey ?bc_BadKey ?tc_BadKey ?n_BadRule ?kc_BadRule ?xc_BadRule ?bc_BadRule ?tc_BadRule ?n_BadSize ?kc_BadSize ?xc_BadSize ?bc_BadSize ?tc_BadSize ?n_Full ?kc_Full ?xc_Full ?bc_Full ?tc_Full ?n_StrewError ?kc_StrewError ?xc_StrewError ?bc_StrewError ?tc_StrewError ?n_TooMany ?kc_TooMany ?xc_TooMany ?bc_TooMany ?tc_TooMany ?hd_StrewError ?wn ?wt ?hg_BadRule ?hk_BadRule ?hd_BadRule ?ha_BadRule ?hm_BadRule ?kv_BadRule ?ex_BadRule ?kk_BadRule_BadRule ?kk_BadRule_BadKey ?kk_BadRule_BadSize ?kk_BadRule_Full ?kk_BadRule_TooMany ?hg_BadKey ?hk_BadKey ?hd_BadKey ?ha_BadKey ?hm_BadKey ?kv_BadKey ?ex_BadKey ?kk_BadKey_BadRule ?kk_BadKey_BadKey ?kk_BadKey_BadSize ?kk_BadKey_Full ?kk_BadKey_TooMany ?hg_BadSize ?hk_BadSize ?hd_BadSize ?ha_BadSize ?hm_BadSize ?kv_BadSize ?ex_BadSize ?kk_BadSize_BadRule ?kk_BadSize_BadKey ?kk_BadSize_BadSize ?kk_BadSize_Full ?kk_BadSize_TooMany ?hg_Full ?hk_Full ?hd_Full ?ha_Full ?hm_Full ?kv_Full ?ex_Full ?kk_Full_BadRule ?kk_Full_BadKey ?kk_Full_BadSize ?kk_Full_Full ?kk_Full_TooMany ?hg_TooMany ?hk_TooMany ?hd_TooMany ?ha_TooMany ?hm_TooMany ?kv_TooMany ?ex_TooMany ?kk_TooMany_BadRule ?kk_TooMany_BadKey ?kk_TooMany_BadSize ?kk_TooMany_Full ?kk_TooMany_TooMany ?a0 ?l0 ?c0 ?k0 ?a1 ?l1 ?c1 ?k1 ?a2 ?l2 ?c2 ?k2 ?a3 ?l3 ?c3 ?k3 ?a4 ?l4 ?c4 ?k4 ?a5 ?l5 ?c5 ?k5 ?a6 ?l6 ?c6 ?k6 ?a7 ?l7 ?c7 ?k7 ?a8 ?l8 ?c8 ?k8 ?a9 ?l9 ?c9 ?k9 ?a10 ?l10 ?c10 ?k10 ?a11 ?l11 ?c11 ?k11 ?a12 ?l12 ?c12 ?k12 ?a13 ?l13 ?c13 ?k13 ?a14 ?l14 ?c14 ?k14 ?a15 ?l15 ?c15 ?k15 ?a16 ?l16 ?c16 ?k16 ?a17 ?l17 ?c17 ?k17 ?a18 ?l18 ?c18 ?k18 ?a19 ?l19 ?c19 ?k19 ?a20 ?l20 ?c20 ?k20 ?v_LEAST_SIZE ?v_MOST_BITS ?v_MOST_LIMIT ?v_MOST_NUMBER ?v_MOST_NUMBERS ?v_MOST_SIZE ?v_MOST_TOLD ?v_MOST_WAYS ?b_ValueError ?b_all ?b_bool ?b_enumerate ?b_int ?b_isinstance ?b_len ?b_list ?b_max ?b_min ?b_range ?b_set ?b_sorted ?b_sum ?b_tuple ?b_zip
    (case n_BadKey => k_is)
    (case kc_BadKey => k_is)
    (case xc_BadKey => k_exc)
    (case bc_BadKey => k_is)
    (case tc_BadKey => k_is)
    (case n_BadRule => k_is)
    (case kc_BadRule => k_is)
    (case xc_BadRule => k_exc)
    (case bc_BadRule => k_is)
    (case tc_BadRule => k_is)
    (case n_BadSize => k_is)
    (case kc_BadSize => k_is)
    (case xc_BadSize => k_exc)
    (case bc_BadSize => k_is)
    (case tc_BadSize => k_is)
    (case n_Full => k_is)
    (case kc_Full => k_is)
    (case xc_Full => k_exc)
    (case bc_Full => k_is)
    (case tc_Full => k_is)
    (case n_StrewError => k_is)
    (case kc_StrewError => k_is)
    (case xc_StrewError => k_exc)
    (case bc_StrewError => k_is)
    (case tc_StrewError => k_is)
    (case n_TooMany => k_is)
    (case kc_TooMany => k_is)
    (case xc_TooMany => k_exc)
    (case bc_TooMany => k_is)
    (case tc_TooMany => k_is)
    (case hd_StrewError => k_is)
    (case wn => k_is)
    (case wt => k_is)
    (case hg_BadRule => k_is)
    (case hk_BadRule => k_is)
    (case hd_BadRule => k_is)
    (case ha_BadRule => k_is)
    (case hm_BadRule => k_is)
    (case kv_BadRule => k_is)
    (case ex_BadRule => k_is)
    (case kk_BadRule_BadRule => k_is)
    (case kk_BadRule_BadKey => k_is)
    (case kk_BadRule_BadSize => k_is)
    (case kk_BadRule_Full => k_is)
    (case kk_BadRule_TooMany => k_is)
    (case hg_BadKey => k_is)
    (case hk_BadKey => k_is)
    (case hd_BadKey => k_is)
    (case ha_BadKey => k_is)
    (case hm_BadKey => k_is)
    (case kv_BadKey => k_is)
    (case ex_BadKey => k_is)
    (case kk_BadKey_BadRule => k_is)
    (case kk_BadKey_BadKey => k_is)
    (case kk_BadKey_BadSize => k_is)
    (case kk_BadKey_Full => k_is)
    (case kk_BadKey_TooMany => k_is)
    (case hg_BadSize => k_is)
    (case hk_BadSize => k_is)
    (case hd_BadSize => k_is)
    (case ha_BadSize => k_is)
    (case hm_BadSize => k_is)
    (case kv_BadSize => k_is)
    (case ex_BadSize => k_is)
    (case kk_BadSize_BadRule => k_is)
    (case kk_BadSize_BadKey => k_is)
    (case kk_BadSize_BadSize => k_is)
    (case kk_BadSize_Full => k_is)
    (case kk_BadSize_TooMany => k_is)
    (case hg_Full => k_is)
    (case hk_Full => k_is)
    (case hd_Full => k_is)
    (case ha_Full => k_is)
    (case hm_Full => k_is)
    (case kv_Full => k_is)
    (case ex_Full => k_is)
    (case kk_Full_BadRule => k_is)
    (case kk_Full_BadKey => k_is)
    (case kk_Full_BadSize => k_is)
    (case kk_Full_Full => k_is)
    (case kk_Full_TooMany => k_is)
    (case hg_TooMany => k_is)
    (case hk_TooMany => k_is)
    (case hd_TooMany => k_is)
    (case ha_TooMany => k_is)
    (case hm_TooMany => k_is)
    (case kv_TooMany => k_is)
    (case ex_TooMany => k_is)
    (case kk_TooMany_BadRule => k_is)
    (case kk_TooMany_BadKey => k_is)
    (case kk_TooMany_BadSize => k_is)
    (case kk_TooMany_Full => k_is)
    (case kk_TooMany_TooMany => k_is)
    (case a0 => k_is)
    (case l0 => k_is)
    (case c0 => k_is)
    (case k0 => k_is)
    (case a1 => k_is)
    (case l1 => k_is)
    (case c1 => k_is)
    (case k1 => k_is)
    (case a2 => k_is)
    (case l2 => k_is)
    (case c2 => k_is)
    (case k2 => k_is)
    (case a3 => k_is)
    (case l3 => k_is)
    (case c3 => k_is)
    (case k3 => k_is)
    (case a4 => k_is)
    (case l4 => k_is)
    (case c4 => k_is)
    (case k4 => k_is)
    (case a5 => k_is)
    (case l5 => k_is)
    (case c5 => k_is)
    (case k5 => k_is)
    (case a6 => k_is)
    (case l6 => k_is)
    (case c6 => k_is)
    (case k6 => k_is)
    (case a7 => k_is)
    (case l7 => k_is)
    (case c7 => k_is)
    (case k7 => k_is)
    (case a8 => k_is)
    (case l8 => k_is)
    (case c8 => k_is)
    (case k8 => k_is)
    (case a9 => k_is)
    (case l9 => k_is)
    (case c9 => k_is)
    (case k9 => k_is)
    (case a10 => k_is)
    (case l10 => k_is)
    (case c10 => k_is)
    (case k10 => k_is)
    (case a11 => k_is)
    (case l11 => k_is)
    (case c11 => k_is)
    (case k11 => k_is)
    (case a12 => k_is)
    (case l12 => k_is)
    (case c12 => k_is)
    (case k12 => k_is)
    (case a13 => k_is)
    (case l13 => k_is)
    (case c13 => k_is)
    (case k13 => k_is)
    (case a14 => k_is)
    (case l14 => k_is)
    (case c14 => k_is)
    (case k14 => k_is)
    (case a15 => k_is)
    (case l15 => k_is)
    (case c15 => k_is)
    (case k15 => k_is)
    (case a16 => k_is)
    (case l16 => k_is)
    (case c16 => k_is)
    (case k16 => k_is)
    (case a17 => k_is)
    (case l17 => k_is)
    (case c17 => k_is)
    (case k17 => k_is)
    (case a18 => k_is)
    (case l18 => k_is)
    (case c18 => k_is)
    (case k18 => k_is)
    (case a19 => k_is)
    (case l19 => k_is)
    (case c19 => k_is)
    (case k19 => k_is)
    (case a20 => k_is)
    (case l20 => k_is)
    (case c20 => k_is)
    (case k20 => k_is)
    (case v_LEAST_SIZE => k_is)
    (case v_MOST_BITS => k_is)
    (case v_MOST_LIMIT => k_is)
    (case v_MOST_NUMBER => k_is)
    (case v_MOST_NUMBERS => k_is)
    (case v_MOST_SIZE => k_is)
    (case v_MOST_TOLD => k_is)
    (case v_MOST_WAYS => k_is)
    (case b_ValueError => k_is)
    (case b_all => k_is)
    (case b_bool => k_is)
    (case b_enumerate => k_is)
    (case b_int => k_is)
    (case b_isinstance => k_is)
    (case b_len => k_is)
    (case b_list => k_is)
    (case b_max => k_is)
    (case b_min => k_is)
    (case b_range => k_is)
    (case b_set => k_is)
    (case b_sorted => k_is)
    (case b_sum => k_is)
    (case b_tuple => k_is)
    (case b_zip => k_is)
