import PyProof.Rows.All
import Wide.All
import OpenK.AllK
import Wide.FinOn
import HandS.ForMost
import HandS.ForExc
import HandS.Conv
import HandS.IsInst
import HandS.SortInts
import HandS.Strs
import HandS.SetFor
import HandS.Wide
import HandS.EndBits
import HandS.Walk
import KE.DataAny
import HandS.Evl
import HandS.Style
import HandS.ExcIs
import HandS.SortKw
import KE.KMinKey
import HandS.TryOnly
import HandS.Deep
import HandS.Hot
import HandS.HotCalls
import HandS.ExcCtx
import PySem.Challenge.RW_joinplay_k05_refused
section
namespace Jp

abbrev Tie := Nat × Nat

/-- b and c are the two ends of t -/
def Ends2 (t : Tie) (b c : Nat) : Prop := (t.1 = b ∧ t.2 = c) ∨ (t.1 = c ∧ t.2 = b)

theorem Ends2.symm {t : Tie} {b c : Nat} (h : Ends2 t b c) : Ends2 t c b := h.elim .inr .inl

/-- ties with counts in S lead from a to b -/
inductive Conn (ts : List Tie) (S : Nat → Prop) : Nat → Nat → Prop
  | refl (a : Nat) : Conn ts S a a
  | step {a b c : Nat} {t : Tie} (i : Nat) : Conn ts S a b → S i → ts[i]? = some t → Ends2 t b c → Conn ts S a c

section
variable {ts : List Tie} {S T : Nat → Prop} {a b c : Nat}

theorem Conn.trans (h : Conn ts S a b) (k : Conn ts S b c) : Conn ts S a c := by
  induction k with
  | refl => exact h
  | step i _ hs ht he ih => exact .step i ih hs ht he

theorem Conn.one {t : Tie} {i : Nat} (hs : S i) (ht : ts[i]? = some t) (he : Ends2 t a b) : Conn ts S a b :=
  .step i (.refl a) hs ht he

theorem Conn.symm (h : Conn ts S a b) : Conn ts S b a := by
  induction h with
  | refl => exact .refl _
  | step i _ hs ht he ih => exact (Conn.one hs ht he.symm).trans ih

theorem Conn.mono (h : Conn ts S a b) (hST : ∀ i, S i → T i) : Conn ts T a b := by
  induction h with
  | refl => exact .refl _
  | step i _ hs ht he ih => exact .step i ih (hST i hs) ht he

/-- each tie of S is bridged by T -/
theorem Conn.via (h : Conn ts S a b) (hST : ∀ i t, S i → ts[i]? = some t → Conn ts T t.1 t.2) : Conn ts T a b := by
  induction h with
  | refl => exact .refl _
  | step i _ hs ht he ih =>
    rcases he with ⟨e1, e2⟩ | ⟨e1, e2⟩
    · have := hST i _ hs ht
      rw [e1, e2] at this
      exact ih.trans this
    · have := (hST i _ hs ht).symm
      rw [e1, e2] at this
      exact ih.trans this

/-- what one more tie joins -/
theorem Conn.insert {i : Nat} {t : Tie} (ht : ts[i]? = some t) (h : Conn ts S a b) (hST : ∀ x, S x → T x ∨ x = i) :
    Conn ts T a b ∨ (Conn ts T a t.1 ∧ Conn ts T t.2 b) ∨ (Conn ts T a t.2 ∧ Conn ts T t.1 b) := by
  induction h with
  | refl => exact .inl (.refl _)
  | @step b c u x _ hs hu he ih =>
    rcases hST x hs with hx | rfl
    · have st : Conn ts T b c := .one hx hu he
      rcases ih with h | ⟨h1, h2⟩ | ⟨h1, h2⟩
      · exact .inl (h.trans st)
      · exact .inr (.inl ⟨h1, h2.trans st⟩)
      · exact .inr (.inr ⟨h1, h2.trans st⟩)
    · rw [ht] at hu
      cases hu
      rcases he with ⟨e1, e2⟩ | ⟨e1, e2⟩
      · subst e1 e2
        rcases ih with h | ⟨h1, h2⟩ | ⟨h1, h2⟩
        · exact .inr (.inl ⟨h, .refl _⟩)
        · exact .inr (.inl ⟨h1, .refl _⟩)
        · exact .inl h1
      · subst e1 e2
        rcases ih with h | ⟨h1, h2⟩ | ⟨h1, h2⟩
        · exact .inr (.inr ⟨h, .refl _⟩)
        · exact .inl h1
        · exact .inr (.inr ⟨h1, .refl _⟩)
end

/-- no tie of S is bridged by the others -/
def Acy (ts : List Tie) (S : Nat → Prop) : Prop :=
  ∀ i t, S i → ts[i]? = some t → ¬ Conn ts (fun x => S x ∧ x ≠ i) t.1 t.2

theorem Acy.mono {ts : List Tie} {S T : Nat → Prop} (h : Acy ts S) (hTS : ∀ i, T i → S i) : Acy ts T :=
  fun i t hi ht c => h i t (hTS i hi) ht (c.mono fun x hx => ⟨hTS x hx.1, hx.2⟩)

theorem Acy.add {ts : List Tie} {S T : Nat → Prop} {i : Nat} {t : Tie} (h : Acy ts S) (ht : ts[i]? = some t)
    (hn : ¬ Conn ts S t.1 t.2) (hTS : ∀ x, T x → S x ∨ x = i) : Acy ts T := by
  intro e u he hu hc
  by_cases hei : e = i
  · subst hei
    rw [ht] at hu
    cases hu
    refine hn (hc.mono fun x hx => ?_)
    exact (hTS x hx.1).resolve_right hx.2
  · have heS : S e := (hTS e he).resolve_right hei
    have key := Conn.insert (T := fun x => S x ∧ x ≠ e) ht hc (fun x hx => by
      rcases hTS x hx.1 with h1 | h1
      · exact .inl ⟨h1, hx.2⟩
      · exact .inr h1)
    have up : ∀ {p q}, Conn ts (fun x => S x ∧ x ≠ e) p q → Conn ts S p q := fun c => c.mono fun x hx => hx.1
    have ed : Conn ts S u.1 u.2 := .one heS hu (.inl ⟨rfl, rfl⟩)
    rcases key with h1 | ⟨h1, h2⟩ | ⟨h1, h2⟩
    · exact h e u heS hu h1
    · exact hn (((up h1).symm.trans ed).trans (up h2).symm)
    · exact hn ((up h2).trans (ed.symm.trans (up h1)))

/-- a least set that joins -/
theorem Conn.least {ts : List Tie} {a b : Nat} : ∀ (n : Nat) (L : List Nat), L.length ≤ n → Conn ts (· ∈ L) a b →
    ∃ B : List Nat, (∀ x ∈ B, x ∈ L) ∧ Conn ts (· ∈ B) a b ∧ ∀ y ∈ B, ¬ Conn ts (fun x => x ∈ B ∧ x ≠ y) a b := by
  intro n
  induction n with
  | zero =>
    intro L hL h
    have : L = [] := List.eq_nil_of_length_eq_zero (by omega)
    subst this
    exact ⟨[], fun _ h => h, h, fun _ h => nomatch h⟩
  | succ n ih =>
    intro L hL h
    by_cases hy : ∃ y, y ∈ L ∧ Conn ts (fun x => x ∈ L ∧ x ≠ y) a b
    · obtain ⟨y, hyL, hc⟩ := hy
      have hlt : (L.filter (· ≠ y)).length < L.length := by
        have h1 : (L.filter (· ≠ y)).length ≤ L.length := List.length_filter_le _ _
        rcases Nat.lt_or_ge (L.filter (· ≠ y)).length L.length with h2 | h2
        · exact h2
        · have h3 := (List.length_filter_eq_length_iff (l := L) (p := fun x => decide (x ≠ y))).mp (by omega)
          have := h3 y hyL
          simp at this
      obtain ⟨B, h1, h2, h3⟩ := ih (L.filter (· ≠ y)) (by omega) (hc.mono fun x hx => by
        simp only [List.mem_filter, decide_eq_true_eq]
        exact hx)
      exact ⟨B, fun x hx => (List.mem_filter.mp (h1 x hx)).1, h2, h3⟩
    · exact ⟨L, fun _ h => h, h, fun y hyL hc => hy ⟨y, hyL, hc⟩⟩

/-- what joins, joins by counts below the number of ties -/
theorem Conn.fin {ts : List Tie} {S : Nat → Prop} {a b : Nat} (h : Conn ts S a b) : ∃ L : List Nat, (∀ x ∈ L, S x) ∧ Conn ts (· ∈ L) a b := by
  induction h with
  | refl => exact ⟨[], (fun _ h => nomatch h), .refl _⟩
  | step i _ hs ht he ih =>
    obtain ⟨L, h1, h2⟩ := ih
    refine ⟨i :: L, fun x hx => ?_, .step i (h2.mono fun x hx => List.mem_cons_of_mem _ hx) List.mem_cons_self ht he⟩
    rcases List.mem_cons.mp hx with rfl | hx
    · exact hs
    · exact h1 x hx

theorem Conn.lt {ts : List Tie} {S : Nat → Prop} {a b : Nat} (h : Conn ts S a b) : Conn ts (fun i => S i ∧ i < ts.length) a b := by
  induction h with
  | refl => exact .refl _
  | step i _ hs ht he ih => exact .step i ih ⟨hs, (List.getElem?_eq_some_iff.mp ht).1⟩ ht he

/-- THE WAY in a forest: a set of its ties, each of which is needed, that joins; behind each of them it falls in two -/
theorem Acy.way {ts : List Tie} {A : Nat → Prop} {a b : Nat} (hA : Acy ts A) (h : Conn ts A a b) :
    ∃ B : Nat → Prop, (∀ x, B x → A x) ∧ Conn ts B a b ∧ (∀ y, B y → ¬ Conn ts (fun x => A x ∧ x ≠ y) a b) ∧
      ∀ y t, B y → ts[y]? = some t → (Conn ts (fun x => B x ∧ x ≠ y) a t.1 ∧ Conn ts (fun x => B x ∧ x ≠ y) t.2 b) ∨ (Conn ts (fun x => B x ∧ x ≠ y) a t.2 ∧ Conn ts (fun x => B x ∧ x ≠ y) t.1 b) := by
  obtain ⟨L, hL, hc⟩ := h.lt.fin
  obtain ⟨B, h1, h2, h3⟩ := Conn.least L.length L (Nat.le_refl _) hc
  have hBA : ∀ x, x ∈ B → A x := fun x hx => (hL x (h1 x hx)).1
  have hsp : ∀ y t, y ∈ B → ts[y]? = some t → (Conn ts (fun x => x ∈ B ∧ x ≠ y) a t.1 ∧ Conn ts (fun x => x ∈ B ∧ x ≠ y) t.2 b) ∨ (Conn ts (fun x => x ∈ B ∧ x ≠ y) a t.2 ∧ Conn ts (fun x => x ∈ B ∧ x ≠ y) t.1 b) := by
    intro y t hy ht
    have := Conn.insert (T := fun x => x ∈ B ∧ x ≠ y) ht h2 (fun x hx => by
      by_cases e : x = y
      · exact .inr e
      · exact .inl ⟨hx, e⟩)
    exact this.resolve_left (h3 y hy)
  refine ⟨(· ∈ B), hBA, h2, fun y hy hc => ?_, hsp⟩
  have hlt : y < ts.length := (hL y (h1 y hy)).2
  have ht : ts[y]? = some ts[y] := List.getElem?_eq_getElem hlt
  have up : ∀ {p q}, Conn ts (fun x => x ∈ B ∧ x ≠ y) p q → Conn ts (fun x => A x ∧ x ≠ y) p q := fun c => c.mono fun x hx => ⟨hBA x hx.1, hx.2⟩
  rcases hsp y _ hy ht with ⟨h4, h5⟩ | ⟨h4, h5⟩
  · exact hA y _ (hBA y hy) ht (((up h4).symm.trans hc).trans (up h5).symm)
  · exact hA y _ (hBA y hy) ht ((up h5).trans (hc.symm.trans (up h4)))

end Jp
end
section
namespace Jp

/-- the ties of the j-th forest -/
def Cls (own : List Int) (j : Int) (i : Nat) : Prop := own[i]? = some j

/-- all forests are such -/
def Fst (ts : List Tie) (own : List Int) : Prop := ∀ j : Int, 0 ≤ j → Acy ts (Cls own j)

/-- owners are -1 or below k -/
def Own (ts : List Tie) (k : Nat) (own : List Int) : Prop := own.length = ts.length ∧ ∀ (i : Nat) (j : Int), own[i]? = some j → -1 ≤ j ∧ j < k

/-- y is on the way of x's ends in the forest c -/
def OnWay (ts : List Tie) (own : List Int) (c : Int) (a b y : Nat) : Prop := Cls own c y ∧ ¬ Conn ts (fun z => Cls own c z ∧ z ≠ y) a b

/-- each forest joins the ends of each of R within R -/
def Closed (ts : List Tie) (k : Nat) (own : List Int) (R : Nat → Prop) : Prop :=
  ∀ x t, R x → ts[x]? = some t → ∀ c : Int, 0 ≤ c → c < k → Conn ts (fun z => Cls own c z ∧ R z) t.1 t.2

section
variable {ts : List Tie} {k : Nat} {own own' : List Int} {R : Nat → Prop}

theorem Closed.union {I : Type} {Rs : I → Nat → Prop} (h : ∀ i, Closed ts k own (Rs i)) : Closed ts k own (fun x => ∃ i, Rs i x) := by
  intro x t ⟨i, hx⟩ ht c h0 h1
  exact (h i x t hx ht c h0 h1).mono fun z hz => ⟨hz.1, i, hz.2⟩

theorem Closed.or {R R' : Nat → Prop} (h : Closed ts k own R) (h' : Closed ts k own R') : Closed ts k own (fun x => R x ∨ R' x) := by
  intro x t hx ht c h0 h1
  rcases hx with hx | hx
  · exact (h x t hx ht c h0 h1).mono fun z hz => ⟨hz.1, .inl hz.2⟩
  · exact (h' x t hx ht c h0 h1).mono fun z hz => ⟨hz.1, .inr hz.2⟩

theorem Closed.none : Closed ts k own (fun _ => False) := fun _ _ h => h.elim

/-- what is on the way of one of R is in R -/
theorem Closed.onWay (h : Closed ts k own R) {x y : Nat} {t : Tie} {c : Int} (hx : R x) (ht : ts[x]? = some t) (h0 : 0 ≤ c) (h1 : c < k) (hw : OnWay ts own c t.1 t.2 y) : R y := by
  apply Classical.byContradiction
  intro hy
  exact hw.2 ((h x t hx ht c h0 h1).mono fun z hz => ⟨hz.1, fun e => hy (e ▸ hz.2)⟩)

/-- the ways' ties join -/
theorem onWay_conn (hF : Fst ts own) {a b : Nat} {c : Int} (h0 : 0 ≤ c) (hc : Conn ts (Cls own c) a b) : Conn ts (fun z => Cls own c z ∧ OnWay ts own c a b z) a b := by
  obtain ⟨B, h1, h2, h3, _⟩ := (hF c h0).way hc
  exact h2.mono fun z hz => ⟨h1 z hz, h1 z hz, h3 z hz⟩

/-- what the search has found when it fails is closed -/
theorem closed_of_search (hF : Fst ts own) (hO : Own ts k own)
    (h : ∀ x t, R x → ts[x]? = some t → ∀ c : Int, 0 ≤ c → c < k → own[x]? ≠ some c → Conn ts (Cls own c) t.1 t.2 ∧ ∀ y, OnWay ts own c t.1 t.2 y → R y) : Closed ts k own R := by
  intro x t hx ht c h0 h1
  by_cases e : own[x]? = some c
  · exact .one ⟨e, hx⟩ ht (.inl ⟨rfl, rfl⟩)
  · obtain ⟨h2, h3⟩ := h x t hx ht c h0 h1 e
    exact (onWay_conn hF h0 h2).mono fun z hz => ⟨hz.1, h3 z hz.2⟩

/-- ONE STEP BACK: x gets the forest c, in which its ends are apart; then its ends' parent x' (on whose way in b it was) has its ends apart in b -/
theorem give (hF : Fst ts own) {x : Nat} {t : Tie} {c : Int} (hx : x < own.length) (ht : ts[x]? = some t) (h0 : 0 ≤ c) (hn : ¬ Conn ts (Cls own c) t.1 t.2) : Fst ts (own.set x c) := by
  intro j hj
  by_cases e : j = c
  · subst e
    refine (hF j hj).add ht hn fun z hz => ?_
    by_cases ez : z = x
    · exact .inr ez
    · refine .inl ?_
      unfold Cls at hz ⊢
      rwa [List.getElem?_set_ne (fun q => ez q.symm)] at hz
  · refine (hF j hj).mono fun z hz => ?_
    unfold Cls at hz ⊢
    by_cases ez : z = x
    · subst ez
      rw [List.getElem?_set_self hx] at hz
      exact absurd (Option.some.inj hz).symm e
    · rwa [List.getElem?_set_ne (fun q => ez q.symm)] at hz

/-- .. own: the owners at the search; own': those behind some steps back, x not yet among them -/
theorem give_next (hF : Fst ts own) (hF' : Fst ts own') {x : Nat} {t t' : Tie} {b c : Int} (hx : x < own'.length) (hb : own'[x]? = some b) (h0 : 0 ≤ b) (ht : ts[x]? = some t)
    (hc : Conn ts (Cls own b) t'.1 t'.2) (hw : OnWay ts own b t'.1 t'.2 x) (hbc : b ≠ c)
    (hsame : ∀ y, OnWay ts own b t'.1 t'.2 y → own'[y]? = some b) : ¬ Conn ts (Cls (own'.set x c) b) t'.1 t'.2 := by
  intro hcon
  have hcon' : Conn ts (fun z => Cls own' b z ∧ z ≠ x) t'.1 t'.2 := hcon.mono fun z hz => by
    unfold Cls at hz
    by_cases ez : z = x
    · subst ez
      rw [List.getElem?_set_self hx] at hz
      exact absurd (Option.some.inj hz).symm hbc
    · rw [List.getElem?_set_ne (fun q => ez q.symm)] at hz
      exact ⟨hz, ez⟩
  obtain ⟨B, h1, h2, h3, h4⟩ := (hF b h0).way hc
  have hxB : B x := by
    apply Classical.byContradiction
    intro hxB
    exact hw.2 (h2.mono fun z hz => ⟨h1 z hz, fun e => hxB (e ▸ hz)⟩)
  have hBS : ∀ z, B z → Cls own' b z := fun z hz => hsame z ⟨h1 z hz, h3 z hz⟩
  have up : ∀ {p q}, Conn ts (fun z => B z ∧ z ≠ x) p q → Conn ts (fun z => Cls own' b z ∧ z ≠ x) p q := fun c => c.mono fun z hz => ⟨hBS z hz.1, hz.2⟩
  rcases h4 x t hxB ht with ⟨h5, h6⟩ | ⟨h5, h6⟩
  · exact hF' b h0 x t hb ht (((up h5).symm.trans hcon').trans (up h6).symm)
  · exact hF' b h0 x t hb ht ((up h6).trans (hcon'.symm.trans (up h5)))
end

structure Srch (ts : List Tie) (k : Nat) (own : List Int) (f : Nat) (w : List Nat) (par : Nat → Option Nat) (done : Nat → Int → Prop) : Prop where
  nd : w.Nodup
  hd : w[0]? = some f
  lt : ∀ x ∈ w, x < ts.length
  par0 : par f = none
  /-- each but the first was found from one ahead of it, and from none further ahead -/
  up : ∀ (i y : Nat), 0 < i → w[i]? = some y → ∃ (p x : Nat) (t : Tie) (c : Int), p < i ∧ w[p]? = some x ∧ par y = some x ∧ ts[x]? = some t ∧ own[y]? = some c ∧ 0 ≤ c ∧ c < k ∧ own[x]? ≠ some c ∧
    Conn ts (Cls own c) t.1 t.2 ∧ OnWay ts own c t.1 t.2 y ∧ ∀ (q z : Nat) (u : Tie), q < p → w[q]? = some z → ts[z]? = some u → ¬ OnWay ts own c u.1 u.2 y
  /-- where the search is through -/
  dn : ∀ (q z : Nat) (u : Tie) (c : Int), w[q]? = some z → ts[z]? = some u → done q c → 0 ≤ c → c < k → own[z]? ≠ some c → Conn ts (Cls own c) u.1 u.2 ∧ ∀ y, OnWay ts own c u.1 u.2 y → y ∈ w

section
variable {ts : List Tie} {k : Nat} {own : List Int} {f : Nat} {w : List Nat} {par : Nat → Option Nat} {done : Nat → Int → Prop}

theorem Srch.start (hf : f < ts.length) : Srch ts k own f [f] (fun _ => none) (fun _ _ => False) where
  nd := by simp
  hd := rfl
  lt := fun x hx => by
    rw [List.mem_singleton] at hx
    omega
  par0 := rfl
  up := fun i y h0 h => by
    cases i with
    | zero => omega
    | succ i => simp at h
  dn := fun _ _ _ _ _ _ h => h.elim

/-- a tie on the way that is not yet found is put behind -/
theorem Srch.found (S : Srch ts k own f w par done) {p x y : Nat} {t : Tie} {c : Int} (hp : w[p]? = some x) (ht : ts[x]? = some t) (h0 : 0 ≤ c) (h1 : c < k) (hne : own[x]? ≠ some c)
    (hc : Conn ts (Cls own c) t.1 t.2) (hw : OnWay ts own c t.1 t.2 y) (hy : y ∉ w) (hbefore : ∀ q, q < p → ∀ c, done q c) (hdone : ∀ q c, done q c → q ≤ p) (hlen : own.length = ts.length) (par' : Nat → Option Nat)
    (hpar : ∀ z, z ≠ y → par' z = par z) (hpy : par' y = some x) : Srch ts k own f (w ++ [y]) par' done where
  nd := by
    rw [List.nodup_append]
    refine ⟨S.nd, by simp, fun a ha b hb => ?_⟩
    rw [List.mem_singleton] at hb
    subst hb
    exact fun e => hy (e ▸ ha)
  hd := by
    have : 0 < w.length := by
      have := (List.getElem?_eq_some_iff.mp S.hd).1
      exact this
    rw [List.getElem?_append_left this]
    exact S.hd
  lt := fun z hz => by
    rcases List.mem_append.mp hz with hz | hz
    · exact S.lt z hz
    · rw [List.mem_singleton] at hz
      subst hz
      have := (List.getElem?_eq_some_iff.mp (show own[z]? = some c from hw.1)).1
      omega
  par0 := by
    have : f ≠ y := fun e => hy (e ▸ List.mem_of_getElem? S.hd)
    rw [hpar f this]
    exact S.par0
  up := fun i z hi hz => by
    by_cases hil : i < w.length
    · rw [List.getElem?_append_left hil] at hz
      obtain ⟨p', x', t', c', a1, a2, a3, a4, a5, a6, a7, a8, a9, a10, a11⟩ := S.up i z hi hz
      have hzy : z ≠ y := fun e => hy (e ▸ List.mem_of_getElem? hz)
      refine ⟨p', x', t', c', a1, ?_, by rw [hpar z hzy]; exact a3, a4, a5, a6, a7, a8, a9, a10, fun q v u hq hv hu => ?_⟩
      · rw [List.getElem?_append_left (by omega)]
        exact a2
      · rw [List.getElem?_append_left (by omega)] at hv
        exact a11 q v u hq hv hu
    · have hiw : i = w.length := by
        have := (List.getElem?_eq_some_iff.mp hz).1
        rw [List.length_append, List.length_singleton] at this
        omega
      subst hiw
      rw [List.getElem?_concat_length] at hz
      cases hz
      have hpl : p < w.length := (List.getElem?_eq_some_iff.mp hp).1
      refine ⟨p, x, t, c, hpl, ?_, hpy, ht, hw.1, h0, h1, hne, hc, hw, fun q v u hq hv hu ho => ?_⟩
      · rw [List.getElem?_append_left hpl]
        exact hp
      · rw [List.getElem?_append_left (by omega)] at hv
        by_cases e : own[v]? = some c
        · refine ho.2 (.one ⟨e, fun e' => ?_⟩ hu (.inl ⟨rfl, rfl⟩))
          exact hy (e' ▸ List.mem_of_getElem? hv)
        · exact hy ((S.dn q v u c hv hu (hbefore q hq c) h0 h1 e).2 y ho)
  dn := fun q z u c' hz hu hd h0' h1' hne' => by
    have hpl : p < w.length := (List.getElem?_eq_some_iff.mp hp).1
    have := hdone q c' hd
    rw [List.getElem?_append_left (by omega)] at hz
    obtain ⟨b1, b2⟩ := S.dn q z u c' hz hu hd h0' h1' hne'
    exact ⟨b1, fun v hv => List.mem_append_left _ (b2 v hv)⟩

/-- the search has looked through one more forest -/
theorem Srch.look (S : Srch ts k own f w par done) {done' : Nat → Int → Prop}
    (h : ∀ (q z : Nat) (u : Tie) (c : Int), w[q]? = some z → ts[z]? = some u → done' q c → ¬ done q c → 0 ≤ c → c < k → own[z]? ≠ some c → Conn ts (Cls own c) u.1 u.2 ∧ ∀ y, OnWay ts own c u.1 u.2 y → y ∈ w) : Srch ts k own f w par done' where
  nd := S.nd
  hd := S.hd
  lt := S.lt
  par0 := S.par0
  up := S.up
  dn := fun q z u c hz hu hd h0 h1 hne => by
    by_cases e : done q c
    · exact S.dn q z u c hz hu e h0 h1 hne
    · exact h q z u c hz hu hd e h0 h1 hne

/-- it is through: what was found is closed -/
theorem Srch.closed (S : Srch ts k own f w par done) (hF : Fst ts own) (hO : Own ts k own) (h : ∀ q, q < w.length → ∀ c, done q c) : Closed ts k own (· ∈ w) := by
  refine closed_of_search hF hO fun x t hx ht c h0 h1 hne => ?_
  obtain ⟨q, hq, e⟩ := List.getElem_of_mem hx
  exact S.dn q x t c (by rw [List.getElem?_eq_getElem hq, e]) ht (h q hq c) h0 h1 hne
end

structure Back (ts : List Tie) (k : Nat) (own : List Int) (w : List Nat) (own' : List Int) (p x : Nat) (c : Int) : Prop where
  at_ : w[p]? = some x
  fs : Fst ts own'
  ow : Own ts k own'
  c0 : 0 ≤ c
  c1 : c < k
  ne : own[x]? ≠ some c
  apart : ∀ t, ts[x]? = some t → ¬ Conn ts (Cls own' c) t.1 t.2
  keep : ∀ q z, q ≤ p → w[q]? = some z → own'[z]? = own[z]?
  turned : ∀ y : Nat, own'[y]? ≠ own[y]? → ∀ (q z : Nat) (u : Tie) (b : Int), own[y]? = some b → q < p → w[q]? = some z → ts[z]? = some u → ¬ OnWay ts own b u.1 u.2 y
  out : ∀ R, Closed ts k own R → ¬ R x ∧ ∀ y : Nat, R y → own'[y]? = own[y]?
  own_ : ∀ y : Nat, own'[y]? = some (-1) → own[y]? = some (-1)
  un : ∀ y : Nat, own[y]? = some (-1) → own'[y]? = some (-1)

section
variable {ts : List Tie} {k : Nat} {own : List Int} {f : Nat} {w : List Nat} {par : Nat → Option Nat} {done : Nat → Int → Prop} {own' : List Int} {p x : Nat} {c : Int}

/-- found: the ends of x are apart in c -/
theorem Back.start (hF : Fst ts own) (hO : Own ts k own) (S : Srch ts k own f w par done) (hp : w[p]? = some x) (h0 : 0 ≤ c) (h1 : c < k) (hne : own[x]? ≠ some c) (hn : ∀ t, ts[x]? = some t → ¬ Conn ts (Cls own c) t.1 t.2) : Back ts k own w own p x c where
  at_ := hp
  fs := hF
  ow := hO
  c0 := h0
  c1 := h1
  ne := hne
  apart := hn
  keep := fun _ _ _ _ => rfl
  turned := fun _ h => absurd rfl h
  out := fun R hR => ⟨fun hx => by
    have hlt := S.lt x (List.mem_of_getElem? hp)
    have ht : ts[x]? = some ts[x] := List.getElem?_eq_getElem hlt
    exact hn _ ht ((hR x _ hx ht c h0 h1).mono fun z hz => hz.1), fun _ _ => rfl⟩
  own_ := fun _ h => h
  un := fun _ h => h

theorem own_set (hO : Own ts k own') (h0 : -1 ≤ c) (h1 : c < k) : Own ts k (own'.set x c) := by
  refine ⟨by rw [List.length_set]; exact hO.1, fun i j h => ?_⟩
  by_cases e : i = x
  · subst e
    have hl : i < own'.length := by
      have := (List.getElem?_eq_some_iff.mp h).1
      rwa [List.length_set] at this
    rw [List.getElem?_set_self hl] at h
    have := Option.some.inj h
    omega
  · rw [List.getElem?_set_ne (fun q => e q.symm)] at h
    exact hO.2 i j h

/-- a step back -/
theorem Back.step (hF : Fst ts own) (S : Srch ts k own f w par done) (B : Back ts k own w own' p x c) :
    (p = 0 ∧ x = f ∧ par x = none) ∨ ∃ (q z : Nat) (b : Int), q < p ∧ par x = some z ∧ own'[x]? = some b ∧ Back ts k own w (own'.set x c) q z b := by
  by_cases hp0 : p = 0
  · left
    subst hp0
    have e : x = f := Option.some.inj (B.at_.symm.trans S.hd)
    subst e
    exact ⟨rfl, rfl, S.par0⟩
  · right
    obtain ⟨q, z, u, b, a1, a2, a3, a4, a5, a6, a7, a8, a9, a10, a11⟩ := S.up p x (by omega) B.at_
    have hk : own'[x]? = some b := by
      rw [B.keep p x (Nat.le_refl _) B.at_]
      exact a5
    have hxl : x < own'.length := (List.getElem?_eq_some_iff.mp hk).1
    have hlt := S.lt x (List.mem_of_getElem? B.at_)
    have ht : ts[x]? = some ts[x] := List.getElem?_eq_getElem hlt
    have hbc : b ≠ c := fun e => B.ne (by rw [← e]; exact a5)
    refine ⟨q, z, b, a1, a3, hk, ?_⟩
    exact {
      at_ := a2
      fs := give B.fs hxl ht B.c0 (B.apart _ ht)
      ow := own_set B.ow (by have := B.c0; omega) B.c1
      c0 := a6
      c1 := a7
      ne := a8
      apart := fun t h => by
        rw [a4] at h
        cases h
        refine give_next hF B.fs hxl hk a6 ht a9 a10 hbc fun y hy => ?_
        apply Classical.byContradiction
        intro hne
        have hoy : own[y]? = some b := hy.1
        exact B.turned y (by rw [hoy]; exact hne) q z u b hoy a1 a2 a4 hy
      keep := fun r v hr hv => by
        have hvx : v ≠ x := fun e => by
          subst e
          have h1 := (List.getElem?_eq_some_iff.mp hv)
          have h2 := (List.getElem?_eq_some_iff.mp B.at_)
          have : r = p := (List.getElem_inj S.nd).mp (h1.2.trans h2.2.symm)
          omega
        rw [List.getElem?_set_ne (fun e => hvx e.symm)]
        exact B.keep r v (by omega) hv
      turned := fun y hy r v u' b' hb' hr hv hu' => by
        by_cases e : y = x
        · subst e
          rw [a5] at hb'
          cases hb'
          exact a11 r v u' hr hv hu'
        · rw [List.getElem?_set_ne (fun q => e q.symm)] at hy
          exact B.turned y hy r v u' b' hb' (by omega) hv hu'
      out := fun R hR => by
        obtain ⟨o1, o2⟩ := B.out R hR
        refine ⟨fun hz => o1 (hR.onWay hz a4 a6 a7 a10), fun y hy => ?_⟩
        have e : y ≠ x := fun e => o1 (e ▸ hy)
        rw [List.getElem?_set_ne (fun q => e q.symm)]
        exact o2 y hy
      own_ := fun y hy => by
        by_cases e : y = x
        · subst e
          rw [List.getElem?_set_self hxl] at hy
          have := Option.some.inj hy
          have := B.c0
          omega
        · rw [List.getElem?_set_ne (fun q => e q.symm)] at hy
          exact B.own_ y hy
      un := fun y hy => by
        have e : y ≠ x := fun e => by
          subst e
          rw [a5] at hy
          have := Option.some.inj hy
          omega
        rw [List.getElem?_set_ne (fun q => e q.symm)]
        exact B.un y hy }

/-- what stands when the first is given its forest -/
structure Put (ts : List Tie) (k : Nat) (own : List Int) (f : Nat) (own' : List Int) : Prop where
  fs : Fst ts own'
  ow : Own ts k own'
  in_ : own'[f]? ≠ some (-1)
  out : ∀ R, Closed ts k own R → ¬ R f ∧ Closed ts k own' R
  own_ : ∀ y : Nat, own'[y]? = some (-1) → own[y]? = some (-1)
  un : ∀ y : Nat, y ≠ f → own[y]? = some (-1) → own'[y]? = some (-1)

theorem Back.last (hF : Fst ts own) (S : Srch ts k own f w par done) (B : Back ts k own w own' p x c) (hx : x = f) : Put ts k own f (own'.set x c) := by
  subst hx
  have hlt := S.lt x (List.mem_of_getElem? B.at_)
  have ht : ts[x]? = some ts[x] := List.getElem?_eq_getElem hlt
  have hxl : x < own'.length := by
    rw [B.ow.1]
    exact hlt
  refine ⟨give B.fs hxl ht B.c0 (B.apart _ ht), own_set B.ow (by have := B.c0; omega) B.c1, ?_, fun R hR => ?_, fun y hy => ?_, fun y hyf hy => ?_⟩
  · rw [List.getElem?_set_self hxl]
    intro h
    have := Option.some.inj h
    have := B.c0
    omega
  · obtain ⟨o1, o2⟩ := B.out R hR
    refine ⟨o1, fun y t hy hty d d0 d1 => (hR y t hy hty d d0 d1).mono fun z hz => ⟨?_, hz.2⟩⟩
    have e : z ≠ x := fun e => o1 (e ▸ hz.2)
    unfold Cls
    rw [List.getElem?_set_ne (fun q => e q.symm), o2 z hz.2]
    exact hz.1
  · by_cases e : y = x
    · subst e
      rw [List.getElem?_set_self hxl] at hy
      have := Option.some.inj hy
      have := B.c0
      omega
    · rw [List.getElem?_set_ne (fun q => e q.symm)] at hy
      exact B.own_ y hy
  · rw [List.getElem?_set_ne (fun q => hyf q.symm)]
    exact B.un y hy
end
end Jp
end
section
set_option linter.unusedVariables false
namespace Jp

/-- the web is one of n people -/
def Web (n : Nat) (ts : List Tie) : Prop := ∀ t ∈ ts, t.1 < t.2 ∧ t.2 < n

theorem Web.at {n : Nat} {ts : List Tie} (h : Web n ts) {i : Nat} {t : Tie} (ht : ts[i]? = some t) : t.1 < n ∧ t.2 < n ∧ t.1 < t.2 := by
  have := h t (List.mem_of_getElem? ht)
  omega

def mergeM (mk : List Nat) (t : Tie) : List Nat :=
  mk.map fun m => if m = max (mk.getD t.1 0) (mk.getD t.2 0) then min (mk.getD t.1 0) (mk.getD t.2 0) else m

def stepM (ts : List Tie) (mk : List Nat) (i : Nat) : List Nat := mergeM mk (ts.getD i (0, 0))

def marksBy (n : Nat) (ts : List Tie) (L : List Nat) : List Nat := L.foldl (stepM ts) (List.range n)

theorem marksBy_snoc (n : Nat) (ts : List Tie) (L : List Nat) (i : Nat) : marksBy n ts (L ++ [i]) = stepM ts (marksBy n ts L) i := by
  unfold marksBy
  rw [List.foldl_append]
  rfl

/-- marks are right for S -/
structure MarksOk (n : Nat) (ts : List Tie) (S : Nat → Prop) (mk : List Nat) : Prop where
  len : mk.length = n
  le : ∀ u m, mk[u]? = some m → m ≤ u ∧ Conn ts S u m
  eq : ∀ u v, u < n → v < n → Conn ts S u v → mk[u]? = mk[v]?

section
variable {n : Nat} {ts : List Tie} {S S' : Nat → Prop} {mk mk' : List Nat}

theorem conn_lt (hW : Web n ts) {a b : Nat} (h : Conn ts S a b) (ha : a < n) : b < n := by
  cases h with
  | refl => exact ha
  | step i _ hs ht he =>
    have := hW.at ht
    rcases he with ⟨_, e⟩ | ⟨e, _⟩ <;> omega

theorem MarksOk.get (h : MarksOk n ts S mk) {u : Nat} (hu : u < n) : ∃ m, mk[u]? = some m ∧ m ≤ u ∧ Conn ts S u m := by
  have hl : u < mk.length := by rw [h.len]; exact hu
  obtain ⟨a, b⟩ := h.le u mk[u] (List.getElem?_eq_getElem hl)
  exact ⟨mk[u], List.getElem?_eq_getElem hl, a, b⟩

theorem MarksOk.conn (h : MarksOk n ts S mk) {u v : Nat} (hu : u < n) (hv : v < n) : mk[u]? = mk[v]? ↔ Conn ts S u v := by
  refine ⟨fun e => ?_, h.eq u v hu hv⟩
  obtain ⟨m, h1, _, h2⟩ := h.get hu
  obtain ⟨m', h3, _, h4⟩ := h.get hv
  rw [h1, h3] at e
  cases e
  exact h2.trans h4.symm

theorem MarksOk.root (h : MarksOk n ts S mk) {u m : Nat} (hm : mk[u]? = some m) : mk[m]? = some m := by
  have hu : u < n := by
    have := (List.getElem?_eq_some_iff.mp hm).1
    rwa [h.len] at this
  obtain ⟨a, b⟩ := h.le u m hm
  rw [← h.eq u m hu (by omega) b, hm]

theorem MarksOk.start (n : Nat) (ts : List Tie) : MarksOk n ts (fun _ => False) (List.range n) where
  len := List.length_range
  le := fun u m h => by
    have hu := (List.getElem?_eq_some_iff.mp h)
    obtain ⟨h1, h2⟩ := hu
    rw [List.getElem_range] at h2
    subst h2
    exact ⟨Nat.le_refl _, .refl _⟩
  eq := fun u v _ _ h => by
    cases h with
    | refl => rfl
    | step i _ hs _ _ => exact hs.elim

theorem getD_of {l : List Nat} {i m : Nat} (h : l[i]? = some m) : l.getD i 0 = m := by
  rw [List.getD_eq_getElem?_getD, h]
  rfl

theorem merge_get {t : Tie} (u : Nat) : (mergeM mk t)[u]? = (mk[u]?).map fun m => if m = max (mk.getD t.1 0) (mk.getD t.2 0) then min (mk.getD t.1 0) (mk.getD t.2 0) else m := by
  unfold mergeM
  rw [List.getElem?_map]

theorem MarksOk.merge (hW : Web n ts) (h : MarksOk n ts S mk) {i : Nat} {t : Tie} (ht : ts[i]? = some t) (hS : ∀ x, S' x ↔ S x ∨ x = i) : MarksOk n ts S' (mergeM mk t) := by
  have hw := hW.at ht
  obtain ⟨la, ha, hla, hca⟩ := h.get (u := t.1) (by omega)
  obtain ⟨lb, hb, hlb, hcb⟩ := h.get (u := t.2) (by omega)
  have up : ∀ {p q}, Conn ts S p q → Conn ts S' p q := fun c => c.mono fun x hx => (hS x).mpr (.inl hx)
  have hab : Conn ts S' t.1 t.2 := .one ((hS i).mpr (.inr rfl)) ht (.inl ⟨rfl, rfl⟩)
  have hll : Conn ts S' la lb := ((up hca).symm.trans hab).trans (up hcb)
  refine ⟨by unfold mergeM; rw [List.length_map]; exact h.len, fun u m hm => ?_, fun u v hu hv hc => ?_⟩
  · rw [merge_get, getD_of ha, getD_of hb] at hm
    cases e : mk[u]? with
    | none => rw [e] at hm; cases hm
    | some m0 =>
      rw [e] at hm
      have hm : (if m0 = max la lb then min la lb else m0) = m := Option.some.inj hm
      obtain ⟨g1, g2⟩ := h.le u m0 e
      by_cases em : m0 = max la lb
      · rw [if_pos em] at hm
        refine ⟨by omega, (up g2).trans ?_⟩
        rcases Nat.le_total la lb with hle | hle
        · have e1 : m0 = lb := by omega
          have e2 : m = la := by omega
          rw [e1, e2]
          exact hll.symm
        · have e1 : m0 = la := by omega
          have e2 : m = lb := by omega
          rw [e1, e2]
          exact hll
      · rw [if_neg em] at hm
        subst hm
        exact ⟨g1, up g2⟩
  · rw [merge_get, merge_get, getD_of ha, getD_of hb]
    have low : ∀ x, x = la ∨ x = lb → (if x = max la lb then min la lb else x) = min la lb := by
      intro x hx
      split
      · rfl
      · omega
    rcases hc.insert (T := S) ht (fun x hx => (hS x).mp hx) with h1 | ⟨h1, h2⟩ | ⟨h1, h2⟩
    · rw [h.eq u v hu hv h1]
    · rw [h.eq u t.1 hu (by omega) h1, ← h.eq t.2 v (by omega) hv h2, ha, hb]
      simp only [Option.map_some]
      rw [low la (.inl rfl), low lb (.inr rfl)]
    · rw [h.eq u t.2 hu (by omega) h1, ← h.eq t.1 v (by omega) hv h2, ha, hb]
      simp only [Option.map_some]
      rw [low la (.inl rfl), low lb (.inr rfl)]

theorem MarksOk.congr (h : MarksOk n ts S mk) (hS : ∀ x, S' x ↔ S x) : MarksOk n ts S' mk where
  len := h.len
  le := fun u m e => ⟨(h.le u m e).1, (h.le u m e).2.mono fun x hx => (hS x).mpr hx⟩
  eq := fun u v hu hv c => h.eq u v hu hv (c.mono fun x hx => (hS x).mp hx)

theorem getD_tie {i : Nat} (h : i < ts.length) : ts[i]? = some (ts.getD i (0, 0)) := by
  rw [List.getD_eq_getElem?_getD, List.getElem?_eq_getElem h]
  rfl

theorem marksBy_ok (hW : Web n ts) : ∀ L : List Nat, (∀ i ∈ L, i < ts.length) → MarksOk n ts (· ∈ L) (marksBy n ts L) := by
  have key : ∀ (L M : List Nat) (mk : List Nat), (∀ i ∈ L, i < ts.length) → MarksOk n ts (· ∈ M) mk → MarksOk n ts (· ∈ M ++ L) (L.foldl (stepM ts) mk) := by
    intro L
    induction L with
    | nil =>
      intro M mk _ h
      rw [List.append_nil]
      exact h
    | cons i L ih =>
      intro M mk hL h
      have h1 := h.merge (S' := (· ∈ M ++ [i])) hW (getD_tie (hL i List.mem_cons_self)) (fun x => by rw [List.mem_append, List.mem_singleton])
      have h2 := ih (M ++ [i]) _ (fun j hj => hL j (List.mem_cons_of_mem _ hj)) h1
      rw [List.append_assoc, List.singleton_append] at h2
      exact h2
  intro L hL
  have := key L [] (List.range n) hL ((MarksOk.start n ts).congr fun x => by simp)
  rwa [List.nil_append] at this

theorem marks_unique (hW : Web n ts) (h : MarksOk n ts S mk) (h' : MarksOk n ts S' mk') (hc : ∀ u v, u < n → (Conn ts S u v ↔ Conn ts S' u v)) : mk = mk' := by
  apply List.ext_getElem?
  intro u
  by_cases hu : u < n
  · obtain ⟨m, h1, h2, h3⟩ := h.get hu
    obtain ⟨m', h4, h5, h6⟩ := h'.get hu
    have c1 : Conn ts S u m' := (hc u m' hu).mpr h6
    have c2 : Conn ts S' u m := (hc u m hu).mp h3
    have e1 : mk[m']? = some m := by rw [← h.eq u m' hu (by omega) c1, h1]
    have e2 : mk'[m]? = some m' := by rw [← h'.eq u m hu (by omega) c2, h4]
    have l1 := (h.le _ _ e1).1
    have l2 := (h'.le _ _ e2).1
    have : m = m' := by omega
    rw [h1, h4, this]
  · rw [List.getElem?_eq_none_iff.mpr (by rw [h.len]; omega), List.getElem?_eq_none_iff.mpr (by rw [h'.len]; omega)]

def roots (n : Nat) (mk : List Nat) : List Nat := (List.range n).filter fun v => mk[v]? == some v

theorem mem_roots {v : Nat} : v ∈ roots n mk ↔ v < n ∧ mk[v]? = some v := by
  unfold roots
  rw [List.mem_filter, List.mem_range, beq_iff_eq]

theorem roots_nodup : (roots n mk).Nodup := List.nodup_range.filter _

theorem MarksOk.mem_roots (h : MarksOk n ts S mk) {m : Nat} : m ∈ roots n mk ↔ m ∈ mk := by
  rw [Jp.mem_roots]
  refine ⟨fun ⟨_, e⟩ => List.mem_of_getElem? e, fun hm => ?_⟩
  obtain ⟨u, hu⟩ := List.getElem?_of_mem hm
  have := h.root hu
  refine ⟨?_, this⟩
  have := (List.getElem?_eq_some_iff.mp this).1
  rwa [h.len] at this

theorem len_le_of_sub {α : Type} [DecidableEq α] : ∀ {xs ys : List α}, xs.Nodup → (∀ x ∈ xs, x ∈ ys) → xs.length ≤ ys.length := by
  intro xs
  induction xs with
  | nil => intro ys _ _; exact Nat.zero_le _
  | cons x xs ih =>
    intro ys hn hs
    rw [List.nodup_cons] at hn
    have hx : x ∈ ys := hs x List.mem_cons_self
    have := ih (ys := ys.erase x) hn.2 (fun z hz => by
      have hzx : z ≠ x := fun e => hn.1 (e ▸ hz)
      exact (List.mem_erase_of_ne hzx).mpr (hs z (List.mem_cons_of_mem _ hz)))
    rw [List.length_erase_of_mem hx] at this
    have : 0 < ys.length := List.length_pos_of_mem hx
    rw [List.length_cons]
    omega

theorem len_eq_of_iff {α : Type} [DecidableEq α] {xs ys : List α} (hx : xs.Nodup) (hy : ys.Nodup) (h : ∀ z, z ∈ xs ↔ z ∈ ys) : xs.length = ys.length :=
  Nat.le_antisymm (len_le_of_sub hx fun z hz => (h z).mp hz) (len_le_of_sub hy fun z hz => (h z).mpr hz)

/-- merging what is apart: one group fewer -/
theorem MarksOk.merge_roots (hW : Web n ts) (h : MarksOk n ts S mk) {i : Nat} {t : Tie} (ht : ts[i]? = some t) (hn : ¬ Conn ts S t.1 t.2) : (roots n (mergeM mk t)).length + 1 = (roots n mk).length := by
  have hw := hW.at ht
  obtain ⟨la, ha, hla, hca⟩ := h.get (u := t.1) (by omega)
  obtain ⟨lb, hb, hlb, hcb⟩ := h.get (u := t.2) (by omega)
  have hne : la ≠ lb := by
    intro e
    exact hn ((h.conn (by omega) (by omega)).mp (by rw [ha, hb, e]))
  have hmax : mk[max la lb]? = some (max la lb) := by
    rcases Nat.le_total la lb with q | q
    · rw [Nat.max_eq_right q]; exact h.root hb
    · rw [Nat.max_eq_left q]; exact h.root ha
  have e : ∀ v, v ∈ roots n (mergeM mk t) ↔ v ∈ (roots n mk).erase (max la lb) := by
    intro v
    rw [(roots_nodup).mem_erase_iff, Jp.mem_roots, Jp.mem_roots, merge_get, getD_of ha, getD_of hb]
    cases ev : mk[v]? with
    | none => simp
    | some m =>
      simp only [Option.map_some, Option.some.injEq]
      have := (h.le v m ev).1
      constructor
      · rintro ⟨h1, h2⟩
        split at h2
        · omega
        · exact ⟨by omega, h1, h2⟩
      · rintro ⟨h1, h2, h3⟩
        refine ⟨h2, ?_⟩
        rw [if_neg (by omega)]
        exact h3
  have h1 := len_eq_of_iff roots_nodup (roots_nodup.erase (max la lb)) e
  have h2 : max la lb ∈ roots n mk := Jp.mem_roots.mpr ⟨by omega, hmax⟩
  rw [List.length_erase_of_mem h2] at h1
  have := List.length_pos_of_mem h2
  omega

def comps (n : Nat) (ts : List Tie) (L : List Nat) : Nat := (roots n (marksBy n ts L)).length

theorem comps_congr (hW : Web n ts) {L L' : List Nat} (hL : ∀ i ∈ L, i < ts.length) (hL' : ∀ i ∈ L', i < ts.length) (hc : ∀ u v, u < n → (Conn ts (· ∈ L) u v ↔ Conn ts (· ∈ L') u v)) : comps n ts L = comps n ts L' := by
  unfold comps
  rw [marks_unique hW (marksBy_ok hW L hL) (marksBy_ok hW L' hL') hc]

theorem comps_nil : comps n ts [] = n := by
  unfold comps roots
  have : (List.range n).filter (fun v => (marksBy n ts [])[v]? == some v) = List.range n := by
    rw [List.filter_eq_self]
    intro v hv
    have hv := List.mem_range.mp hv
    show ((List.range n)[v]? == some v) = true
    rw [List.getElem?_range hv]
    exact beq_self_eq_true _
  rw [this, List.length_range]

theorem comps_swap (hW : Web n ts) {L : List Nat} {i : Nat} (hL : ∀ j ∈ L, j < ts.length) (hi : i < ts.length) : comps n ts (i :: L) = comps n ts (L ++ [i]) := by
  refine comps_congr hW (fun j hj => ?_) (fun j hj => ?_) fun u v _ => ?_
  · rcases List.mem_cons.mp hj with rfl | hj
    · exact hi
    · exact hL j hj
  · rcases List.mem_append.mp hj with hj | hj
    · exact hL j hj
    · rw [List.mem_singleton] at hj; omega
  · constructor <;> intro c <;> refine c.mono fun x hx => ?_
    · rcases List.mem_cons.mp hx with rfl | hx
      · exact List.mem_append_right _ List.mem_cons_self
      · exact List.mem_append_left _ hx
    · rcases List.mem_append.mp hx with hx | hx
      · exact List.mem_cons_of_mem _ hx
      · rw [List.mem_singleton] at hx
        subst hx
        exact List.mem_cons_self

theorem comps_cons (hW : Web n ts) {L : List Nat} {i : Nat} {t : Tie} (hL : ∀ j ∈ L, j < ts.length) (ht : ts[i]? = some t) (hn : ¬ Conn ts (· ∈ L) t.1 t.2) : comps n ts (i :: L) + 1 = comps n ts L := by
  have hi := (List.getElem?_eq_some_iff.mp ht).1
  rw [comps_swap hW hL hi]
  unfold comps
  rw [marksBy_snoc]
  have := (marksBy_ok hW L hL).merge_roots hW ht hn
  unfold stepM
  rw [List.getD_eq_getElem?_getD, ht]
  exact this

theorem comps_same (hW : Web n ts) {L : List Nat} {i : Nat} {t : Tie} (hL : ∀ j ∈ L, j < ts.length) (ht : ts[i]? = some t) (hn : Conn ts (· ∈ L) t.1 t.2) : comps n ts (i :: L) = comps n ts L := by
  have hi := (List.getElem?_eq_some_iff.mp ht).1
  refine comps_congr hW (fun j hj => ?_) hL fun u v _ => ⟨fun c => c.via fun x u hx hu => ?_, fun c => c.mono fun x hx => List.mem_cons_of_mem _ hx⟩
  · rcases List.mem_cons.mp hj with rfl | hj
    · exact hi
    · exact hL j hj
  · rcases List.mem_cons.mp hx with rfl | hx
    · rw [ht] at hu
      cases hu
      exact hn
    · exact .one hx hu (.inl ⟨rfl, rfl⟩)

theorem comps_acy (hW : Web n ts) : ∀ {L : List Nat}, (∀ j ∈ L, j < ts.length) → L.Nodup → Acy ts (· ∈ L) → comps n ts L + L.length = n := by
  intro L
  induction L with
  | nil => intro _ _ _; rw [comps_nil]; rfl
  | cons i L ih =>
    intro hL hn hA
    rw [List.nodup_cons] at hn
    have hi : i < ts.length := hL i List.mem_cons_self
    have ht : ts[i]? = some ts[i] := List.getElem?_eq_getElem hi
    have hL' : ∀ j ∈ L, j < ts.length := fun j hj => hL j (List.mem_cons_of_mem _ hj)
    have h1 := ih hL' hn.2 (hA.mono fun x hx => List.mem_cons_of_mem _ hx)
    have h2 := comps_cons hW hL' ht fun c => hA i _ List.mem_cons_self ht (c.mono fun x hx => ⟨List.mem_cons_of_mem _ hx, fun e => hn.1 (e ▸ hx)⟩)
    rw [List.length_cons]
    omega

theorem comps_more (hW : Web n ts) {L : List Nat} (hL : ∀ j ∈ L, j < ts.length) : ∀ {M : List Nat}, (∀ j ∈ M, j < ts.length) → comps n ts L ≤ comps n ts (M ++ L) + M.length := by
  intro M
  induction M with
  | nil => intro _; exact Nat.le_refl _
  | cons i M ih =>
    intro hM
    have hM' : ∀ j ∈ M, j < ts.length := fun j hj => hM j (List.mem_cons_of_mem _ hj)
    have hML : ∀ j ∈ M ++ L, j < ts.length := fun j hj => (List.mem_append.mp hj).elim (hM' j) (hL j)
    have hi : i < ts.length := hM i List.mem_cons_self
    have ht : ts[i]? = some ts[i] := List.getElem?_eq_getElem hi
    have h1 := ih hM'
    rw [List.cons_append, List.length_cons]
    by_cases c : Conn ts (· ∈ M ++ L) ts[i].1 ts[i].2
    · rw [comps_same hW hML ht c]
      omega
    · have := comps_cons hW hML ht c
      omega

theorem comps_pos (hW : Web n ts) (hn : 0 < n) {L : List Nat} (hL : ∀ j ∈ L, j < ts.length) : 0 < comps n ts L := by
  obtain ⟨m, h1, h2, _⟩ := (marksBy_ok hW L hL).get hn
  have : m = 0 := by omega
  subst this
  exact List.length_pos_of_mem (mem_roots.mpr ⟨hn, h1⟩)

/-- one group: all marks are 0 -/
theorem marks_zero (hW : Web n ts) (hn : 0 < n) {L : List Nat} (hL : ∀ j ∈ L, j < ts.length) (h : comps n ts L = 1) : marksBy n ts L = List.replicate n 0 := by
  have ok := marksBy_ok hW L hL
  have h0 : 0 ∈ roots n (marksBy n ts L) := by
    obtain ⟨m, h1, h2, _⟩ := ok.get hn
    have : m = 0 := by omega
    subst this
    exact mem_roots.mpr ⟨hn, h1⟩
  obtain ⟨r, hr⟩ : ∃ r, roots n (marksBy n ts L) = [r] := by
    unfold comps at h
    match e : roots n (marksBy n ts L), h with
    | [r], _ => exact ⟨r, rfl⟩
  rw [hr, List.mem_singleton] at h0
  apply List.ext_getElem?
  intro u
  by_cases hu : u < n
  · obtain ⟨m, h1, h2, _⟩ := ok.get hu
    have hm : m ∈ roots n (marksBy n ts L) := ok.mem_roots.mpr (List.mem_of_getElem? h1)
    rw [hr, List.mem_singleton] at hm
    rw [h1, List.getElem?_replicate, if_pos hu, hm, ← h0]
  · rw [List.getElem?_eq_none_iff.mpr (by rw [ok.len]; omega), List.getElem?_replicate, if_neg hu]

theorem comps_zero (hn : 0 < n) {L : List Nat} (h : marksBy n ts L = List.replicate n 0) : comps n ts L = 1 := by
  unfold comps
  have : roots n (marksBy n ts L) = [0] := by
    rw [h]
    unfold roots
    have e : ∀ v, v ∈ List.range n → ((List.replicate n 0)[v]? == some v) = (v == 0) := by
      intro v hv
      rw [List.getElem?_replicate, if_pos (List.mem_range.mp hv)]
      cases v <;> rfl
    rw [List.filter_congr e]
    obtain ⟨m, rfl⟩ : ∃ m, n = m + 1 := ⟨n - 1, by omega⟩
    rw [List.range_succ_eq_map, List.filter_cons, if_pos (beq_self_eq_true 0), List.filter_map]
    have : (List.range m).filter ((fun v => v == 0) ∘ Nat.succ) = [] := by
      rw [List.filter_eq_nil_iff]
      intro a _
      simp
    rw [this]
    rfl
  rw [this]
  rfl
end
end Jp
end
section
set_option linter.unusedVariables false
namespace Jp

structure Came (ts : List Tie) (own : List Int) (c : Int) (u : Nat) (n : Nat) (cm : List (Nat × List Nat)) : Prop where
  nd : (cm.map (·.1)).Nodup
  st : u ∈ cm.map (·.1)
  lt : ∀ x ∈ cm.map (·.1), x < n
  ent : ∀ x P, (x, P) ∈ cm → (∀ y ∈ P, Cls own c y) ∧ Conn ts (· ∈ P) u x ∧ (∀ y ∈ P, ¬ Conn ts (fun z => Cls own c z ∧ z ≠ y) u x) ∧ ∀ y ∈ P, ∀ t, ts[y]? = some t → t.1 ∈ cm.map (·.1) ∧ t.2 ∈ cm.map (·.1)

section
variable {ts : List Tie} {own : List Int} {c : Int} {u n : Nat} {cm : List (Nat × List Nat)}

theorem Came.start (hu : u < n) : Came ts own c u n [(u, [])] where
  nd := by simp
  st := by simp
  lt := fun x hx => by
    simp at hx
    omega
  ent := fun x P h => by
    rw [List.mem_singleton] at h
    injection h with h1 h2
    subst h1 h2
    exact ⟨by simp, .refl _, by simp, by simp⟩

theorem Came.add (C : Came ts own c u n cm) (hA : Acy ts (Cls own c)) {x y i : Nat} {P : List Nat} {t : Tie} (hx : (x, P) ∈ cm) (hi : Cls own c i) (ht : ts[i]? = some t) (he : Ends2 t x y) (hy : y ∉ cm.map (·.1)) (hyn : y < n) :
    Came ts own c u n (cm ++ [(y, P ++ [i])]) := by
  obtain ⟨e1, e2, e3, e4⟩ := C.ent x P hx
  have hxk : x ∈ cm.map (·.1) := List.mem_map.mpr ⟨_, hx, rfl⟩
  have hiP : i ∉ P := fun h => by
    obtain ⟨a, b⟩ := e4 i h t ht
    rcases he with ⟨_, e⟩ | ⟨e, _⟩
    · exact hy (e ▸ b)
    · exact hy (e ▸ a)
  have key : (cm ++ [(y, P ++ [i])]).map (·.1) = cm.map (·.1) ++ [y] := by rw [List.map_append]; rfl
  refine ⟨?_, ?_, ?_, ?_⟩
  · rw [key, List.nodup_append]
    refine ⟨C.nd, by simp, fun a ha b hb e => ?_⟩
    rw [List.mem_singleton] at hb
    subst hb
    exact hy (e ▸ ha)
  · rw [key]
    exact List.mem_append_left _ C.st
  · intro z hz
    rw [key] at hz
    rcases List.mem_append.mp hz with hz | hz
    · exact C.lt z hz
    · rw [List.mem_singleton] at hz
      omega
  · intro z Q hz
    rw [key]
    rcases List.mem_append.mp hz with hz | hz
    · obtain ⟨a1, a2, a3, a4⟩ := C.ent z Q hz
      exact ⟨a1, a2, a3, fun v hv s hs => ⟨List.mem_append_left _ (a4 v hv s hs).1, List.mem_append_left _ (a4 v hv s hs).2⟩⟩
    · rw [List.mem_singleton] at hz
      injection hz with h1 h2
      subst h1 h2
      refine ⟨fun v hv => ?_, ?_, fun v hv hc => ?_, fun v hv s hs => ?_⟩
      · rcases List.mem_append.mp hv with hv | hv
        · exact e1 v hv
        · rw [List.mem_singleton] at hv
          exact hv ▸ hi
      · exact .step i (e2.mono fun v hv => List.mem_append_left _ hv) (List.mem_append_right _ List.mem_cons_self) ht he
      · rcases List.mem_append.mp hv with hv | hv
        · have hvi : i ≠ v := fun e => hiP (e ▸ hv)
          exact e3 v hv (.step i hc ⟨hi, hvi⟩ ht he.symm)
        · rw [List.mem_singleton] at hv
          subst hv
          have up : Conn ts (fun z => Cls own c z ∧ z ≠ v) u x := e2.mono fun w hw => ⟨e1 w hw, fun e => hiP (e ▸ hw)⟩
          rcases he with ⟨q1, q2⟩ | ⟨q1, q2⟩
          · exact hA v t hi ht (by rw [q1, q2]; exact up.symm.trans hc)
          · exact hA v t hi ht (by rw [q1, q2]; exact hc.symm.trans up)
      · rcases List.mem_append.mp hv with hv | hv
        · exact ⟨List.mem_append_left _ (e4 v hv s hs).1, List.mem_append_left _ (e4 v hv s hs).2⟩
        · rw [List.mem_singleton] at hv
          subst hv
          rw [ht] at hs
          cases hs
          rcases he with ⟨q1, q2⟩ | ⟨q1, q2⟩
          · rw [q1, q2]
            exact ⟨List.mem_append_left _ hxk, List.mem_append_right _ List.mem_cons_self⟩
          · rw [q1, q2]
            exact ⟨List.mem_append_right _ List.mem_cons_self, List.mem_append_left _ hxk⟩

theorem Came.found (C : Came ts own c u n cm) {v : Nat} {P : List Nat} (hv : (v, P) ∈ cm) : Conn ts (Cls own c) u v ∧ ∀ y, y ∈ P ↔ OnWay ts own c u v y := by
  obtain ⟨e1, e2, e3, e4⟩ := C.ent v P hv
  refine ⟨e2.mono e1, fun y => ⟨fun hy => ⟨e1 y hy, e3 y hy⟩, fun hy => ?_⟩⟩
  apply Classical.byContradiction
  intro hyP
  exact hy.2 (e2.mono fun z hz => ⟨e1 z hz, fun e => hyP (e ▸ hz)⟩)

theorem Came.closed (C : Came ts own c u n cm) (h : ∀ x ∈ cm.map (·.1), ∀ i t y, Cls own c i → ts[i]? = some t → Ends2 t x y → y ∈ cm.map (·.1)) {v : Nat} (hv : v ∉ cm.map (·.1)) : ¬ Conn ts (Cls own c) u v := by
  intro hc
  refine hv ?_
  clear hv
  induction hc with
  | refl => exact C.st
  | step i _ hs ht he ih => exact h _ ih i _ _ hs ht he

theorem Came.len (C : Came ts own c u n cm) : cm.length ≤ n := by
  have h := len_le_of_sub (ys := List.range n) C.nd fun x hx => List.mem_range.mpr (C.lt x hx)
  rwa [List.length_map, List.length_range] at h
end

theorem lookup_snoc {β : Type} {l : List (Nat × β)} {x y : Nat} {b : β} : (l ++ [(x, b)]).lookup y = (l.lookup y).or (if y = x then some b else none) := by
  induction l with
  | nil =>
    by_cases e : y = x
    · subst e; simp
    · have : (y == x) = false := by simpa using e
      simp [List.lookup, this, e]
  | cons p l ih =>
    obtain ⟨a, v⟩ := p
    by_cases e : y = a
    · subst e; simp [List.lookup]
    · have : (y == a) = false := by simpa using e
      simp [List.lookup, this, ih]
theorem lookup_none {β : Type} {l : List (Nat × β)} {x : Nat} : l.lookup x = none ↔ x ∉ l.map (·.1) := by
  induction l with
  | nil => simp
  | cons p l ih =>
    obtain ⟨a, v⟩ := p
    by_cases e : x = a
    · subst e; simp [List.lookup]
    · have : (x == a) = false := by simpa using e
      simp [List.lookup, this, ih, e]
theorem lookup_mem {β : Type} {l : List (Nat × β)} {x : Nat} {b : β} (h : l.lookup x = some b) : (x, b) ∈ l := by
  induction l with
  | nil => simp at h
  | cons p l ih =>
    obtain ⟨a, v⟩ := p
    by_cases e : x = a
    · subst e
      simp [List.lookup] at h
      simp [h]
    · have : (x == a) = false := by simpa using e
      simp [List.lookup, this] at h
      exact List.mem_cons_of_mem _ (ih h)
theorem lookup_of_mem {β : Type} {l : List (Nat × β)} {x : Nat} {b : β} (nd : (l.map (·.1)).Nodup) (h : (x, b) ∈ l) : l.lookup x = some b := by
  induction l with
  | nil => simp at h
  | cons p l ih =>
    obtain ⟨a, v⟩ := p
    rw [List.map_cons, List.nodup_cons] at nd
    rcases List.mem_cons.mp h with e | e
    · injection e with e1 e2
      subst e1 e2
      simp [List.lookup]
    · have hne : x ≠ a := fun q => nd.1 (List.mem_map.mpr ⟨_, e, q⟩)
      have : (x == a) = false := by simpa using hne
      simp [List.lookup, this]
      exact ih nd.2 e
end Jp
end
section
set_option linter.unusedVariables false
namespace Jp

theorem perm_of_iff {xs ys : List Nat} (hx : xs.Nodup) (hy : ys.Nodup) (h : ∀ z, z ∈ xs ↔ z ∈ ys) : xs.Perm ys := by
  rw [List.perm_iff_count]
  intro a
  rw [hx.count, hy.count]
  by_cases e : a ∈ xs
  · rw [if_pos e, if_pos ((h a).mp e)]
  · rw [if_neg e, if_neg (fun q => e ((h a).mpr q))]

/-- the group that v is in -/
def homeOf (gs : List (List Nat)) (v : Nat) : Nat := gs.findIdx fun g => decide (v ∈ g)
def crossing (ts : List Tie) (gs : List (List Nat)) : List Tie := ts.filter fun t => decide (homeOf gs t.1 ≠ homeOf gs t.2)

structure GoodTrees (n : Nat) (ts : List Tie) (k : Nat) (tss : List (List Nat)) : Prop where
  len : tss.length = k
  one : ∀ t ∈ tss, t.length = n - 1 ∧ (∀ i ∈ t, i < ts.length) ∧ marksBy n ts t = List.replicate n 0
  nd : tss.flatten.Nodup
structure GoodParts (n : Nat) (ts : List Tie) (k : Nat) (gs : List (List Nat)) : Prop where
  perm : gs.flatten.Perm (List.range n)
  ne : ∀ g ∈ gs, g ≠ []
  few : (crossing ts gs).length < k * (gs.length - 1)

def Has (n : Nat) (ts : List Tie) (k : Nat) : Prop := ∃ tss, GoodTrees n ts k tss

def treeOf (own : List Int) (j : Nat) : List Nat := (List.range own.length).filter fun i => own[i]? == some (j : Int)
def treesOf (own : List Int) (k : Nat) : List (List Nat) := (List.range k).map fun j => treeOf own j

theorem mem_treeOf {own : List Int} {j i : Nat} : i ∈ treeOf own j ↔ Cls own (j : Int) i := by
  unfold treeOf Cls
  rw [List.mem_filter, List.mem_range, beq_iff_eq]
  refine ⟨fun h => h.2, fun h => ⟨(List.getElem?_eq_some_iff.mp h).1, h⟩⟩

section
variable {n k : Nat} {ts : List Tie} {own : List Int}

theorem treeOf_nodup (j : Nat) : (treeOf own j).Nodup := List.nodup_range.filter _

theorem treeOf_comps (hW : Web n ts) (hO : Own ts k own) (hF : Fst ts own) (j : Nat) : comps n ts (treeOf own j) + (treeOf own j).length = n := by
  refine comps_acy hW (fun i hi => ?_) (treeOf_nodup j) ((hF j (by omega)).mono fun i hi => mem_treeOf.mp hi)
  have := (List.getElem?_eq_some_iff.mp (show own[i]? = some (j : Int) from mem_treeOf.mp hi)).1
  rw [hO.1] at this
  exact this

theorem treeOf_lt (hO : Own ts k own) {j i : Nat} (hi : i ∈ treeOf own j) : i < ts.length := by
  have := (List.getElem?_eq_some_iff.mp (show own[i]? = some (j : Int) from mem_treeOf.mp hi)).1
  rwa [hO.1] at this

theorem trees_good (hW : Web n ts) (hn : 1 ≤ n) (hO : Own ts k own) (hF : Fst ts own) (h : ∀ t ∈ treesOf own k, t.length = n - 1) : GoodTrees n ts k (treesOf own k) where
  len := by unfold treesOf; rw [List.length_map, List.length_range]
  one := fun t ht => by
    have hl := h t ht
    obtain ⟨j, _, rfl⟩ := List.mem_map.mp ht
    have hlt : ∀ i ∈ treeOf own j, i < ts.length := fun i hi => treeOf_lt hO hi
    have := treeOf_comps hW hO hF j
    exact ⟨hl, hlt, marks_zero hW (by omega) hlt (by omega)⟩
  nd := by
    show List.Pairwise (· ≠ ·) (treesOf own k).flatten
    rw [List.pairwise_flatten]
    refine ⟨fun t ht => ?_, ?_⟩
    · obtain ⟨j, _, rfl⟩ := List.mem_map.mp ht
      exact treeOf_nodup j
    · unfold treesOf
      rw [List.pairwise_map]
      refine List.nodup_range.imp fun {a b} hab x hx y hy e => ?_
      subst e
      have h1 : own[x]? = some (a : Int) := mem_treeOf.mp hx
      have h2 : own[x]? = some (b : Int) := mem_treeOf.mp hy
      rw [h1] at h2
      have := Option.some.inj h2
      omega

theorem groups_home (hW : Web n ts) {L : List Nat} (hL : ∀ i ∈ L, i < ts.length) {gs : List (List Nat)} (hgs : gs = (roots n (marksBy n ts L)).map fun r => (List.range n).filter fun v => (marksBy n ts L)[v]? == some r) {v r : Nat} (hv : v < n) (hr : (marksBy n ts L)[v]? = some r) :
    homeOf gs v = (roots n (marksBy n ts L)).findIdx fun x => decide (x = r) := by
  unfold homeOf
  rw [hgs, List.findIdx_map]
  congr 1
  funext x
  show decide (v ∈ (List.range n).filter fun v => (marksBy n ts L)[v]? == some x) = decide (x = r)
  refine decide_eq_decide.mpr ?_
  rw [List.mem_filter, List.mem_range, hr, beq_iff_eq]
  constructor
  · rintro ⟨_, e⟩
    exact (Option.some.inj e).symm
  · intro e
    exact ⟨hv, by rw [e]⟩

theorem findIdx_inj {l : List Nat} {a b : Nat} (ha : a ∈ l) (hb : b ∈ l) (h : l.findIdx (fun x => decide (x = a)) = l.findIdx (fun x => decide (x = b))) : a = b := by
  have h1 : l.findIdx (fun x => decide (x = a)) < l.length := List.findIdx_lt_length_of_exists ⟨a, ha, by simp⟩
  have h2 : l.findIdx (fun x => decide (x = b)) < l.length := List.findIdx_lt_length_of_exists ⟨b, hb, by simp⟩
  have e1 := List.findIdx_getElem (w := h1)
  have e2 := List.findIdx_getElem (w := h2)
  have e1' : l[l.findIdx (fun x => decide (x = a))] = a := of_decide_eq_true e1
  have e2' : l[l.findIdx (fun x => decide (x = b))] = b := of_decide_eq_true e2
  rw [← e1', ← e2']
  congr 1

theorem groups_same (hW : Web n ts) {L : List Nat} (hL : ∀ i ∈ L, i < ts.length) {gs : List (List Nat)} (hgs : gs = (roots n (marksBy n ts L)).map fun r => (List.range n).filter fun v => (marksBy n ts L)[v]? == some r) {u v : Nat} (hu : u < n) (hv : v < n) :
    homeOf gs u = homeOf gs v ↔ Conn ts (· ∈ L) u v := by
  have ok := marksBy_ok hW L hL
  obtain ⟨a, ha, _⟩ := ok.get hu
  obtain ⟨b, hb, _⟩ := ok.get hv
  rw [groups_home hW hL hgs hu ha, groups_home hW hL hgs hv hb, ← ok.conn hu hv, ha, hb]
  constructor
  · intro h
    rw [findIdx_inj (ok.mem_roots.mpr (List.mem_of_getElem? ha)) (ok.mem_roots.mpr (List.mem_of_getElem? hb)) h]
  · intro h
    rw [Option.some.inj h]

theorem groups_perm (hW : Web n ts) {L : List Nat} (hL : ∀ i ∈ L, i < ts.length) : ((roots n (marksBy n ts L)).map fun r => (List.range n).filter fun v => (marksBy n ts L)[v]? == some r).flatten.Perm (List.range n) := by
  have ok := marksBy_ok hW L hL
  refine perm_of_iff ?_ List.nodup_range fun v => ?_
  · show List.Pairwise (· ≠ ·) _
    rw [List.pairwise_flatten]
    refine ⟨fun t ht => ?_, ?_⟩
    · obtain ⟨j, _, rfl⟩ := List.mem_map.mp ht
      exact List.nodup_range.filter _
    · rw [List.pairwise_map]
      refine (roots_nodup (n := n)).imp fun {a b} hab x hx y hy e => ?_
      subst e
      have h1 := (List.mem_filter.mp hx).2
      have h2 := (List.mem_filter.mp hy).2
      rw [beq_iff_eq] at h1 h2
      rw [h1] at h2
      exact hab (Option.some.inj h2)
  · rw [List.mem_flatten]
    constructor
    · rintro ⟨l, hl, hv⟩
      obtain ⟨r, _, rfl⟩ := List.mem_map.mp hl
      exact (List.mem_filter.mp hv).1
    · intro hv
      obtain ⟨m, hm, _⟩ := ok.get (List.mem_range.mp hv)
      refine ⟨_, List.mem_map.mpr ⟨m, ok.mem_roots.mpr (List.mem_of_getElem? hm), rfl⟩, List.mem_filter.mpr ⟨hv, ?_⟩⟩
      rw [hm]
      exact beq_self_eq_true _

theorem groups_ne (hW : Web n ts) {L : List Nat} (hL : ∀ i ∈ L, i < ts.length) : ∀ g ∈ (roots n (marksBy n ts L)).map fun r => (List.range n).filter fun v => (marksBy n ts L)[v]? == some r, g ≠ [] := by
  intro g hg e
  obtain ⟨r, hr, rfl⟩ := List.mem_map.mp hg
  obtain ⟨h1, h2⟩ := mem_roots.mp hr
  have : r ∈ (List.range n).filter fun v => (marksBy n ts L)[v]? == some r := List.mem_filter.mpr ⟨List.mem_range.mpr h1, by rw [h2]; exact beq_self_eq_true _⟩
  rw [e] at this
  cases this

theorem sum_add (f g : Nat → Nat) : ∀ l : List Nat, (l.map fun j => f j + g j).sum = (l.map f).sum + (l.map g).sum
  | [] => rfl
  | a :: l => by
    rw [List.map_cons, List.map_cons, List.map_cons, List.sum_cons, List.sum_cons, List.sum_cons, sum_add f g l]
    omega
theorem sum_mem {f : Nat → Nat} : ∀ {l : List Nat} {j : Nat}, j ∈ l → f j ≤ (l.map f).sum
  | a :: l, j, h => by
    rw [List.map_cons, List.sum_cons]
    rcases List.mem_cons.mp h with rfl | h
    · omega
    · have := sum_mem (f := f) h
      omega
theorem count_split (Pf : Nat → Bool) (Qf : Nat → Nat → Bool) (k : Nat) (h : ∀ i, Pf i = true → ∃ j, j < k ∧ Qf j i = true) : ∀ L : List Nat, (∀ i ∈ L, True) → (L.filter Pf).length ≤ ((List.range k).map fun j => (L.filter (Qf j)).length).sum
  | [], _ => Nat.zero_le _
  | i :: L, _ => by
    have ih := count_split Pf Qf k h L (fun _ _ => trivial)
    have e : ((List.range k).map fun j => ((i :: L).filter (Qf j)).length) = (List.range k).map fun j => (L.filter (Qf j)).length + (if Qf j i = true then 1 else 0) := by
      refine List.map_congr_left fun j _ => ?_
      rw [List.filter_cons]
      split <;> simp
    rw [e, sum_add, List.filter_cons]
    split
    · rename_i hp
      obtain ⟨j, hj, hq⟩ := h i hp
      have := sum_mem (f := fun j => if Qf j i = true then 1 else 0) (List.mem_range.mpr hj)
      simp only [hq, if_true] at this
      rw [List.length_cons]
      omega
    · omega
theorem sum_le {f : Nat → Nat} {c : Nat} : ∀ {l : List Nat}, (∀ j ∈ l, f j ≤ c) → (l.map f).sum ≤ l.length * c
  | [], _ => Nat.zero_le _
  | a :: l, h => by
    have := sum_le (l := l) fun j hj => h j (List.mem_cons_of_mem _ hj)
    have := h a List.mem_cons_self
    rw [List.map_cons, List.sum_cons, List.length_cons, Nat.succ_mul]
    omega
theorem sum_lt {f : Nat → Nat} {c : Nat} : ∀ {l : List Nat}, (∀ j ∈ l, f j ≤ c) → (∃ j ∈ l, f j < c) → (l.map f).sum < l.length * c
  | [], _, h => by
    obtain ⟨j, hj, _⟩ := h
    cases hj
  | a :: l, h, hx => by
    have h1 := sum_le (l := l) fun j hj => h j (List.mem_cons_of_mem _ hj)
    have h2 := h a List.mem_cons_self
    rw [List.map_cons, List.sum_cons, List.length_cons, Nat.succ_mul]
    obtain ⟨j, hj, hlt⟩ := hx
    rcases List.mem_cons.mp hj with rfl | hj
    · omega
    · have := sum_lt (l := l) (fun j hj => h j (List.mem_cons_of_mem _ hj)) ⟨j, hj, hlt⟩
      omega
theorem sum_ge {f : List Nat → Nat} {c : Nat} : ∀ {l : List (List Nat)}, (∀ j ∈ l, c ≤ f j) → l.length * c ≤ (l.map f).sum
  | [], _ => by simp
  | a :: l, h => by
    have := sum_ge (l := l) fun j hj => h j (List.mem_cons_of_mem _ hj)
    have := h a List.mem_cons_self
    rw [List.map_cons, List.sum_cons, List.length_cons, Nat.succ_mul]
    omega
theorem ties_range (ts : List Tie) : ts = (List.range ts.length).map fun i => ts.getD i (0, 0) := by
  apply List.ext_getElem
  · rw [List.length_map, List.length_range]
  · intro i h1 h2
    rw [List.getElem_map, List.getElem_range, List.getD_eq_getElem?_getD, List.getElem?_eq_getElem h1]
    rfl
theorem crossing_len (gs : List (List Nat)) : (crossing ts gs).length = ((List.range ts.length).filter fun i => decide (homeOf gs (ts.getD i (0, 0)).1 ≠ homeOf gs (ts.getD i (0, 0)).2)).length := by
  unfold crossing
  conv => lhs; rw [ties_range ts, List.filter_map, List.length_map]
  rfl
theorem filter_split (p q : Nat → Bool) : ∀ L : List Nat, (L.filter p).length = (L.filter fun i => p i && q i).length + (L.filter fun i => p i && !q i).length
  | [] => rfl
  | i :: L => by
    have ih := filter_split p q L
    rw [List.filter_cons, List.filter_cons, List.filter_cons]
    cases p i <;> cases q i <;> simp_all <;> omega

theorem parts_good (hW : Web n ts) (hn : 1 ≤ n) (hO : Own ts k own) (hF : Fst ts own) {B : List Nat} (hB : ∀ i ∈ B, i < ts.length) (hC : Closed ts k own (· ∈ B)) (hU : ∀ i : Nat, own[i]? = some (-1) → i ∈ B)
    (h : ¬ ∀ t ∈ treesOf own k, t.length = n - 1) : GoodParts n ts k ((roots n (marksBy n ts B)).map fun r => (List.range n).filter fun v => (marksBy n ts B)[v]? == some r) := by
  refine ⟨groups_perm hW hB, groups_ne hW hB, ?_⟩
  have hr : comps n ts B = (roots n (marksBy n ts B)).length := rfl
  have hr1 := comps_pos hW (by omega) hB
  -- the ties of the j-th forest in B, out of B
  have hin : ∀ j, j < k → comps n ts B + ((List.range ts.length).filter fun i => (own[i]? == some ((j : Nat) : Int)) && decide (i ∈ B)).length = n := by
    intro j hj
    have hL : ∀ i ∈ (List.range ts.length).filter fun i => (own[i]? == some ((j : Nat) : Int)) && decide (i ∈ B), i < ts.length := fun i hi => List.mem_range.mp (List.mem_filter.mp hi).1
    have hm : ∀ i, i ∈ ((List.range ts.length).filter fun i => (own[i]? == some ((j : Nat) : Int)) && decide (i ∈ B)) ↔ Cls own (j : Int) i ∧ i ∈ B := by
      intro i
      rw [List.mem_filter, List.mem_range, Bool.and_eq_true, beq_iff_eq, decide_eq_true_iff]
      exact ⟨fun h => h.2, fun h => ⟨hB i h.2, h⟩⟩
    have e := comps_acy hW hL (List.nodup_range.filter _) ((hF j (by omega)).mono fun i hi => ((hm i).mp hi).1)
    have e2 := comps_congr hW hB hL fun u v _ => ⟨fun c => c.via fun i t hi ht => (hC i t hi ht j (by omega) (by omega)).mono fun z hz => (hm z).mpr hz, fun c => c.mono fun i hi => ((hm i).mp hi).2⟩
    rw [e2]
    exact e
  have htot : ∀ j, j < k → (treeOf own j).length = ((List.range ts.length).filter fun i => (own[i]? == some ((j : Nat) : Int)) && decide (i ∈ B)).length + ((List.range ts.length).filter fun i => (own[i]? == some ((j : Nat) : Int)) && !decide (i ∈ B)).length := by
    intro j _
    unfold treeOf
    rw [hO.1]
    exact filter_split _ _ _
  have hall : ∀ j, comps n ts (treeOf own j) + (treeOf own j).length = n := fun j => treeOf_comps hW hO hF j
  have hpos : ∀ j, 0 < comps n ts (treeOf own j) := fun j => comps_pos hW (by omega) fun i hi => treeOf_lt hO hi
  rw [List.length_map, ← hr, crossing_len]
  refine Nat.lt_of_le_of_lt (count_split _ (fun j i => (own[i]? == some ((j : Nat) : Int)) && !decide (i ∈ B)) k ?_ _ (fun _ _ => trivial)) ?_
  · intro i hi
    have hi' := of_decide_eq_true hi
    by_cases hlt : i < ts.length
    · have ht : ts[i]? = some (ts.getD i (0, 0)) := getD_tie hlt
      have hw := hW.at ht
      have hiB : i ∉ B := fun hiB => hi' ((groups_same hW hB rfl (by omega) (by omega)).mpr (.one hiB ht (.inl ⟨rfl, rfl⟩)))
      have hio : i < own.length := by rw [hO.1]; exact hlt
      have ho : own[i]? = some own[i] := List.getElem?_eq_getElem hio
      obtain ⟨h1, h2⟩ := hO.2 i _ ho
      have h3 : own[i] ≠ -1 := fun e => hiB (hU i (by rw [ho, e]))
      refine ⟨own[i].toNat, by omega, ?_⟩
      rw [Bool.and_eq_true, beq_iff_eq, ho]
      refine ⟨?_, by simpa using hiB⟩
      congr 1
      omega
    · have : ts.getD i (0, 0) = (0, 0) := by
        rw [List.getD_eq_getElem?_getD, List.getElem?_eq_none_iff.mpr (by omega)]
        rfl
      rw [this] at hi'
      exact absurd rfl hi'
  · have hlen : (List.range k).length = k := List.length_range
    have := sum_lt (l := List.range k) (c := comps n ts B - 1) (f := fun j => ((List.range ts.length).filter fun i => (own[i]? == some ((j : Nat) : Int)) && !decide (i ∈ B)).length) (fun j hj => ?_) ?_
    · rw [hlen] at this
      exact this
    · have hj := List.mem_range.mp hj
      have := hin j hj
      have := htot j hj
      have := hall j
      have := hpos j
      omega
    · apply Classical.byContradiction
      intro hno
      refine h fun t ht => ?_
      obtain ⟨j, hj, rfl⟩ := List.mem_map.mp ht
      have hj' := List.mem_range.mp hj
      apply Classical.byContradiction
      intro hne
      refine hno ⟨j, hj, ?_⟩
      have := hin j hj'
      have := htot j hj'
      have := hall j
      have := hpos j
      omega

theorem mem_flatten_home {gs : List (List Nat)} {v : Nat} (h : v ∈ gs.flatten) : homeOf gs v < gs.length := by
  obtain ⟨g, hg, hv⟩ := List.mem_flatten.mp h
  exact List.findIdx_lt_length_of_exists ⟨g, hg, by simpa using hv⟩

theorem home_of_mem {gs : List (List Nat)} (nd : gs.flatten.Nodup) {i v : Nat} {g : List Nat} (hg : gs[i]? = some g) (hv : v ∈ g) : homeOf gs v = i := by
  have hvf : v ∈ gs.flatten := List.mem_flatten.mpr ⟨g, List.mem_of_getElem? hg, hv⟩
  have hlt := mem_flatten_home hvf
  have e := List.findIdx_getElem (w := hlt)
  have e' : v ∈ gs[homeOf gs v] := of_decide_eq_true e
  have nd' : List.Pairwise (· ≠ ·) gs.flatten := nd
  rw [List.pairwise_flatten] at nd'
  obtain ⟨hil, hie⟩ := List.getElem?_eq_some_iff.mp hg
  rcases Nat.lt_trichotomy (homeOf gs v) i with h | h | h
  · have := (List.pairwise_iff_getElem.mp nd'.2) (homeOf gs v) i hlt hil h v e' v (by rw [hie]; exact hv)
    exact absurd rfl this
  · exact h
  · have := (List.pairwise_iff_getElem.mp nd'.2) i (homeOf gs v) hil hlt h v (by rw [hie]; exact hv) v e'
    exact absurd rfl this

/-- a set of ties within the groups leaves as many groups at the least -/
theorem comps_ge (hW : Web n ts) {gs : List (List Nat)} (hp : gs.flatten.Perm (List.range n)) (hne : ∀ g ∈ gs, g ≠ []) {L : List Nat} (hL : ∀ i ∈ L, i < ts.length) (hin : ∀ i t, i ∈ L → ts[i]? = some t → homeOf gs t.1 = homeOf gs t.2) : gs.length ≤ comps n ts L := by
  have ok := marksBy_ok hW L hL
  have nd : gs.flatten.Nodup := hp.nodup_iff.mpr List.nodup_range
  have hc : ∀ u v, Conn ts (· ∈ L) u v → homeOf gs u = homeOf gs v := by
    intro u v c
    induction c with
    | refl => rfl
    | step i _ hi ht he ih =>
      rw [ih]
      have := hin i _ hi ht
      rcases he with ⟨e1, e2⟩ | ⟨e1, e2⟩
      · rw [← e1, ← e2]; exact this
      · rw [← e1, ← e2]; exact this.symm
  have := len_le_of_sub (xs := List.range gs.length) (ys := (roots n (marksBy n ts L)).map (homeOf gs)) List.nodup_range fun i hi => ?_
  · rw [List.length_range, List.length_map] at this
    exact this
  · have hi := List.mem_range.mp hi
    have hg : gs[i]? = some gs[i] := List.getElem?_eq_getElem hi
    obtain ⟨v, hv⟩ := List.exists_mem_of_ne_nil _ (hne gs[i] (List.getElem_mem hi))
    have hvn : v < n := List.mem_range.mp (hp.mem_iff.mp (List.mem_flatten.mpr ⟨_, List.getElem_mem hi, hv⟩))
    obtain ⟨m, hm, _, hcm⟩ := ok.get hvn
    refine List.mem_map.mpr ⟨m, ok.mem_roots.mpr (List.mem_of_getElem? hm), ?_⟩
    rw [← hc v m hcm]
    exact home_of_mem nd hg hv

theorem flatten_filter_len (p : Nat → Bool) : ∀ tss : List (List Nat), (tss.flatten.filter p).length = (tss.map fun t => (t.filter p).length).sum
  | [] => rfl
  | t :: tss => by
    rw [List.flatten_cons, List.filter_append, List.length_append, flatten_filter_len p tss, List.map_cons, List.sum_cons]

/-- each tree has as many ties between the groups as the groups less one -/
theorem tree_cross (hW : Web n ts) (hn : 1 ≤ n) {gs : List (List Nat)} (hp : gs.flatten.Perm (List.range n)) (hne : ∀ g ∈ gs, g ≠ []) {t : List Nat} (ht : ∀ i ∈ t, i < ts.length) (hm : marksBy n ts t = List.replicate n 0) :
    gs.length - 1 ≤ (t.filter fun i => decide (homeOf gs (ts.getD i (0, 0)).1 ≠ homeOf gs (ts.getD i (0, 0)).2)).length := by
  have h1 := comps_zero (by omega) hm
  have hin : ∀ i ∈ t.filter fun i => !decide (homeOf gs (ts.getD i (0, 0)).1 ≠ homeOf gs (ts.getD i (0, 0)).2), i < ts.length := fun i hi => ht i (List.mem_filter.mp hi).1
  have hout : ∀ i ∈ t.filter fun i => decide (homeOf gs (ts.getD i (0, 0)).1 ≠ homeOf gs (ts.getD i (0, 0)).2), i < ts.length := fun i hi => ht i (List.mem_filter.mp hi).1
  have h2 := comps_ge hW hp hne hin fun i u hi hu => by
    have hd := (List.mem_filter.mp hi).2
    have : ts.getD i (0, 0) = u := by rw [List.getD_eq_getElem?_getD, hu]; rfl
    rw [this] at hd
    simpa using hd
  have h3 := comps_more hW hin hout
  have h4 : comps n ts (t.filter (fun i => decide (homeOf gs (ts.getD i (0, 0)).1 ≠ homeOf gs (ts.getD i (0, 0)).2)) ++ t.filter fun i => !decide (homeOf gs (ts.getD i (0, 0)).1 ≠ homeOf gs (ts.getD i (0, 0)).2)) = comps n ts t := by
    refine comps_congr hW (fun i hi => (List.mem_append.mp hi).elim (hout i) (hin i)) ht fun u v _ => ⟨fun c => c.mono fun i hi => ?_, fun c => c.mono fun i hi => ?_⟩
    · rcases List.mem_append.mp hi with hi | hi
      · exact (List.mem_filter.mp hi).1
      · exact (List.mem_filter.mp hi).1
    · by_cases e : homeOf gs (ts.getD i (0, 0)).1 ≠ homeOf gs (ts.getD i (0, 0)).2
      · exact List.mem_append_left _ (List.mem_filter.mpr ⟨hi, decide_eq_true e⟩)
      · exact List.mem_append_right _ (List.mem_filter.mpr ⟨hi, by rw [decide_eq_false e]; rfl⟩)
  omega

theorem not_both (hW : Web n ts) (hn : 1 ≤ n) {tss gs : List (List Nat)} (hT : GoodTrees n ts k tss) (hP : GoodParts n ts k gs) : False := by
  have h1 : ∀ t ∈ tss, gs.length - 1 ≤ (t.filter fun i => decide (homeOf gs (ts.getD i (0, 0)).1 ≠ homeOf gs (ts.getD i (0, 0)).2)).length := fun t ht =>
    tree_cross hW hn hP.perm hP.ne (hT.one t ht).2.1 (hT.one t ht).2.2
  have h2 := sum_ge (f := fun t => (t.filter fun i => decide (homeOf gs (ts.getD i (0, 0)).1 ≠ homeOf gs (ts.getD i (0, 0)).2)).length) h1
  rw [hT.len, ← flatten_filter_len] at h2
  have h3 := len_le_of_sub (xs := tss.flatten.filter fun i => decide (homeOf gs (ts.getD i (0, 0)).1 ≠ homeOf gs (ts.getD i (0, 0)).2))
    (ys := (List.range ts.length).filter fun i => decide (homeOf gs (ts.getD i (0, 0)).1 ≠ homeOf gs (ts.getD i (0, 0)).2)) (hT.nd.filter _) fun i hi => by
      obtain ⟨h1, h2⟩ := List.mem_filter.mp hi
      obtain ⟨t, ht, hit⟩ := List.mem_flatten.mp h1
      exact List.mem_filter.mpr ⟨List.mem_range.mpr ((hT.one t ht).2.1 i hit), h2⟩
  rw [← crossing_len] at h3
  have := hP.few
  omega

theorem Has.less (h : Has n ts (k + 1)) : Has n ts k := by
  obtain ⟨tss, hT⟩ := h
  refine ⟨tss.take k, ?_, fun t ht => hT.one t (List.mem_of_mem_take ht), ?_⟩
  · rw [List.length_take, hT.len]
    omega
  · have : tss.flatten = (tss.take k).flatten ++ (tss.drop k).flatten := by rw [← List.flatten_append, List.take_append_drop]
    have nd := hT.nd
    rw [this, List.nodup_append] at nd
    exact nd.1
theorem Has.le {j : Nat} (h : Has n ts k) (hj : j ≤ k) : Has n ts j := by
  induction k with
  | zero =>
    have : j = 0 := by omega
    subst this
    exact h
  | succ k ih =>
    by_cases e : j = k + 1
    · subst e; exact h
    · exact ih h.less (by omega)
theorem Has.few (h : Has n ts k) : k * (n - 1) ≤ ts.length := by
  obtain ⟨tss, hT⟩ := h
  have h1 := sum_ge (l := tss) (f := List.length) (c := n - 1) fun t ht => by rw [(hT.one t ht).1]; exact Nat.le_refl _
  rw [hT.len] at h1
  have h2 := len_le_of_sub (xs := tss.flatten) (ys := List.range ts.length) hT.nd fun i hi => by
    obtain ⟨t, ht, hit⟩ := List.mem_flatten.mp hi
    exact List.mem_range.mpr ((hT.one t ht).2.1 i hit)
  rw [List.length_flatten, List.length_range] at h2
  omega
theorem Has.zero : Has n ts 0 := ⟨[], rfl, fun _ h => (nomatch h), List.nodup_nil⟩
end
end Jp
end
section
set_option linter.unusedVariables false
namespace Jp

/-- all are joined -/
def AllC (n : Nat) (ts : List Tie) (S : Nat → Prop) : Prop := ∀ u v, u < n → v < n → Conn ts S u v

/-- two webs without a common tie, each joins all by the fast ones -/
def HeldP (n : Nat) (ts : List Tie) (F X : List Nat) : Prop := ∃ A B : Nat → Prop, (∀ i, A i → ¬ B i) ∧ (∀ i, A i → i ∉ X) ∧ (∀ i, B i → i ∉ X) ∧ AllC n ts (fun i => i ∈ F ∨ A i) ∧ AllC n ts (fun i => i ∈ F ∨ B i)

section
variable {n : Nat} {ts : List Tie} {F X : List Nat}

theorem AllC.mono {S T : Nat → Prop} (h : AllC n ts S) (hST : ∀ i, S i → T i) : AllC n ts T := fun u v hu hv => (h u v hu hv).mono hST
theorem HeldP.all (h : AllC n ts (· ∈ F)) : HeldP n ts F X := ⟨fun _ => False, fun _ => False, fun _ h => h.elim, fun _ h => h.elim, fun _ h => h.elim, h.mono fun i hi => .inl hi, h.mono fun i hi => .inl hi⟩
/-- with fewer cut, more fast -/
theorem HeldP.more {F' X' : List Nat} (h : HeldP n ts F X) (hF : ∀ i ∈ F, i ∈ F') (hX : ∀ i ∈ X', i ∈ X) : HeldP n ts F' X' := by
  obtain ⟨A, B, h1, h2, h3, h4, h5⟩ := h
  exact ⟨A, B, h1, fun i hi hx => h2 i hi (hX i hx), fun i hi hx => h3 i hi (hX i hx), h4.mono fun i hi => hi.imp (hF i) id, h5.mono fun i hi => hi.imp (hF i) id⟩

/-- where T doesn't join all but S does, a tie of S leads across -/
theorem across {S T : Nat → Prop} (h : AllC n ts S) (hn : ¬ AllC n ts T) : ∃ i t, S i ∧ ts[i]? = some t ∧ ¬ Conn ts T t.1 t.2 := by
  apply Classical.byContradiction
  intro hno
  refine hn fun u v hu hv => (h u v hu hv).via fun i t hi ht => ?_
  apply Classical.byContradiction
  intro hc
  exact hno ⟨i, t, hi, ht, hc⟩

/-- one tie exchanged for one that leads across -/
theorem exchange (hW : Web n ts) {S T U : Nat → Prop} {e f : Nat} {t : Tie} (h : AllC n ts S) (hS : ∀ x, S x → T x ∨ x = e) (hf : ts[f]? = some t) (hn : ¬ Conn ts T t.1 t.2) (hU : ∀ x, T x → U x) (hUf : U f) : AllC n ts U := by
  have ht := hW.at hf
  cases he : ts[e]? with
  | none =>
    exact (hn ((h t.1 t.2 ht.1 ht.2.1).via fun i u hi hu => (hS i hi).elim (fun hT => .one hT hu (.inl ⟨rfl, rfl⟩)) fun q => by rw [q, he] at hu; cases hu)).elim
  | some s =>
    have hs := hW.at he
    have side : ∀ a, a < n → Conn ts T a s.1 ∨ Conn ts T a s.2 := fun a ha => by
      rcases (h a s.1 ha hs.1).insert he hS with h | ⟨h, _⟩ | ⟨h, _⟩
      · exact .inl h
      · exact .inl h
      · exact .inr h
    have key : Conn ts U s.1 s.2 := by
      have hfe : Conn ts U t.1 t.2 := .one hUf hf (.inl ⟨rfl, rfl⟩)
      rcases side t.1 ht.1 with h1 | h1 <;> rcases side t.2 ht.2.1 with h2 | h2
      · exact (hn (h1.trans h2.symm)).elim
      · exact ((h1.symm.mono hU).trans hfe).trans (h2.mono hU)
      · exact ((h2.symm.mono hU).trans hfe.symm).trans (h1.mono hU)
      · exact (hn (h1.trans h2.symm)).elim
    have all : ∀ a, a < n → Conn ts U a s.1 := fun a ha => (side a ha).elim (fun h => h.mono hU) fun h => (h.mono hU).trans key.symm
    exact fun u v hu hv => (all u hu).trans (all v hv).symm

/-- whatever is cut, a tie holds it -/
theorem held_answer (hW : Web n ts) (h : HeldP n ts F X) (e : Nat) (hne : ¬ AllC n ts (· ∈ F)) :
    ∃ f t, ts[f]? = some t ∧ f ∉ F ∧ f ∉ X ∧ f ≠ e ∧ ¬ Conn ts (· ∈ F) t.1 t.2 ∧ HeldP n ts (F ++ [f]) (X ++ [e]) := by
  have main : ∀ A B : Nat → Prop, (∀ i, A i → ¬ B i) → (∀ i, A i → i ∉ X) → (∀ i, B i → i ∉ X) → AllC n ts (fun i => i ∈ F ∨ A i) → AllC n ts (fun i => i ∈ F ∨ B i) → ¬ B e →
      ∃ f t, ts[f]? = some t ∧ f ∉ F ∧ f ∉ X ∧ f ≠ e ∧ ¬ Conn ts (· ∈ F) t.1 t.2 ∧ HeldP n ts (F ++ [f]) (X ++ [e]) := by
    intro A B h1 h2 h3 h4 h5 hBe
    have ex : ∃ f t, (f ∈ F ∨ B f) ∧ ts[f]? = some t ∧ ¬ Conn ts (· ∈ F) t.1 t.2 ∧ AllC n ts (fun i => i ∈ F ++ [f] ∨ (A i ∧ i ≠ e)) := by
      by_cases ha : AllC n ts (fun i => i ∈ F ∨ (A i ∧ i ≠ e))
      · obtain ⟨f, t, hf, ht, hc⟩ := across h5 hne
        exact ⟨f, t, hf, ht, hc, ha.mono fun i hi => hi.imp (fun h => List.mem_append_left _ h) id⟩
      · obtain ⟨f, t, hf, ht, hc⟩ := across h5 ha
        refine ⟨f, t, hf, ht, fun q => hc (q.mono fun i hi => .inl hi), ?_⟩
        refine exchange hW (e := e) h4 (T := fun i => i ∈ F ∨ (A i ∧ i ≠ e)) (fun x hx => ?_) ht hc (fun x hx => hx.imp (fun h => List.mem_append_left _ h) id) (.inl (List.mem_append_right _ List.mem_cons_self))
        by_cases q : x = e
        · exact .inr q
        · exact .inl (hx.imp id fun hA => ⟨hA, q⟩)
    obtain ⟨f, t, hf, ht, hc, hall⟩ := ex
    have hfF : f ∉ F := fun q => hc (.one q ht (.inl ⟨rfl, rfl⟩))
    have hBf := hf.resolve_left hfF
    have hfe : f ≠ e := fun q => hBe (q ▸ hBf)
    refine ⟨f, t, ht, hfF, h3 f hBf, hfe, hc, fun i => A i ∧ i ≠ e, B, fun i hi => h1 i hi.1, fun i hi hx => ?_, fun i hi hx => ?_, hall, h5.mono fun i hi => hi.imp (fun h => List.mem_append_left _ h) id⟩
    · rcases List.mem_append.mp hx with hx | hx
      · exact h2 i hi.1 hx
      · exact hi.2 (List.mem_singleton.mp hx)
    · rcases List.mem_append.mp hx with hx | hx
      · exact h3 i hi hx
      · rw [List.mem_singleton] at hx
        exact hBe (hx ▸ hi)
  obtain ⟨A, B, h1, h2, h3, h4, h5⟩ := h
  by_cases hB : B e
  · exact main B A (fun i hb ha => h1 i ha hb) h3 h2 h5 h4 fun ha => h1 e ha hB
  · exact main A B h1 h2 h3 h4 h5 hB

/-- a tie within a group holds nothing more -/
theorem held_loop {f : Nat} (h : HeldP n ts (F ++ [f]) X) (hf : ∀ t, ts[f]? = some t → Conn ts (· ∈ F) t.1 t.2) : HeldP n ts F X := by
  obtain ⟨A, B, h1, h2, h3, h4, h5⟩ := h
  have go : ∀ A : Nat → Prop, AllC n ts (fun i => i ∈ F ++ [f] ∨ A i) → AllC n ts (fun i => i ∈ F ∨ A i) := fun A h u v hu hv => (h u v hu hv).via fun i t hi ht => by
    rcases hi with hi | hi
    · rcases List.mem_append.mp hi with hi | hi
      · exact .one (.inl hi) ht (.inl ⟨rfl, rfl⟩)
      · rw [List.mem_singleton] at hi
        exact (hf t (hi ▸ ht)).mono fun x hx => .inl hx
    · exact .one (.inr hi) ht (.inl ⟨rfl, rfl⟩)
  exact ⟨A, B, h1, h2, h3, go A h4, go B h5⟩

/-- nothing is free: held is joined -/
theorem held_end (h : HeldP n ts F X) (hno : ∀ i, i < ts.length → i ∈ F ∨ i ∈ X) : AllC n ts (· ∈ F) := by
  obtain ⟨A, B, h1, h2, h3, h4, h5⟩ := h
  intro u v hu hv
  refine (h4 u v hu hv).via fun i t hi ht => ?_
  have hl := (List.getElem?_eq_some_iff.mp ht).1
  rcases hi with hi | hi
  · exact .one hi ht (.inl ⟨rfl, rfl⟩)
  · exact .one ((hno i hl).resolve_right (h2 i hi)) ht (.inl ⟨rfl, rfl⟩)

theorem marks_all (hW : Web n ts) (hn : 0 < n) {L : List Nat} (hL : ∀ i ∈ L, i < ts.length) : marksBy n ts L = List.replicate n 0 ↔ AllC n ts (· ∈ L) := by
  have ok := marksBy_ok hW L hL
  constructor
  · intro e u v hu hv
    refine (ok.conn hu hv).mp ?_
    rw [e, List.getElem?_replicate, List.getElem?_replicate, if_pos hu, if_pos hv]
  · intro h
    apply List.ext_getElem?
    intro i
    by_cases hi : i < n
    · rw [List.getElem?_replicate, if_pos hi, (ok.conn hi hn).mpr (h i 0 hi hn)]
      obtain ⟨m, hm, hle, _⟩ := ok.get hn
      rw [hm]
      congr 1
      omega
    · rw [List.getElem?_eq_none (by rw [ok.len]; omega), List.getElem?_eq_none (by rw [List.length_replicate]; omega)]

/-- how many that aren't cut lead across -/
def crossN (ts : List Tie) (X : List Nat) (home : Nat → Nat) : List Nat := (List.range ts.length).filter fun i => decide (i ∉ X) && decide (home (ts.getD i (0, 0)).1 ≠ home (ts.getD i (0, 0)).2)
structure Split (n : Nat) (ts : List Tie) (F : List Nat) (home : Nat → Nat) (m : Nat) : Prop where
  lt : ∀ v, v < n → home v < m
  sur : ∀ j, j < m → ∃ v, v < n ∧ home v = j
  fast : ∀ (i : Nat) (t : Tie), i ∈ F → ts[i]? = some t → home t.1 = home t.2
def Parted' (n : Nat) (ts : List Tie) (F X : List Nat) (s : Nat) : Prop := ∃ (home : Nat → Nat) (m : Nat), Split n ts F home m ∧ (crossN ts X home).length + s < 2 * (m - 1)

theorem mem_crossN {home : Nat → Nat} {i : Nat} : i ∈ crossN ts X home ↔ ∃ t, ts[i]? = some t ∧ i ∉ X ∧ home t.1 ≠ home t.2 := by
  unfold crossN
  rw [List.mem_filter, List.mem_range, Bool.and_eq_true, decide_eq_true_iff, decide_eq_true_iff]
  constructor
  · rintro ⟨h1, h2, h3⟩
    exact ⟨_, getD_tie h1, h2, h3⟩
  · rintro ⟨t, h1, h2, h3⟩
    have hl := (List.getElem?_eq_some_iff.mp h1).1
    have : ts.getD i (0, 0) = t := by
      rw [List.getD_eq_getElem?_getD, h1]
      rfl
    exact ⟨hl, h2, by rw [this]; exact h3⟩
theorem crossN_nodup {home : Nat → Nat} : (crossN ts X home).Nodup := List.nodup_range.filter _

/-- the parts as lists -/
def partsOf (n m : Nat) (home : Nat → Nat) : List (List Nat) := (List.range m).map fun j => (List.range n).filter fun v => home v == j
theorem parts_perm {home : Nat → Nat} {m : Nat} (h : Split n ts F home m) : (partsOf n m home).flatten.Perm (List.range n) := by
  refine perm_of_iff ?_ List.nodup_range fun v => ?_
  · unfold partsOf
    show List.Pairwise (· ≠ ·) _
    rw [List.pairwise_flatten]
    refine ⟨fun l hl => ?_, ?_⟩
    · obtain ⟨j, _, rfl⟩ := List.mem_map.mp hl
      exact List.nodup_range.filter _
    · rw [List.pairwise_map]
      refine (List.nodup_range (n := m)).imp fun {a b} hab x hx y hy e => hab ?_
      have h1 := (List.mem_filter.mp hx).2
      have h2 := (List.mem_filter.mp hy).2
      rw [beq_iff_eq] at h1 h2
      rw [← h1, ← h2, e]
  · unfold partsOf
    rw [List.mem_flatten]
    constructor
    · rintro ⟨l, hl, hv⟩
      obtain ⟨j, _, rfl⟩ := List.mem_map.mp hl
      exact (List.mem_filter.mp hv).1
    · intro hv
      exact ⟨_, List.mem_map.mpr ⟨home v, List.mem_range.mpr (h.lt v (List.mem_range.mp hv)), rfl⟩, List.mem_filter.mpr ⟨hv, by simp⟩⟩
theorem parts_ne {home : Nat → Nat} {m : Nat} (h : Split n ts F home m) : ∀ g ∈ partsOf n m home, g ≠ [] := by
  intro g hg e
  unfold partsOf at hg
  obtain ⟨j, hj, rfl⟩ := List.mem_map.mp hg
  obtain ⟨v, hv, hvj⟩ := h.sur j (List.mem_range.mp hj)
  have : v ∈ (List.range n).filter fun v => home v == j := List.mem_filter.mpr ⟨List.mem_range.mpr hv, by simp [hvj]⟩
  rw [e] at this
  cases this
theorem parts_home {home : Nat → Nat} {m v : Nat} (h : Split n ts F home m) (hv : v < n) : homeOf (partsOf n m home) v = home v := by
  have nd : (partsOf n m home).flatten.Nodup := (parts_perm h).nodup_iff.mpr List.nodup_range
  refine home_of_mem nd (g := (List.range n).filter fun x => home x == home v) ?_ (List.mem_filter.mpr ⟨List.mem_range.mpr hv, by simp⟩)
  unfold partsOf
  rw [List.getElem?_map, List.getElem?_range (h.lt v hv)]
  rfl

/-- parted is not held -/
theorem Parted'.not (hW : Web n ts) (hn : 0 < n) (h : Parted' n ts F X 0) (hFl : ∀ i ∈ F, i < ts.length) : ¬ HeldP n ts F X := by
  obtain ⟨home, m, hS, hc⟩ := h
  rintro ⟨A, B, h1, h2, h3, h4, h5⟩
  have hm : (partsOf n m home).length = m := by
    unfold partsOf
    rw [List.length_map, List.length_range]
  -- those of a web that lead across
  have one : ∀ A : Nat → Prop, (∀ i, A i → i ∉ X) → AllC n ts (fun i => i ∈ F ∨ A i) → ∃ l : List Nat, l.Nodup ∧ (∀ i ∈ l, A i ∧ i ∈ crossN ts X home) ∧ m - 1 ≤ l.length := by
    intro A hA hall
    have : ∀ i, Decidable (i ∈ F ∨ A i) := fun i => Classical.propDecidable _
    let L := (List.range ts.length).filter fun i => decide (i ∈ F ∨ A i)
    have hL : ∀ i ∈ L, i < ts.length := fun i hi => List.mem_range.mp (List.mem_filter.mp hi).1
    have hLall : AllC n ts (· ∈ L) := fun u v hu hv => (hall u v hu hv).lt.mono fun i hi => List.mem_filter.mpr ⟨List.mem_range.mpr hi.2, decide_eq_true hi.1⟩
    have hz := (marks_all hW hn hL).mpr hLall
    have ht := tree_cross hW hn (parts_perm hS) (parts_ne hS) hL hz
    rw [hm] at ht
    refine ⟨_, (List.nodup_range.filter _).filter _, fun i hi => ?_, ht⟩
    obtain ⟨hi1, hi2⟩ := List.mem_filter.mp hi
    have hil := hL i hi1
    have hti := getD_tie hil
    have hw := hW.at hti
    have hne := of_decide_eq_true hi2
    rw [parts_home hS hw.1, parts_home hS hw.2.1] at hne
    have hiA : A i := by
      have := of_decide_eq_true (List.mem_filter.mp hi1).2
      exact this.resolve_left fun hF => hne (hS.fast i _ hF hti)
    exact ⟨hiA, mem_crossN.mpr ⟨_, hti, hA i hiA, hne⟩⟩
  obtain ⟨la, na, ha, la1⟩ := one A h2 h4
  obtain ⟨lb, nb, hb, lb1⟩ := one B h3 h5
  have nd : (la ++ lb).Nodup := by
    rw [List.nodup_append]
    exact ⟨na, nb, fun a ha' b hb' e => h1 a (ha a ha').1 (e ▸ (hb b hb').1)⟩
  have := len_le_of_sub nd fun i hi => (List.mem_append.mp hi).elim (fun h => (ha i h).2) fun h => (hb i h).2
  rw [List.length_append] at this
  omega

/-- one that leads across is cut -/
theorem cross_cut {home : Nat → Nat} {e : Nat} (he : e ∈ crossN ts X home) : (crossN ts (X ++ [e]) home).length + 1 ≤ (crossN ts X home).length := by
  have nd : (e :: crossN ts (X ++ [e]) home).Nodup := List.nodup_cons.mpr ⟨fun h => by
    obtain ⟨_, _, h2, _⟩ := mem_crossN.mp h
    exact h2 (List.mem_append_right _ List.mem_cons_self), crossN_nodup⟩
  have := len_le_of_sub nd (ys := crossN ts X home) fun i hi => by
    rcases List.mem_cons.mp hi with rfl | hi
    · exact he
    · obtain ⟨t, h1, h2, h3⟩ := mem_crossN.mp hi
      exact mem_crossN.mpr ⟨t, h1, fun h => h2 (List.mem_append_left _ h), h3⟩
  simpa using this
theorem cross_less {home : Nat → Nat} {X' : List Nat} (h : ∀ i ∈ X, i ∈ X') : (crossN ts X' home).length ≤ (crossN ts X home).length :=
  len_le_of_sub crossN_nodup fun i hi => by
    obtain ⟨t, h1, h2, h3⟩ := mem_crossN.mp hi
    exact mem_crossN.mpr ⟨t, h1, fun q => h2 (h i q), h3⟩
theorem Parted'.cut {X' : List Nat} {s : Nat} (h : Parted' n ts F X s) (hX : ∀ i ∈ X, i ∈ X') : Parted' n ts F X' s := by
  obtain ⟨home, m, hS, hc⟩ := h
  exact ⟨home, m, hS, by have := cross_less (ts := ts) (home := home) hX; omega⟩
theorem Parted'.le {s : Nat} (h : Parted' n ts F X s) : Parted' n ts F X 0 := by
  obtain ⟨home, m, hS, hc⟩ := h
  exact ⟨home, m, hS, by omega⟩

/-- whatever is made fast thereafter -/
theorem Parted'.join (hW : Web n ts) (h : Parted' n ts F X 1) {f : Nat} (hfX : f ∉ X) : Parted' n ts (F ++ [f]) X 0 := by
  obtain ⟨home, m, hS, hc⟩ := h
  cases hf : ts[f]? with
  | none =>
    refine ⟨home, m, ⟨hS.lt, hS.sur, fun i t hi ht => ?_⟩, by omega⟩
    rcases List.mem_append.mp hi with hi | hi
    · exact hS.fast i t hi ht
    · rw [List.mem_singleton] at hi
      rw [hi, hf] at ht
      cases ht
  | some tf =>
    by_cases hx : home tf.1 = home tf.2
    · refine ⟨home, m, ⟨hS.lt, hS.sur, fun i t hi ht => ?_⟩, by omega⟩
      rcases List.mem_append.mp hi with hi | hi
      · exact hS.fast i t hi ht
      · rw [List.mem_singleton] at hi
        rw [hi, hf] at ht
        cases ht
        exact hx
    · have hw := hW.at hf
      -- the two parts become one
      obtain ⟨a, b, hab, hm2⟩ : ∃ a b, a < b ∧ ((home tf.1 = a ∧ home tf.2 = b) ∨ (home tf.1 = b ∧ home tf.2 = a)) := by
        rcases Nat.lt_or_gt_of_ne hx with h | h
        · exact ⟨_, _, h, .inl ⟨rfl, rfl⟩⟩
        · exact ⟨_, _, h, .inr ⟨rfl, rfl⟩⟩
      have hbm : b < m := by
        have h1 := hS.lt tf.1 hw.1
        have h2 := hS.lt tf.2 hw.2.1
        omega
      let g : Nat → Nat := fun x => if x = b then a else if b < x then x - 1 else x
      have gdef : ∀ x, g x = if x = b then a else if b < x then x - 1 else x := fun _ => rfl
      have gab : g (home tf.1) = g (home tf.2) := by
        rcases hm2 with ⟨e1, e2⟩ | ⟨e1, e2⟩ <;> rw [e1, e2, gdef, gdef] <;> simp <;> omega
      have glt : ∀ x, x < m → g x < m - 1 := fun x hx => by
        rw [gdef]
        split
        · omega
        · split <;> omega
      have S' : Split n ts (F ++ [f]) (fun v => g (home v)) (m - 1) := by
        refine ⟨fun v hv => glt _ (hS.lt v hv), fun j hj => ?_, fun i t hi ht => ?_⟩
        · have : ∃ x, x < m ∧ g x = j := by
            by_cases h : j < b
            · refine ⟨j, by omega, ?_⟩
              rw [gdef, if_neg (by omega), if_neg (by omega)]
            · refine ⟨j + 1, by omega, ?_⟩
              rw [gdef, if_neg (by omega), if_pos (by omega)]
              omega
          obtain ⟨x, hx1, hx2⟩ := this
          obtain ⟨v, hv, hvx⟩ := hS.sur x hx1
          exact ⟨v, hv, by rw [hvx]; exact hx2⟩
        · rcases List.mem_append.mp hi with hi | hi
          · show g _ = g _
            rw [hS.fast i t hi ht]
          · rw [List.mem_singleton] at hi
            rw [hi, hf] at ht
            cases ht
            exact gab
      have nd : (f :: crossN ts X fun v => g (home v)).Nodup := List.nodup_cons.mpr ⟨fun h => by
        obtain ⟨t, h1, _, h3⟩ := mem_crossN.mp h
        rw [hf] at h1
        cases h1
        exact h3 gab, crossN_nodup⟩
      have hle := len_le_of_sub nd (ys := crossN ts X home) fun i hi => by
        rcases List.mem_cons.mp hi with rfl | hi
        · exact mem_crossN.mpr ⟨tf, hf, hfX, hx⟩
        · obtain ⟨t, h1, h2, h3⟩ := mem_crossN.mp hi
          exact mem_crossN.mpr ⟨t, h1, h2, fun e => h3 (by show g _ = g _; rw [e])⟩
      rw [List.length_cons] at hle
      exact ⟨_, m - 1, S', by omega⟩

/-- parted with nothing free is not joined -/
theorem Parted'.apart (hW : Web n ts) (hn : 0 < n) (h : Parted' n ts F X 0) (hFl : ∀ i ∈ F, i < ts.length) : ¬ AllC n ts (· ∈ F) := fun hA => h.not hW hn hFl (.all hA)
end
end Jp
end
section
set_option linter.unusedVariables false
namespace Jp

def names (n : Nat) (ts : List Tie) (F : List Nat) : List Nat := roots n (marksBy n ts F)
def rho (n : Nat) (ts : List Tie) (F : List Nat) (v : Nat) : Nat := (names n ts F).idxOf ((marksBy n ts F).getD v 0)
def countsOf (n : Nat) (ts : List Tie) (F X : List Nat) : List Nat := (List.range ts.length).filter fun i => decide (i ∉ F) && (decide (i ∉ X) && decide ((marksBy n ts F).getD (ts.getD i (0, 0)).1 0 ≠ (marksBy n ts F).getD (ts.getD i (0, 0)).2 0))
def pairOf (n : Nat) (ts : List Tie) (F : List Nat) (t : Tie) : Tie := (min (rho n ts F t.1) (rho n ts F t.2), max (rho n ts F t.1) (rho n ts F t.2))
def freeOf (n : Nat) (ts : List Tie) (F X : List Nat) : List Tie := (countsOf n ts F X).map fun i => pairOf n ts F (ts.getD i (0, 0))

section
variable {n : Nat} {ts : List Tie} {F X : List Nat}

theorem mk_getD (hW : Web n ts) (hF : ∀ i ∈ F, i < ts.length) {v : Nat} (hv : v < n) : (marksBy n ts F)[v]? = some ((marksBy n ts F).getD v 0) := by
  obtain ⟨m, hm, _⟩ := (marksBy_ok hW F hF).get hv
  rw [hm, getD_of hm]
theorem mark_name (hW : Web n ts) (hF : ∀ i ∈ F, i < ts.length) {v : Nat} (hv : v < n) : (marksBy n ts F).getD v 0 ∈ names n ts F :=
  (marksBy_ok hW F hF).mem_roots.mpr (List.mem_of_getElem? (mk_getD hW hF hv))
theorem rho_lt (hW : Web n ts) (hF : ∀ i ∈ F, i < ts.length) {v : Nat} (hv : v < n) : rho n ts F v < (names n ts F).length := List.idxOf_lt_length_of_mem (mark_name hW hF hv)
theorem idx_inj {l : List Nat} {a b : Nat} (ha : a ∈ l) (h : l.idxOf a = l.idxOf b) : a = b := by
  have h1 : l.idxOf a < l.length := List.idxOf_lt_length_of_mem ha
  have e1 := List.getElem_idxOf h1
  have h2 : l.idxOf b < l.length := h ▸ h1
  have e2 := List.getElem_idxOf h2
  rw [← e1, ← e2]
  congr 1
theorem mark_conn (hW : Web n ts) (hF : ∀ i ∈ F, i < ts.length) {u v : Nat} (hu : u < n) (hv : v < n) : (marksBy n ts F).getD u 0 = (marksBy n ts F).getD v 0 ↔ Conn ts (· ∈ F) u v := by
  rw [← (marksBy_ok hW F hF).conn hu hv, mk_getD hW hF hu, mk_getD hW hF hv]
  exact ⟨fun h => by rw [h], fun h => Option.some.inj h⟩
theorem rho_conn (hW : Web n ts) (hF : ∀ i ∈ F, i < ts.length) {u v : Nat} (hu : u < n) (hv : v < n) : rho n ts F u = rho n ts F v ↔ Conn ts (· ∈ F) u v := by
  rw [← mark_conn hW hF hu hv]
  exact ⟨fun h => idx_inj (mark_name hW hF hu) h, fun h => by unfold rho; rw [h]⟩
theorem rho_sur (hW : Web n ts) (hF : ∀ i ∈ F, i < ts.length) {j : Nat} (hj : j < (names n ts F).length) : ∃ v, v < n ∧ rho n ts F v = j := by
  have hm : (names n ts F)[j] ∈ names n ts F := List.getElem_mem hj
  obtain ⟨h1, h2⟩ := mem_roots.mp hm
  refine ⟨_, h1, ?_⟩
  unfold rho
  rw [getD_of h2]
  exact List.Nodup.idxOf_getElem roots_nodup j hj

theorem mem_counts (hW : Web n ts) (hF : ∀ i ∈ F, i < ts.length) {i : Nat} : i ∈ countsOf n ts F X ↔ ∃ t, ts[i]? = some t ∧ i ∉ F ∧ i ∉ X ∧ ¬ Conn ts (· ∈ F) t.1 t.2 := by
  unfold countsOf
  rw [List.mem_filter, List.mem_range, Bool.and_eq_true, Bool.and_eq_true, decide_eq_true_iff, decide_eq_true_iff, decide_eq_true_iff]
  constructor
  · rintro ⟨h1, h2, h3, h4⟩
    have ht := getD_tie h1
    have hw := hW.at ht
    exact ⟨_, ht, h2, h3, fun q => h4 ((mark_conn hW hF hw.1 hw.2.1).mpr q)⟩
  · rintro ⟨t, h1, h2, h3, h4⟩
    have hl := (List.getElem?_eq_some_iff.mp h1).1
    have e : ts.getD i (0, 0) = t := by
      rw [List.getD_eq_getElem?_getD, h1]
      rfl
    have hw := hW.at h1
    exact ⟨hl, h2, h3, fun q => h4 ((mark_conn hW hF hw.1 hw.2.1).mp (by rw [e] at q; exact q))⟩
theorem free_len : (freeOf n ts F X).length = (countsOf n ts F X).length := by
  unfold freeOf
  rw [List.length_map]
theorem counts_len : (countsOf n ts F X).length ≤ ts.length := by
  have := List.length_filter_le (fun i => decide (i ∉ F) && (decide (i ∉ X) && decide ((marksBy n ts F).getD (ts.getD i (0, 0)).1 0 ≠ (marksBy n ts F).getD (ts.getD i (0, 0)).2 0))) (List.range ts.length)
  rw [List.length_range] at this
  exact this
theorem free_at (hW : Web n ts) (hF : ∀ i ∈ F, i < ts.length) {j : Nat} {p : Tie} (h : (freeOf n ts F X)[j]? = some p) : ∃ i t, (countsOf n ts F X)[j]? = some i ∧ ts[i]? = some t ∧ p = pairOf n ts F t ∧ rho n ts F t.1 ≠ rho n ts F t.2 := by
  unfold freeOf at h
  rw [List.getElem?_map] at h
  cases e : (countsOf n ts F X)[j]? with
  | none => rw [e] at h; cases h
  | some i =>
    rw [e] at h
    obtain ⟨t, h1, h2, h3, h4⟩ := (mem_counts hW hF).mp (List.mem_of_getElem? e)
    have et : ts.getD i (0, 0) = t := by
      rw [List.getD_eq_getElem?_getD, h1]
      rfl
    have hw := hW.at h1
    refine ⟨i, t, rfl, h1, ?_, fun q => h4 ((rho_conn hW hF hw.1 hw.2.1).mp q)⟩
    rw [← Option.some.inj h]
    show pairOf n ts F (ts.getD i (0, 0)) = _
    rw [et]
theorem free_web (hW : Web n ts) (hF : ∀ i ∈ F, i < ts.length) : Web (names n ts F).length (freeOf n ts F X) := by
  intro p hp
  obtain ⟨j, hj⟩ := List.getElem?_of_mem hp
  obtain ⟨i, t, _, h1, rfl, hne⟩ := free_at hW hF hj
  have hw := hW.at h1
  have r1 := rho_lt hW hF hw.1
  have r2 := rho_lt hW hF hw.2.1
  show min _ _ < max _ _ ∧ max _ _ < _
  omega
theorem names_pos (hW : Web n ts) (hn : 0 < n) (hF : ∀ i ∈ F, i < ts.length) : 0 < (names n ts F).length := comps_pos hW hn hF
theorem names_le (hW : Web n ts) (hF : ∀ i ∈ F, i < ts.length) : (names n ts F).length ≤ n := by
  have := List.length_filter_le (fun v => (marksBy n ts F)[v]? == some v) (List.range n)
  rw [List.length_range] at this
  exact this
/-- one group alone -/
theorem one_group (hW : Web n ts) (hn : 0 < n) (hF : ∀ i ∈ F, i < ts.length) : (names n ts F).length = 1 ↔ AllC n ts (· ∈ F) := by
  rw [← marks_all hW hn hF]
  exact ⟨fun h => marks_zero hW hn hF h, fun h => comps_zero hn h⟩

/-- a way in what is left is a way in the web -/
theorem conn_up (hW : Web n ts) (hF : ∀ i ∈ F, i < ts.length) {S : Nat → Prop} {a b : Nat} (h : Conn (freeOf n ts F X) S a b) : ∀ u v, u < n → v < n → rho n ts F u = a → rho n ts F v = b →
    Conn ts (fun i => i ∈ F ∨ ∃ j, S j ∧ (countsOf n ts F X)[j]? = some i) u v := by
  induction h with
  | refl => exact fun u v hu hv e1 e2 => ((rho_conn hW hF hu hv).mp (e1.trans e2.symm)).mono fun i hi => .inl hi
  | @step b c p j _ hs hp he ih =>
    intro u v hu hv e1 e2
    obtain ⟨i, t, hj, ht, rfl, hne⟩ := free_at hW hF hp
    have hw := hW.at ht
    have tie : Conn ts (fun i => i ∈ F ∨ ∃ j, S j ∧ (countsOf n ts F X)[j]? = some i) t.1 t.2 := .one (.inr ⟨j, hs, hj⟩) ht (.inl ⟨rfl, rfl⟩)
    have ends : (rho n ts F t.1 = b ∧ rho n ts F t.2 = c) ∨ (rho n ts F t.1 = c ∧ rho n ts F t.2 = b) := by
      have : (min (rho n ts F t.1) (rho n ts F t.2) = b ∧ max (rho n ts F t.1) (rho n ts F t.2) = c) ∨ (min (rho n ts F t.1) (rho n ts F t.2) = c ∧ max (rho n ts F t.1) (rho n ts F t.2) = b) := he
      omega
    rcases ends with ⟨f1, f2⟩ | ⟨f1, f2⟩
    · exact ((ih u t.1 hu hw.1 e1 f1).trans tie).trans (((rho_conn hW hF hw.2.1 hv).mp (f2.trans e2.symm)).mono fun i hi => .inl hi)
    · exact ((ih u t.2 hu hw.2.1 e1 f2).trans tie.symm).trans (((rho_conn hW hF hw.1 hv).mp (f1.trans e2.symm)).mono fun i hi => .inl hi)

theorem counts_nodup : (countsOf n ts F X).Nodup := List.nodup_range.filter _
theorem held_of_trees (hW : Web n ts) (hn : 0 < n) (hF : ∀ i ∈ F, i < ts.length) (h : Has (names n ts F).length (freeOf n ts F X) 2) : HeldP n ts F X := by
  obtain ⟨tss, hT⟩ := h
  obtain ⟨t1, t2, rfl⟩ : ∃ t1 t2, tss = [t1, t2] := by
    match tss, hT.len with
    | [t1, t2], _ => exact ⟨t1, t2, rfl⟩
  have W := free_web (X := X) hW hF
  have np := names_pos hW hn hF
  have one : ∀ t ∈ [t1, t2], AllC n ts fun i => i ∈ F ∨ ∃ j, j ∈ t ∧ (countsOf n ts F X)[j]? = some i := fun t ht u v hu hv => by
    obtain ⟨_, h2, h3⟩ := hT.one t ht
    have := (marks_all W np h2).mp h3
    exact conn_up hW hF (this _ _ (rho_lt hW hF hu) (rho_lt hW hF hv)) u v hu hv rfl rfl
  refine ⟨fun i => ∃ j, j ∈ t1 ∧ (countsOf n ts F X)[j]? = some i, fun i => ∃ j, j ∈ t2 ∧ (countsOf n ts F X)[j]? = some i, ?_, ?_, ?_, one t1 List.mem_cons_self, one t2 (List.mem_cons_of_mem _ List.mem_cons_self)⟩
  · rintro i ⟨j, hj, e1⟩ ⟨j', hj', e2⟩
    have hl := (List.getElem?_eq_some_iff.mp e1).1
    have : j = j' := (List.getElem?_inj hl counts_nodup).mp (e1.trans e2.symm)
    subst this
    have nd := hT.nd
    simp only [List.flatten_cons, List.flatten_nil, List.append_nil] at nd
    rw [List.nodup_append] at nd
    exact nd.2.2 j hj j hj' rfl
  · rintro i ⟨j, _, e⟩ hx
    obtain ⟨_, _, _, h3, _⟩ := (mem_counts hW hF).mp (List.mem_of_getElem? e)
    exact h3 hx
  · rintro i ⟨j, _, e⟩ hx
    obtain ⟨_, _, _, h3, _⟩ := (mem_counts hW hF).mp (List.mem_of_getElem? e)
    exact h3 hx

/-- the counts that lead across groups of groups -/
def betweenOf (n : Nat) (ts : List Tie) (F X : List Nat) (gs : List (List Nat)) : List Nat := (countsOf n ts F X).filter fun i => decide (homeOf gs (pairOf n ts F (ts.getD i (0, 0))).1 ≠ homeOf gs (pairOf n ts F (ts.getD i (0, 0))).2)
theorem between_len {gs : List (List Nat)} : (crossing (freeOf n ts F X) gs).length = (betweenOf n ts F X gs).length := by
  unfold crossing freeOf betweenOf
  rw [List.filter_map, List.length_map]
  rfl
theorem mem_between (hW : Web n ts) (hF : ∀ i ∈ F, i < ts.length) {gs : List (List Nat)} {i : Nat} : i ∈ betweenOf n ts F X gs ↔ i ∈ crossN ts X (fun v => homeOf gs (rho n ts F v)) ∧ i ∈ countsOf n ts F X := by
  have hp : ∀ t : Tie, (homeOf gs (pairOf n ts F t).1 ≠ homeOf gs (pairOf n ts F t).2) ↔ (homeOf gs (rho n ts F t.1) ≠ homeOf gs (rho n ts F t.2)) := fun t => by
    show (homeOf gs (min _ _) ≠ homeOf gs (max _ _)) ↔ _
    rcases Nat.le_total (rho n ts F t.1) (rho n ts F t.2) with h | h
    · rw [Nat.min_eq_left h, Nat.max_eq_right h]
    · rw [Nat.min_eq_right h, Nat.max_eq_left h]
      exact ⟨fun a b => a b.symm, fun a b => a b.symm⟩
  unfold betweenOf
  rw [List.mem_filter, decide_eq_true_iff, hp]
  constructor
  · rintro ⟨h1, h2⟩
    obtain ⟨t, ht, h3, h4, _⟩ := (mem_counts hW hF).mp h1
    have et : ts.getD i (0, 0) = t := by
      rw [List.getD_eq_getElem?_getD, ht]
      rfl
    rw [et] at h2
    exact ⟨mem_crossN.mpr ⟨t, ht, h4, h2⟩, h1⟩
  · rintro ⟨h1, h2⟩
    obtain ⟨t, ht, _, h3⟩ := mem_crossN.mp h1
    have et : ts.getD i (0, 0) = t := by
      rw [List.getD_eq_getElem?_getD, ht]
      rfl
    exact ⟨h2, by rw [et]; exact h3⟩
theorem cross_counts (hW : Web n ts) (hF : ∀ i ∈ F, i < ts.length) {gs : List (List Nat)} {i : Nat} (h : i ∈ crossN ts X (fun v => homeOf gs (rho n ts F v))) : i ∈ countsOf n ts F X := by
  obtain ⟨t, ht, hx, hne⟩ := mem_crossN.mp h
  have hw := hW.at ht
  have hnc : ¬ Conn ts (· ∈ F) t.1 t.2 := fun q => hne (by rw [(rho_conn hW hF hw.1 hw.2.1).mpr q])
  exact (mem_counts hW hF).mpr ⟨t, ht, fun q => hnc (.one q ht (.inl ⟨rfl, rfl⟩)), hx, hnc⟩
theorem between_nodup {gs : List (List Nat)} : (betweenOf n ts F X gs).Nodup := counts_nodup.filter _
theorem cross_len (hW : Web n ts) (hF : ∀ i ∈ F, i < ts.length) {gs : List (List Nat)} : (crossN ts X (fun v => homeOf gs (rho n ts F v))).length = (betweenOf n ts F X gs).length :=
  len_eq_of_iff crossN_nodup between_nodup fun i => by
    rw [mem_between hW hF]
    exact ⟨fun h => ⟨h, cross_counts hW hF h⟩, fun h => h.1⟩
theorem split_of_parts (hW : Web n ts) (hF : ∀ i ∈ F, i < ts.length) {gs : List (List Nat)} (h : GoodParts (names n ts F).length (freeOf n ts F X) 2 gs) : Split n ts F (fun v => homeOf gs (rho n ts F v)) gs.length := by
  have nd : gs.flatten.Nodup := h.perm.nodup_iff.mpr List.nodup_range
  refine ⟨fun v hv => ?_, fun j hj => ?_, fun i t hi ht => ?_⟩
  · exact mem_flatten_home (h.perm.mem_iff.mpr (List.mem_range.mpr (rho_lt hW hF hv)))
  · have hg : gs[j]? = some gs[j] := List.getElem?_eq_getElem hj
    have hne := h.ne gs[j] (List.getElem_mem hj)
    obtain ⟨a, ha⟩ : ∃ a, a ∈ gs[j] := by
      cases e : gs[j] with
      | nil => exact absurd e hne
      | cons a r => exact ⟨a, List.mem_cons_self⟩
    have haf : a ∈ gs.flatten := List.mem_flatten.mpr ⟨_, List.getElem_mem hj, ha⟩
    obtain ⟨v, hv, hva⟩ := rho_sur hW hF (List.mem_range.mp (h.perm.mem_iff.mp haf))
    exact ⟨v, hv, by show homeOf gs (rho n ts F v) = j; rw [hva]; exact home_of_mem nd hg ha⟩
  · have hw := hW.at ht
    show homeOf gs _ = homeOf gs _
    rw [(rho_conn hW hF hw.1 hw.2.1).mpr (.one hi ht (.inl ⟨rfl, rfl⟩))]
theorem parted_of_parts (hW : Web n ts) (hF : ∀ i ∈ F, i < ts.length) {gs : List (List Nat)} (h : GoodParts (names n ts F).length (freeOf n ts F X) 2 gs) : Parted' n ts F X 0 := by
  refine ⟨_, _, split_of_parts hW hF h, ?_⟩
  rw [cross_len hW hF, ← between_len]
  exact h.few
/-- the told tie cut: whatever is made fast, it stays parted -/
theorem told_cut (hW : Web n ts) (hF : ∀ i ∈ F, i < ts.length) {gs : List (List Nat)} (h : GoodParts (names n ts F).length (freeOf n ts F X) 2 gs) {e : Nat} (he : e ∈ betweenOf n ts F X gs) : Parted' n ts F (X ++ [e]) 1 := by
  refine ⟨_, _, split_of_parts hW hF h, ?_⟩
  have h1 := cross_cut ((mem_between hW hF).mp he).1
  have h2 := h.few
  rw [between_len, ← cross_len hW hF] at h2
  omega
theorem told_none (hW : Web n ts) (hF : ∀ i ∈ F, i < ts.length) {gs : List (List Nat)} (h : GoodParts (names n ts F).length (freeOf n ts F X) 2 gs) (he : betweenOf n ts F X gs = []) : Parted' n ts F X 1 := by
  refine ⟨_, _, split_of_parts hW hF h, ?_⟩
  have h2 := h.few
  rw [between_len, he] at h2
  rw [cross_len hW hF, he]
  simp at h2 ⊢
  omega
end
end Jp
end
section
set_option Elab.async false
set_option linter.all false
set_option maxRecDepth 100000
set_option maxHeartbeats 4000000
namespace Jp
open PySem PySem.Spec PyProof.Rows L2
section
variable {X : Cx} {a b c d : Expr} {ta tb tc td : TE} {pos : Pos}

/-- a op1 b op2 c op3 d, as a value -/
def tChain3 (r1 r2 r3 : R2) (ta tb tc td : TE) : TE := fun σ H Q => ta σ H fun x H1 => tb σ H1 fun y H2 => r1 x y H2 fun z H3 => ∃ k, z = .bl k ∧
  (if k = true then tc σ H3 fun x' H4 => r2 y x' H4 fun z' H5 => ∃ k', z' = .bl k' ∧ (if k' = true then td σ H5 fun y' H6 => r3 x' y' H6 Q else Q (.bl false) H5) else Q (.bl false) H3)
theorem pe_chain3 {o1 o2 o3 : CmpOp} {r1 r2 r3 : R2} (h1 : OpR X (compareOp o1) r1) (h2 : OpR X (compareOp o2) r2) (h3 : OpR X (compareOp o3) r3) (ha : PE X a ta) (hb : PE X b tb) (hc : PE X c tc) (hd : PE X d td)
    (hm : lastMarks [o1, o2, o3] [b, c, d] = false := by with_unfolding_all rfl) : PE X (.Compare a [o1, o2, o3] [b, c, d] pos) (tChain3 r1 r2 r3 ta tb tc td) := by
  refine ⟨fun pins s σ H Q I h => ?_⟩
  refine Compare_chain ?_ hm
  refine thn (ha.run pins s σ H _ I h) fun v s1 ⟨x, H1, I1, g1, q1⟩ => chain_link ?_
  refine thn (hb.run pins s1 σ H1 _ I1 q1) fun u s2 ⟨y, H2, I2, g2, q2⟩ => ?_
  refine thn (h1 pins s2 σ H2 x y v u _ I2 g1 g2 q2) fun _ s3 ⟨z, H3, I3, g3, k, e, q3⟩ => ?_
  subst e
  cases g3
  refine wpAny_truthy_bool ?_
  cases k with
  | false => exact ite_ff ⟨.bl false, H3, I3, rfl, q3⟩
  | true =>
    refine ite_tt (chain_link ?_)
    refine thn (hc.run pins s3 σ H3 _ I3 q3) fun v' s4 ⟨x', H4, I4, g4, q4⟩ => ?_
    refine thn (h2 pins s4 σ H4 y x' u v' _ I4 g2 g4 q4) fun _ s5 ⟨z', H5, I5, g5, k', e', q5⟩ => ?_
    subst e'
    cases g5
    refine wpAny_truthy_bool ?_
    cases k' with
    | false => exact ite_ff ⟨.bl false, H5, I5, rfl, q5⟩
    | true => exact ite_tt (chain_last (thn (hd.run pins s5 σ H5 _ I5 q5) fun u' s6 ⟨y', H6, I6, g6, q6⟩ => h3 pins s6 σ H6 x' y' v' u' Q I6 g4 g6 q6))

/-- * of two factors of together less than a hundred million bits -/
def CMulX (i j : Int) : Prop := i.natAbs.log2 + j.natAbs.log2 < 100000000
theorem CMulX.ok {i j : Int} (h : CMulX i j) : IntMulOk i j := by
  have b : ∀ x : Int, Builtin.Int.intBits x ≤ x.natAbs.log2 + 1 := fun x => by
    unfold Builtin.Int.intBits
    split <;> omega
  have g1 := b i
  have g2 := b j
  have g3 : i.natAbs.log2 + j.natAbs.log2 < 100000000 := h
  have e : bitsLine = 134217728 := by decide
  unfold IntMulOk
  intro z
  rw [Bool.and_eq_true] at z
  have z2 := z.2
  unfold Builtin.Int.intTooBig at z2
  have z3 := of_decide_eq_true z2
  rw [e] at z3
  omega
theorem op_mulX : OpR X (binaryOp .Mult) (rI CMulX fun i j => .int (i * j)) := opI fun _ _ _ _ _ _ _ hc q => mul_int q hc.ok
theorem wide_mulX {i j : Int} {m n : Nat} (ha : i.natAbs < 2 ^ m) (hb : j.natAbs < 2 ^ n) (h0 : 0 < m) (h1 : 0 < n) (h : m + n ≤ 100000000) : CMulX i j := by
  have x := PySem.Flt.log2_lt_of h0 ha
  have y := PySem.Flt.log2_lt_of h1 hb
  unfold CMulX
  omega

/-- all(xs), xs a list of data -/
def rAllD (K : PySem.W.Frag) : List V → Hp → VK → Prop := fun vs H Q => ∃ (p : Addr) (xs : List V) (ds : List PyData), vs = [V.ref p] ∧ SqL K H p xs ∧ DpAll K H xs ds ∧ PyData.plainAll ds = true ∧ (∀ d ∈ ds, d.fits63) ∧ Q (.bl (ds.all PyData.truthy)) H
theorem cr_allD (hc : X.calm = true) : CallR X (.builtin "all") (rAllD X.K) := by
  intro pins s σ H vs us Q I r h
  obtain ⟨p, xs, ds, rfl, hs, hd, hp, hf, q⟩ := h
  obtain ⟨its, rv, hl, _⟩ := I.list hs
  rw [Vals.ref1 r]
  obtain ⟨as, hr⟩ := Dp.readsAll I ds _ its hd rv
  refine PySem.W.all_list_data (I.ok.hd hc) hl.isList (by simpa using hr) hp hf fun h' tk hk => ?_
  exact ⟨.bl _, H, I.kept hk, rfl, q⟩

/-- len(x), x a set of ints -/
def rLenS (w : World) : List V → Hp → VK → Prop := fun vs H Q => ∃ (p : Addr) (S : Int → Bool) (n : Nat), vs = [V.ref p] ∧ H p = some (SetO w p S n) ∧ n ≤ 100000 ∧ Q (.int (n : Int)) H
theorem cr_lenS : CallR X (.builtin "len") (rLenS X.w) := by
  intro pins s σ H vs us Q I r h
  obtain ⟨p, S, n, rfl, hS, hn, q⟩ := h
  rw [Vals.ref1 r]
  obtain ⟨o, es, ep, t, ho, hex, hd, _, _, _, _, hf, he, _⟩ := setO_get I hS
  exact call_len_set ho hex hd hf (by rw [he] <;> omega) ⟨.int n, H, I.tok _, ⟨_, by rw [he]⟩, q⟩
end
end Jp
end
section
set_option Elab.async false
set_option linter.all false
set_option maxRecDepth 100000
set_option maxHeartbeats 8000000
namespace Jp
open PySem PySem.Spec PyProof.Rows L2
/-- a new set -/
abbrev set0 (w : World) : Obj := { cls := .type "set", dict := none, data := .set #[] 0 (.fresh 0 0 (!w.params.followText "set-order")) }
section
variable {P : Program} {w : World} {A : Around} {E : Value → Shared → Prop} {s : Shared}
theorem set_of_list {l : Addr} {items : Array Value} (ns : List Int) {Q : Value → Shared → Prop} (hh : A.handled = none) (hl : s.heap.IsList l items) (hit : IntsAre items.toList ns) (hb : ns.length + 1 < scanBound)
    (fin : ∀ (h' : Heap) (tk c : Nat), SetR w h' s.heap.objs.size (fun j => decide (j ∈ ns)) c → c ≤ ns.length → (∀ b o, s.heap.get? b = some o → h'.get? b = some o) → Q (.ref s.heap.objs.size) { s with heap := h', toks := tk }) :
    wpAny (model P w) A (call (.type "set") [.ref l]) Q E s := by
  have many : items.size = ns.length := (Array.length_toList (xs := items)).symm.trans (IntsAre.length hit)
  obtain ⟨c, tl, hmro⟩ := F.called_set.mro
  have g1 := F.called_set.made
  have g2 := F.called_set.sub
  have g3 := F.called_set.notType
  have g4 := F.called_set.canCreate
  have g5 := F.typeCall_set_1 (.ref l)
  refine wpAny_call (codeAny_of_tree ?_)
  show wpAny _ _ (callAny (.type "set") _) _ _ _
  refine wpAny_pure ⟨Code.quiet_builtin _ (by decide +kernel), codeAny_builtin F.entry_type_call ?_⟩
  rw [Around.under_plain (weight_type_call_type "set" [.ref l] []) rfl]
  repeat (any_goals (first | assumption | wp_step))
  refine codeAny_mono (code_set_led1 (.ref l) (E := E) (Q₁ := fun obj t => obj = .ref s.heap.objs.size ∧ t = { s with heap := s.heap.push (set0 w) }) ⟨rfl, rfl⟩) fun r t hr => ?_
  cases r with
  | error e => exact hr
  | ok fl =>
    cases fl with
    | ret obj =>
      obtain ⟨rfl, rfl⟩ := hr
      have at0 : (s.heap.push (set0 w)).get? s.heap.objs.size = some (set0 w) := Heap.get?_push_size _ rfl
      have ty0 : Shared.TypeIs { s with heap := s.heap.push (set0 w) } (.ref s.heap.objs.size) "set" := ⟨_, at0, rfl⟩
      have g6 := F.called_set.init.lookup
      have g7 := F.called_set.init.bind (.ref s.heap.objs.size)
      repeat (any_goals (first | assumption | wp_step))
      refine codeAny_mono (codeAny_call_builtin (R := wants (fun r s₂ => r = .none ∧ ∃ h' tk c, s₂ = { s with heap := h', toks := tk } ∧ SetR w h' s.heap.objs.size (fun j => decide (j ∈ ns)) c ∧ c ≤ ns.length ∧
          (∀ b o, s.heap.get? b = some o → h'.get? b = some o)) E) F.called_set.init.plain F.entry_set_init (check_set_init_1 ty0 ?_)) fun r₂ s₂ hr₂ => ?_
      · obtain ⟨⟨cl, di, da, sl⟩, hol, hcl, nl, hda⟩ := hl
        simp only at hcl hda
        subst hcl; subst hda
        have lst0 : (s.heap.push (set0 w)).IsList l items := ⟨_, Heap.get?_push_of_some _ hol, rfl, nl, rfl⟩
        have hol' : (s.heap.push (set0 w)).get? l = some { cls := .type "list", dict := di, data := .seq items nl, slots := sl } := Heap.get?_push_of_some _ hol
        have g8 := F.sub_list_set
        have g9 := F.sub_list_frozenset
        have g10 : (Value.type "list" == Value.type "dict") = false := by decide
        unfold Builtin.«set.__init__» noKeywords Builtin.Frozenset.updateFrom
        generalize hPI : pyIter = PI
        wp_walk
        subst hPI
        refine wpAny_pyIter_list lst0 ?_
        refine wpAny_bind (wpAny_runValue ?_)
        have lt0 : l < s.heap.objs.size := Heap.lt_size hol
        have hh3 : A.in1.in1.in1.handled = none := by simp [hh]
        have neI : l ≠ (s.heap.push (set0 w)).objs.size := by
          rw [Heap.size_push]
          exact Nat.ne_of_lt (Nat.lt_succ_of_lt lt0)
        have nin : s.heap.objs.size ∉ [(s.heap.push (set0 w)).objs.size, l] := by
          rw [Heap.size_push]
          simp only [List.mem_cons, List.not_mem_nil, or_false, not_or]
          exact ⟨Nat.ne_of_lt (Nat.lt_succ_self _), Nat.ne_of_gt lt0⟩
        have val : ∀ (i : Nat) (v : Value), items[i]? = some v → ∃ k t, ns[i]? = some k ∧ v = .int k t := fun i v hv => by
          have hi : i < ns.length := by
            rw [← many]
            exact (Array.getElem?_eq_some_iff.mp hv).1
          obtain ⟨t, e⟩ := PyProof.Rows.IntsAre.int_at hit i v (by rw [Array.getElem?_toList]; exact hv)
          refine ⟨ns[i], t, List.getElem?_eq_getElem hi, ?_⟩
          rw [e, List.getD_eq_getElem?_getD, List.getElem?_eq_getElem hi]
          rfl
        refine set_update_ints ((Walks.list hh3 _ l neI items).toS) s.heap.objs.size nin ns many hb val (items.size - 0) 0 _ (by omega) (Nat.zero_le _) ⟨⟨_, Heap.get?_push_size _ rfl, rfl, rfl⟩, (lst0.push _)⟩ ?h0 ?h1
        case h0 => exact ⟨0, Nat.le_refl 0, setR_new_at (Heap.get?_push_of_some _ at0)⟩
        case h1 =>
          intro s' c' hm hc' hS'
          obtain ⟨h', g', d', tk', os'⟩ := s'
          have eg : g' = s.gens := hm.gens
          have ed : d' = s.drawn := hm.drawn
          have eo : os' = s.os := hm.os
          subst eg; subst ed; subst eo
          show wpAny _ _ _ _ _ _
          refine wpAny_pure ?_
          show wpAny _ _ (ret Value.none) _ _ _
          rw [many] at hc'
          refine wpAny_pure ⟨rfl, h', tk', c', rfl, hS', hc', fun b o e => ?_⟩
          have blt : b < s.heap.objs.size := Heap.lt_size e
          have nb : b ≠ (s.heap.push (set0 w)).objs.size := by
            rw [Heap.size_push]
            exact Nat.ne_of_lt (Nat.lt_succ_of_lt blt)
          exact hm.heap b o (by simp only [List.mem_cons, List.not_mem_nil, or_false, not_or]; exact ⟨Nat.ne_of_lt blt, nb⟩) (Heap.get?_push_of_some _ (Heap.get?_push_of_some _ e))
      · cases r₂ with
        | error e => exact hr₂
        | ok fl₂ =>
          cases fl₂ with
          | ret r =>
            obtain ⟨rfl, h', tk, c', rfl, hS', hc', hk'⟩ := hr₂
            repeat (any_goals (first | assumption | wp_step))
            exact fin _ _ _ hS' hc' hk'
          | _ => exact hr₂.elim
    | _ => exact hr.elim
end
section
variable {X : Cx}
/-- set(xs), xs a list of ints: a new set, as many as there are unlike ones -/
def rSetL (K : PySem.W.Frag) (w : World) : List V → Hp → VK → Prop := fun vs H Q => ∃ (l : Addr) (ns : List Int), vs = [V.ref l] ∧ SqL K H l (ns.map V.int) ∧ ns.length < 4000 ∧
  ∀ (p : Addr) (ks : List Int), ks.Nodup → (∀ k, k ∈ ks ↔ k ∈ ns) → H p = none → Q (.ref p) (upd H p (SetO w p (fun j => decide (j ∈ ns)) ks.length))
theorem cr_setL (hc : X.calm = true) : CallR X (.type "set") (rSetL X.K X.w) := by
  intro pins s σ H xs us Q I r h
  obtain ⟨l, ns, rfl, hl, hz, q⟩ := h
  rw [Vals.ref1 r]
  obtain ⟨its, rv, pl, _⟩ := I.list hl
  have hn : H s.heap.objs.size = none := I.hok.fresh (Nat.le_refl _)
  refine set_of_list (P := X.prog) (w := X.w) ns (I.ok.hd hc) pl.isList (by simpa using ints_of_vals rv) (Nat.lt_of_lt_of_le (by omega : ns.length + 1 < 4096) (by decide)) fun h' tk c R _ k => ?_
  have ⟨o, es, ep, t, ho, _, _, _, nd, hm, _, _, he, _⟩ := R
  have e : (es.toList.map keyOf).length = c := by rw [List.length_map, Array.length_toList, he]
  have q1 := q s.heap.objs.size (es.toList.map keyOf) nd (fun k => by rw [← hm k]; exact decide_eq_true_iff) hn
  rw [e] at q1
  exact ⟨.ref s.heap.objs.size, _, I.laid (t' := tk) k (Nat.le_refl _) (setO_new R), rfl, q1⟩
end
end Jp
end
section
set_option Elab.async false
set_option linter.all false
set_option maxRecDepth 100000
set_option maxHeartbeats 4000000
namespace MinD
open PySem PySem.Spec PySem.Calls PyProof.Rows
/-- what is held after i turns -/
def Kept (bt : Nat → Nat → Bool) (P : Nat → Value → Prop) (i : Nat) (xs : Array Value) : Prop := (i = 0 ∧ xs = #[]) ∨ ∃ j v, i = j + 1 ∧ xs = #[v, v] ∧ P (argBest bt j) v
def Ans (bt : Nat → Nat → Bool) (P : Nat → Value → Prop) (n : Nat) (d r : Value) : Prop := (n = 0 ∧ r = d) ∨ (0 < n ∧ P (argBest bt (n - 1)) r)
section
variable {prog : Program} {w : World} {A : Around} {R : Result → Shared → Prop} {I : Addr} {fp wr : List Addr} {n : Nat} {P : Nat → Value → Prop} {St : Nat → Heap → Prop} {d : Value}
theorem nm : (toString "min" ++ toString ".loop" : String) = "min.loop" := by decide
theorem go (V : Walks prog w A.in1 I fp wr n P St) (bt : Nat → Nat → Bool) (cmp : CmpOf prog w A.in1 .Lt P bt) (S : Addr) (nS : S ∉ fp) : ∀ (k i : Nat) (s : Shared) (xs : Array Value) (c : Nat), n - i = k → i ≤ n → St i s.heap → Kept bt P i xs →
    s.heap.get? S = some { cls := .type "list", dict := none, data := .seq xs c, slots := #[] } →
    (∀ r h' tk, Ans bt P n d r → (∀ b o, b ∉ wr → b ≠ S → s.heap.get? b = some o → h'.get? b = some o) → R (.ok (.ret r)) { s with heap := h', toks := tk }) →
    codeAny (model prog w) A (.builtin "min.loop" ⟨[.ref I, .none, .ref S], [("default", d)]⟩) R s := by
  have nW : S ∉ wr := fun q => nS (V.sub _ q)
  intro k
  induction k with
  | zero =>
    intro i s xs c hk hi st kp lS out
    obtain rfl : i = n := by omega
    refine codeAny_builtin F.entry_min_loop ?_; rw [Around.under_plainId F.plain_min_loop _]
    show wpAny _ A.in1 (seqItems? (.ref S) >>= _) _ _ s; refine wpAny_bind (wpAny_seqItems lS rfl ?_)
    show wpAny _ A.in1 (tryCatch (pyNext (.ref I)) _ >>= _) _ _ s; refine wpAny_bind (wpAny_tryCatch (V.done s _ _ st fun h2 t2 k2 => ?_))
    have lS2 := k2 S _ nW lS
    rcases kp with ⟨rfl, rfl⟩ | ⟨j, v, rfl, rfl, hv⟩
    · exact wpAny_bind (wpAny_rule (wpAny_pure (out d _ t2 (.inl ⟨rfl, rfl⟩) fun b o hb _ e => k2 b o hb e)))
    · show wpAny _ A.in1 (updateSeq S (fun _ => #[]) >>= _) _ _ _; refine wpAny_bind (wpAny_updateSeq lS2 rfl (wpAny_bind (wpAny_letGo (wpAny_pure ?_))))
      exact out v _ t2 (.inr ⟨Nat.succ_pos _, hv⟩) fun b o hb hbS e => (Heap.get?_update_other _ _ (Ne.symm hbS)).trans (k2 b o hb e)
  | succ k ih =>
    intro i s xs c hk hi st kp lS out
    have lt : i < n := by omega
    refine codeAny_builtin F.entry_min_loop ?_; rw [Around.under_plainId F.plain_min_loop _]
    show wpAny _ A.in1 (seqItems? (.ref S) >>= _) _ _ s; refine wpAny_bind (wpAny_seqItems lS rfl ?_)
    show wpAny _ A.in1 (tryCatch (pyNext (.ref I)) _ >>= _) _ _ s; refine wpAny_bind (wpAny_tryCatch (V.item i s _ _ lt st fun v h2 t2 hP st2 k2 => ?_))
    have lS2 := k2 S _ nW lS
    rcases kp with ⟨rfl, rfl⟩ | ⟨j, u, rfl, rfl, hu⟩
    · show wpAny _ A.in1 (updateSeq S (fun _ => #[v, v]) >>= _) _ _ _
      refine wpAny_bind (wpAny_updateSeq lS2 rfl ?_); rw [nm]
      refine wpAny_pure ⟨plainId_quiet F.plain_min_loop _, ih 1 _ #[v, v] _ (by omega) lt (V.frame _ _ _ st2 fun b hb o e => ?_) (.inr ⟨0, v, rfl, rfl, hP⟩) (Heap.get?_update_self _ lS2 rfl) fun r h3 t3 ha k3 => ?_⟩
      · exact (Heap.get?_update_other _ _ (fun q : S = b => nS (q ▸ hb))).trans e
      · exact out r h3 t3 ha fun b o hb hbS e => k3 b o hb hbS ((Heap.get?_update_other _ _ (Ne.symm hbS)).trans (k2 b o hb e))
    · show wpAny _ A.in1 (tryCatch (holding [v, v] (richCompare .Lt v u >>= _)) _ >>= _) _ _ _; refine wpAny_bind (wpAny_tryCatch (wpAny_holding (wpAny_bind (cmp (j + 1) (argBest bt j) v u _ _ _ hP hu ?_))))
      refine wpAny_bind (wpAny_holding (wpAny_truthy_bool (wpAny_bind (wpAny_letGo (wpAny_pure ?_)))))
      cases better : bt (j + 1) (argBest bt j) with
      | true =>
        simp only [if_true]
        refine wpAny_bind (wpAny_updateSeq lS2 rfl (wpAny_bind (wpAny_letGo ?_))); rw [nm]
        refine wpAny_pure ⟨plainId_quiet F.plain_min_loop _, ih (j + 2) _ #[v, v] _ (by omega) lt (V.frame _ _ _ st2 fun b hb o e => ?_) (.inr ⟨j + 1, v, rfl, rfl, by simp only [argBest, better, if_true]; exact hP⟩) (Heap.get?_update_self _ lS2 rfl) fun r h3 t3 ha k3 => ?_⟩
        · exact (Heap.get?_update_other _ _ (fun q : S = b => nS (q ▸ hb))).trans e
        · exact out r h3 t3 ha fun b o hb hbS e => k3 b o hb hbS ((Heap.get?_update_other _ _ (Ne.symm hbS)).trans (k2 b o hb e))
      | false =>
        simp only [Bool.false_eq_true, if_false]
        refine wpAny_bind (wpAny_letGo ?_); rw [nm]
        refine wpAny_pure ⟨plainId_quiet F.plain_min_loop _, ih (j + 2) _ #[u, u] c (by omega) lt st2 (.inr ⟨j + 1, u, rfl, rfl, by simp only [argBest, better, Bool.false_eq_true, if_false]; exact hu⟩) lS2 fun r h3 t3 ha k3 => ?_⟩
        exact out r h3 t3 ha fun b o hb hbS e => k3 b o hb hbS (k2 b o hb e)
end
theorem args (a d : Value) : argsOk "min" ⟨[a], [(Str.ofString "default", d)]⟩ := by unfold argsOk; kernel_rfl
section
variable {prog : Program} {w : World} {A : Around} {E : Value → Shared → Prop} {s : Shared} {l : Addr} {xs : Array (Int × Tok)} {d : Value}
theorem call_it {Q : Value → Shared → Prop} (hh : A.handled = none) (hl : s.heap.IsList l (intItems xs))
    (h : ∀ r h' tk, Ans (fun i j => decide (numAt xs i < numAt xs j)) (fun i v => (intItems xs)[i]? = some v) xs.size d r → (∀ b o, s.heap.get? b = some o → h'.get? b = some o) → Q r { s with heap := h', toks := tk }) :
    wpAny (model prog w) A (call (.builtin "min") [.ref l] [(Str.ofString "default", d)]) Q E s := by
  refine kmk_tree F.kind_min F.plain_min F.entry_min (args _ _) ?_
  show wpAny _ A.in1 (Builtin.Builtins.bindParams "min" ["key", "default"] 0 ⟨[], [(Str.ofString "default", d)]⟩ >>= _) _ _ s
  refine wpAny_bind (wpAny_of_eq (show Builtin.Builtins.bindParams "min" ["key", "default"] 0 ⟨[], [(Str.ofString "default", d)]⟩ = pure [none, some d] from rfl) ?_)
  refine wpAny_bind (wpAny_pure ?_)
  refine wpAny_bind (iter_intList hl fun s2 e st hfp hlI => ?_)
  subst e
  refine wpAny_bind (wpAny_newObj_type ?_)
  rw [nm]
  have V := Walks.list (prog := prog) (w := w) (A := A.in1) hh s.heap.objs.size l hlI (intItems xs)
  have nS : (s.heap.push { cls := .type "list_iterator", data := .fields #[.ref l, .int 0 0] }).objs.size ∉ [s.heap.objs.size, l] := fun q => Nat.lt_irrefl _ (hfp _ q)
  have hsz : (intItems xs).size = xs.size := by simp [intItems]
  refine wpAny_pure ⟨plainId_quiet F.plain_min_loop _, go V _ (CmpOf.ints_lt (numAt xs) (fun _ _ => intItems_at)) _ nS _ 0 _ #[] _ rfl (Nat.zero_le _) (V.frame _ _ _ st fun b _ o e => Heap.get?_push_of_some _ e) (.inl ⟨rfl, rfl⟩) (Heap.get?_push_size _ rfl) fun r h' tk ha hk => ?_⟩
  rw [hsz] at ha
  exact h r h' tk ha (old_kept fun b o hb e => hk b o hb (Nat.ne_of_lt (Heap.lt_size e)) (Heap.get?_push_of_some _ e))
end
end MinD
namespace L2
open PySem PySem.Spec PyProof.Rows
/-- min(xs, default=None) of a list of ints -/
def rMinD (K : PySem.W.Frag) : List V → List V → Hp → VK → Prop := fun vs zs H Q => ∃ (a : Addr) (ns : List Int), vs = [V.ref a] ∧ zs = [.non] ∧ SqL K H a (ns.map V.int) ∧ (ns = [] → Q .non H) ∧ ∀ m, m ∈ ns → (∀ y, y ∈ ns → m ≤ y) → Q (.int m) H
theorem cr_minD {X : Cx} (hc : X.calm = true) : CallRK X (.builtin "min") [(Str.ofString "default")] (rMinD X.K) := by
  intro pins s σ H vs zs us ws Q I r rz h
  obtain ⟨a, ns, rfl, rfl, hs, q0, q1⟩ := h
  obtain ⟨its, rv, hl, _⟩ := I.list hs
  rw [Vals.ref1 r]
  cases rz with
  | cons r1 r2 =>
    cases r2
    cases r1
    obtain ⟨xs, e⟩ := rv.ints.allInts.items
    have hn : numsOf (intItems xs).toList = ns := by rw [← e]; exact rv.ints.numsOf
    rw [nums_intItems] at hn
    subst hn
    have hl' := hl.isList
    rw [e] at hl'
    refine MinD.call_it (I.ok.hd hc) hl' fun v h' tk ha hk => ?_
    rcases ha with ⟨h0, rfl⟩ | ⟨hpos, hv⟩
    · refine ⟨.non, H, I.kept hk, rfl, q0 ?_⟩
      rw [List.map_eq_nil_iff]
      exact List.eq_nil_of_length_eq_zero (by rw [Array.length_toList]; exact h0)
    · obtain ⟨t, rfl⟩ := intItems_at hv
      obtain ⟨h1, h2⟩ := argBest_lt (numAt xs) (xs.size - 1)
      refine ⟨.int _, H, I.kept hk, ⟨_, rfl⟩, q1 _ ?_ fun y hy => ?_⟩
      · rw [numAt_eq]
        exact PySem.getD_mem (by rw [List.length_map, Array.length_toList]; omega)
      · obtain ⟨j, hj, rfl⟩ := mem_getD hy
        rw [List.length_map, Array.length_toList] at hj
        rw [← numAt_eq]
        exact h2 j (by omega)
end L2
end
section
set_option Elab.async false
set_option linter.all false
set_option maxRecDepth 100000
set_option maxHeartbeats 4000000
namespace HotL
open PySem PySem.Spec PySem.Calls PyProof.Rows HotX
section
variable {prog : Program} {w : World} {A : Around} {E : Value → Shared → Prop} {s : Shared}
/-- a list's walk ends, while an error is handled -/
theorem next_end {it l x1 : Addr} {i : Nat} {items : Array Value} {Q : Option Value → Shared → Prop} (hot : HotAt A x1 s.heap) (hit : s.heap.IsListIter it l i) (hl : s.heap.IsList l items) (hx : items[i]? = none) (hne : x1 ≠ it)
    (hQ : ∀ h', (∀ b o, b ≠ it → s.heap.get? b = some o → h'.get? b = some o) → Q none { s with heap := h' }) : wpAny (model prog w) A (pyNext (.ref it)) Q E s := by
  obtain ⟨oi, ei, ci, di⟩ := id hit
  obtain ⟨ol, el, _, nl, dl⟩ := hl
  obtain ⟨hh, o1, v1, h1, d1, c1⟩ := hot
  unfold pyNext
  refine wpAny_bind (wpAny_attempt (wpAny_callSpecial?_slot (name := Str.ofString "__next__") hit.typeIs slot_listiter_next (wpAny_call_entry slot_listiter_next hit.typeIs entry_listiter_next ?_ (args_listiter_next _))))
  show wpAny _ _ (field (.ref it) 0 >>= _) _ _ s; refine wpAny_bind (wpAny_field ei di (x := .ref l) rfl ?_)
  show wpAny _ _ (if (Value.ref l == Value.none) = true then _ else _) _ _ s; rw [if_neg (show ¬ ((Value.ref l == Value.none) = true) from Bool.false_ne_true)]
  show wpAny _ _ (field (.ref it) 1 >>= _) _ _ s; refine wpAny_bind (wpAny_field ei di (x := .int i 0) rfl ?_)
  show wpAny _ _ (seqItems? (.ref l) >>= _) _ _ s; refine wpAny_bind (wpAny_seqItems el dl ?_)
  simp only [Int.toNat_natCast, hx]
  refine wpAny_bind (wpAny_rule (wpAny_bind (wpAny_setField ei di (by simp) ?_)))
  have f1 : ∀ {g : Obj → Obj}, (s.heap.update it g).get? x1 = some o1 := fun {g} => (Heap.get?_update_other _ _ (Ne.symm hne)).trans h1
  show wpAny _ _ (newExc (.type "StopIteration") [] >>= _) _ _ _; refine wpAny_bind ?_
  simp only [newExc, newTuple]
  refine wpAny_bind (wpAny_newObj_type ?_ (by size_fits)); refine wpAny_bind (m := firstArgMember _ _) (wpAny_of_eq (a := Value.none) (by first | rfl | (simp only [firstArgMember]; rfl)) ?_)
  refine wpAny_newObj_type ?_ (by size_fits)
  refine raiseNew_hot ⟨hh, o1, v1, Heap.get?_push_of_some _ (Heap.get?_push_of_some _ f1), d1, c1⟩ (Nat.ne_of_lt (Heap.lt_size (Heap.get?_push_of_some _ f1))) (Heap.get?_push_size _ rfl) rfl (by first | (simp; done) | (simp; omega)) ?_
  refine wpAny_bind (wpAny_isInstance (T := "StopIteration") (b := true) ⟨_, Heap.get?_update_self _ (Heap.get?_push_size _ rfl) rfl, rfl⟩ isSubtype_stop ?_)
  refine wpAny_pure (hQ _ fun b o hb e => ?_)
  have e2 : ∀ {g : Obj → Obj}, (s.heap.update it g).get? b = some o := fun {g} => (Heap.get?_update_other _ _ (Ne.symm hb)).trans e
  rw [Heap.get?_update_other _ _ (Nat.ne_of_gt (Heap.lt_size (Heap.get?_push_of_some _ e2)))]
  exact Heap.get?_push_of_some _ (Heap.get?_push_of_some _ e2)
/-- the walk of a list there -/
theorem walksH {x1 : Addr} {o1 : Obj} {v1 : Array Value} (hh : A.handled = some (.ref x1)) (d1 : o1.data = .fields v1) (c1 : v1[2]? = some .none) (I ax : Addr) (hne : ax ≠ I) (hx : x1 ≠ I) (items : Array Value) :
    Walks prog w A I [I, ax, x1] [I] items.size (fun i v => items[i]? = some v) (fun i h => h.IsListIter I ax i ∧ h.IsList ax items ∧ h.get? x1 = some o1) where
  sub := fun b hb => by simp at hb; simp [hb]
  frame := fun _ _ _ st hk => ⟨st.1.at fun o e => hk I (by simp) o e, st.2.1.at fun o e => hk ax (by simp) o e, hk x1 (by simp) _ st.2.2⟩
  item := fun i s Q E hi st hQ => by
    refine wpAny_pyNext_list_item st.1 st.2.1 (x := items[i]) (by simp [hi]) fun h2 hit2 hs2 => hQ _ h2 s.toks (by simp [hi]) ⟨hit2, st.2.1.extBut hs2.extBut hne, hs2.extBut _ _ hx st.2.2⟩ fun b o hb e => hs2.extBut b o (fun h => hb (by simp [h])) e
  done := fun s Q E st hQ => next_end ⟨hh, o1, v1, st.2.2, d1, c1⟩ st.1 st.2.1 (by simp) hx fun h2 k2 => hQ h2 s.toks fun b o hb e => k2 b o (fun h => hb (by simp [h])) e
  self := fun _ _ _ _ st hQ => wpAny_pyIter_listiter st.1 hQ
end
end HotL
namespace L2
open PySem PySem.Spec PyProof.Rows
theorem cr_anyH {X : Cx} (c : L2H.HotC X) : CallR X (.builtin "any") (rAny X.K) := by
  intro pins s σ H vs us Q I r h
  obtain ⟨a, bs, rfl, hs, q⟩ := h
  obtain ⟨its, rv, hl, _⟩ := I.list hs
  rw [Vals.ref1 r]
  have hb := rv.bls
  obtain ⟨x1, hh, o1, v1, h1, d1, c1⟩ := c.at I
  refine call_any_walk (iter_any hl.isList fun s2 e2 st hne => ?_)
  subst e2
  have hx : x1 ≠ s.heap.objs.size := Nat.ne_of_lt (Heap.lt_size h1)
  refine ⟨_, _, _, _, _, _, _, rfl, HotL.walksH (A := X.A.in1) hh d1 c1 _ a hne hx its.toArray, ⟨st.1, st.2, Heap.get?_push_of_some _ h1⟩, truth_bools hb, fun h' tk hk => ⟨.bl _, H, I.kept fun b o eo => hk b o (fun hm => ?_) (Heap.get?_push_of_some _ eo), ?_, q⟩⟩
  · rw [List.mem_singleton] at hm
    exact absurd (hm ▸ Heap.lt_size eo) (Nat.lt_irrefl _)
  · show Value.bool _ = Value.bool _
    rw [← any_range, hb, List.size_toArray, List.length_map]
theorem hot_suite {X : Cx} {a : Addr} {oe : Obj} {pn : List (Addr × Obj)} {cls : Value} {d : Option Addr} (hz : L2N.Zn cls d oe) (hf : ∃ vs, oe.data = .fields vs) : L2H.HotC (X.suite a ((a, oe) :: pn)) := by
  obtain ⟨vs, hv⟩ := hf
  exact ⟨(a, oe), ⟨rfl, vs, hv, hz.2.2 vs hv⟩, List.mem_cons_self⟩
/-- isinstance(e, c), e the exception that the suite holds, whatever its class -/
def rIsEA (K : PySem.W.Frag) (cls : Value) (d : Option Addr) (a : Addr) : List V → Hp → VK → Prop := fun xs H Q => ∃ D, cls = .ref D ∧ d = none ∧ ExcC K D ∧ rIsE K D a xs H Q
theorem call_isEA {X : Cx} {a : Addr} {oe : Obj} {pn : List (Addr × Obj)} {cls : Value} {d : Option Addr} (hz : Zc cls d oe) (hf : ∃ vs, oe.data = .fields vs) : CallR (X.suite a ((a, oe) :: pn)) (.builtin "isinstance") (rIsEA X.K cls d a) := by
  intro pins s σ H xs us Q I r h
  obtain ⟨D, rfl, rfl, C, h⟩ := h
  exact call_isE C hz hf pins s σ H xs us Q I r h
theorem passN {X : Cx} : Passes (L2N.CX X.prog X.w) X E0 := fun _ _ _ _ _ _ _ h => by
  obtain ⟨_, _, _, _, _, _, _, _, _, _, _, _, z⟩ := h
  exact z.elim
theorem takesN {X : Cx} : L2N.Takes X (fun _ _ _ _ => False) := fun _ _ x => by
  obtain ⟨_, _, _, _, _, _, _, _, _, _, _, _, _, _, _, _, z⟩ := x
  exact z.elim
section
variable {P : Program} {w : World} {K : PySem.W.Frag} {mg : Str → Option Value} {base : Heap}
theorem Fun.okN {x qual : Str} {st : Stmt} {f : Addr} {fd : FuncData} {N ps : List Str} {k : Nat} {sp : Sp} (F : Fun K x qual st f fd) (S : FnScope N ps (defScope st)) (len : ∀ vs H Q E, sp vs H Q E → vs.length = ps.length)
    (body : ∀ (cdv : Value) (A : Around) (outer : List Env) (s : Shared) (H : Hp) (vs : List V) (Q : VK) (E : XK), Room k (A.deeper (envOfC qual (defScope st) s.heap.objs.size f cdv)) → sp vs H Q E →
      ∃ t, PSs (cxOf (L2N.CX P w) P w K mg base N qual (defScope st) f cdv A outer s H E) (defBody st) t ∧ t { nx := fun _ H' => Q .non H', rt := Q } (start N vs) H) : FnOk P w K mg base (L2N.CX P w) (k + 1) f fd ps sp := by
  obtain ⟨oc, od, kV, doc, pm, an, cdv, ct, osl, rfl, lk, hcd⟩ := F.ex
  exact fn_of lk hcd S len fun A outer s H vs Q E hr hsp => body cdv A outer s H vs Q E hr hsp
end
end L2
end
section
set_option Elab.async false
set_option linter.all false
set_option maxRecDepth 100000
set_option maxHeartbeats 4000000
namespace Jp
open PySem L2
def top (i : Nat) : Stmt := PySem.Challenge.pw_joinplay_k05_refused.main.body.getD i (.Pass ⟨0, 0, 0, 0⟩)
abbrev s__wall : Stmt := top 0
abbrev s_is_number : Stmt := top 12
abbrev s_is_tie : Stmt := top 13
abbrev s_asked_web : Stmt := top 14
abbrev s_marks_by : Stmt := top 15
abbrev s_groups_by : Stmt := top 16
abbrev s_Trees_init : Stmt := inClass (top 19) 0
abbrev s_Trees_shows : Stmt := inClass (top 19) 1
abbrev s_Parts_init : Stmt := inClass (top 20) 0
abbrev s_Parts_shows : Stmt := inClass (top 20) 1
abbrev s_way_of : Stmt := top 22
abbrev s_put_in : Stmt := top 23
abbrev s_packed : Stmt := top 24
abbrev s_told : Stmt := top 25
abbrev s_trees : Stmt := top 26
abbrev s_most : Stmt := top 27
abbrev s_asked_moves : Stmt := top 29
abbrev s_rest : Stmt := top 30
abbrev s_is_held : Stmt := top 31
abbrev s_held : Stmt := top 32
abbrev s_to_cut : Stmt := top 33
abbrev s_to_join : Stmt := top 34
abbrev s__law_with_web : Stmt := top 36
abbrev s__law_bad_ties : Stmt := top 37
abbrev s__law_moves : Stmt := top 38
abbrev s__law_told : Stmt := top 39
abbrev s_law : Stmt := top 40
structure Tx (K : PySem.W.Frag) (mg : Str → Option Value) where
  z_len : mg "len" = none
  z_min : mg "min" = none
  z_max : mg "max" = none
  z_sorted : mg "sorted" = none
  z_all : mg "all" = none
  z_list : mg "list" = none
  z_range : mg "range" = none
  z_set : mg "set" = none
  z_tuple : mg "tuple" = none
  z_enumerate : mg "enumerate" = none
  z_zip : mg "zip" = none
  z_isinstance : mg "isinstance" = none
  z_int : mg "int" = none
  z_bool : mg "bool" = none
  z_ValueError : mg "ValueError" = none
  t_MOST : Tok
  k_MOST : mg "MOST" = some (.int 10 t_MOST)
  t_MOST_TIES : Tok
  k_MOST_TIES : mg "MOST_TIES" = some (.int 40 t_MOST_TIES)
  c_Answer : Addr
  g_Answer : mg "Answer" = some (.ref c_Answer)
  c_Trees : Addr
  g_Trees : mg "Trees" = some (.ref c_Trees)
  c_Parts : Addr
  g_Parts : mg "Parts" = some (.ref c_Parts)
  f__wall : Addr
  d__wall : FuncData
  F__wall : Fun K "_wall" "_wall" s__wall f__wall d__wall
  b__wall : Binds K d__wall ["k"] []
  g__wall : mg "_wall" = some (.ref f__wall)
  f_is_number : Addr
  d_is_number : FuncData
  F_is_number : Fun K "is_number" "is_number" s_is_number f_is_number d_is_number
  b_is_number : Binds K d_is_number ["thing"] []
  g_is_number : mg "is_number" = some (.ref f_is_number)
  f_is_tie : Addr
  d_is_tie : FuncData
  F_is_tie : Fun K "is_tie" "is_tie" s_is_tie f_is_tie d_is_tie
  b_is_tie : Binds K d_is_tie ["thing", "people"] []
  g_is_tie : mg "is_tie" = some (.ref f_is_tie)
  f_asked_web : Addr
  d_asked_web : FuncData
  F_asked_web : Fun K "asked_web" "asked_web" s_asked_web f_asked_web d_asked_web
  b_asked_web : Binds K d_asked_web ["people", "ties"] []
  g_asked_web : mg "asked_web" = some (.ref f_asked_web)
  f_marks_by : Addr
  d_marks_by : FuncData
  F_marks_by : Fun K "marks_by" "marks_by" s_marks_by f_marks_by d_marks_by
  b_marks_by : Binds K d_marks_by ["people", "ties", "some"] []
  g_marks_by : mg "marks_by" = some (.ref f_marks_by)
  f_groups_by : Addr
  d_groups_by : FuncData
  F_groups_by : Fun K "groups_by" "groups_by" s_groups_by f_groups_by d_groups_by
  b_groups_by : Binds K d_groups_by ["people", "ties", "some"] []
  g_groups_by : mg "groups_by" = some (.ref f_groups_by)
  f_Trees_init : Addr
  d_Trees_init : FuncData
  F_Trees_init : Fun K "__init__" "Trees.__init__" s_Trees_init f_Trees_init d_Trees_init
  b_Trees_init : Binds K d_Trees_init ["self", "trees"] []
  f_Trees_shows : Addr
  d_Trees_shows : FuncData
  F_Trees_shows : Fun K "shows" "Trees.shows" s_Trees_shows f_Trees_shows d_Trees_shows
  b_Trees_shows : Binds K d_Trees_shows ["self", "people", "ties", "many"] []
  f_Parts_init : Addr
  d_Parts_init : FuncData
  F_Parts_init : Fun K "__init__" "Parts.__init__" s_Parts_init f_Parts_init d_Parts_init
  b_Parts_init : Binds K d_Parts_init ["self", "groups"] []
  f_Parts_shows : Addr
  d_Parts_shows : FuncData
  F_Parts_shows : Fun K "shows" "Parts.shows" s_Parts_shows f_Parts_shows d_Parts_shows
  b_Parts_shows : Binds K d_Parts_shows ["self", "people", "ties", "many"] []
  f_way_of : Addr
  d_way_of : FuncData
  F_way_of : Fun K "way_of" "way_of" s_way_of f_way_of d_way_of
  b_way_of : Binds K d_way_of ["ties", "owner", "forest", "one", "other"] []
  g_way_of : mg "way_of" = some (.ref f_way_of)
  f_put_in : Addr
  d_put_in : FuncData
  F_put_in : Fun K "put_in" "put_in" s_put_in f_put_in d_put_in
  b_put_in : Binds K d_put_in ["ties", "owner", "many", "first"] []
  g_put_in : mg "put_in" = some (.ref f_put_in)
  f_packed : Addr
  d_packed : FuncData
  F_packed : Fun K "packed" "packed" s_packed f_packed d_packed
  b_packed : Binds K d_packed ["people", "ties", "many"] []
  g_packed : mg "packed" = some (.ref f_packed)
  f_told : Addr
  d_told : FuncData
  F_told : Fun K "told" "told" s_told f_told d_told
  b_told : Binds K d_told ["people", "ties", "many"] []
  g_told : mg "told" = some (.ref f_told)
  f_trees : Addr
  d_trees : FuncData
  F_trees : Fun K "trees" "trees" s_trees f_trees d_trees
  b_trees : Binds K d_trees ["people", "ties", "many"] []
  g_trees : mg "trees" = some (.ref f_trees)
  f_most : Addr
  d_most : FuncData
  F_most : Fun K "most" "most" s_most f_most d_most
  b_most : Binds K d_most ["people", "ties"] []
  g_most : mg "most" = some (.ref f_most)
  f_asked_moves : Addr
  d_asked_moves : FuncData
  F_asked_moves : Fun K "asked_moves" "asked_moves" s_asked_moves f_asked_moves d_asked_moves
  b_asked_moves : Binds K d_asked_moves ["people", "ties", "fast", "cut"] []
  g_asked_moves : mg "asked_moves" = some (.ref f_asked_moves)
  f_rest : Addr
  d_rest : FuncData
  F_rest : Fun K "rest" "rest" s_rest f_rest d_rest
  b_rest : Binds K d_rest ["people", "ties", "fast", "cut"] []
  g_rest : mg "rest" = some (.ref f_rest)
  f_is_held : Addr
  d_is_held : FuncData
  F_is_held : Fun K "is_held" "is_held" s_is_held f_is_held d_is_held
  b_is_held : Binds K d_is_held ["people", "ties", "fast", "cut"] []
  g_is_held : mg "is_held" = some (.ref f_is_held)
  f_held : Addr
  d_held : FuncData
  F_held : Fun K "held" "held" s_held f_held d_held
  b_held : Binds K d_held ["people", "ties", "fast", "cut"] []
  g_held : mg "held" = some (.ref f_held)
  f_to_cut : Addr
  d_to_cut : FuncData
  F_to_cut : Fun K "to_cut" "to_cut" s_to_cut f_to_cut d_to_cut
  b_to_cut : Binds K d_to_cut ["people", "ties", "fast", "cut"] []
  g_to_cut : mg "to_cut" = some (.ref f_to_cut)
  f_to_join : Addr
  d_to_join : FuncData
  F_to_join : Fun K "to_join" "to_join" s_to_join f_to_join d_to_join
  b_to_join : Binds K d_to_join ["people", "ties", "fast", "cut"] []
  g_to_join : mg "to_join" = some (.ref f_to_join)
  f__law_with_web : Addr
  d__law_with_web : FuncData
  F__law_with_web : Fun K "_law_with_web" "_law_with_web" s__law_with_web f__law_with_web d__law_with_web
  b__law_with_web : Binds K d__law_with_web ["_law_door", "_law_people", "_law_ties"] []
  g__law_with_web : mg "_law_with_web" = some (.ref f__law_with_web)
  f__law_bad_ties : Addr
  d__law_bad_ties : FuncData
  F__law_bad_ties : Fun K "_law_bad_ties" "_law_bad_ties" s__law_bad_ties f__law_bad_ties d__law_bad_ties
  b__law_bad_ties : Binds K d__law_bad_ties ["_law_which", "_law_more"] []
  g__law_bad_ties : mg "_law_bad_ties" = some (.ref f__law_bad_ties)
  f__law_moves : Addr
  d__law_moves : FuncData
  F__law_moves : Fun K "_law_moves" "_law_moves" s__law_moves f__law_moves d__law_moves
  b__law_moves : Binds K d__law_moves ["_law_which", "_law_more"] []
  g__law_moves : mg "_law_moves" = some (.ref f__law_moves)
  f__law_told : Addr
  d__law_told : FuncData
  F__law_told : Fun K "_law_told" "_law_told" s__law_told f__law_told d__law_told
  b__law_told : Binds K d__law_told ["_law_kind", "_law_which", "_law_more"] []
  g__law_told : mg "_law_told" = some (.ref f__law_told)
  f_law : Addr
  d_law : FuncData
  F_law : Fun K "law" "law" s_law f_law d_law
  b_law : Binds K d_law ["_law_script"] []
  g_law : mg "law" = some (.ref f_law)
  cl_Trees : L2.Cls K c_Trees
  na_Trees_trees : NoAttr K c_Trees "trees"
  mk_Trees : Mk K c_Trees f_Trees_init
  me_Trees_shows : Meth K c_Trees "shows" f_Trees_shows
  cl_Parts : L2.Cls K c_Parts
  na_Parts_groups : NoAttr K c_Parts "groups"
  mk_Parts : Mk K c_Parts f_Parts_init
  me_Parts_shows : Meth K c_Parts "shows" f_Parts_shows
  hn0 : PySem.W.specialIn K (.builtin "object.__class__") "__get__" = some (some (.builtin "getset_descriptor.__get__"))
  htk0 : PySem.W.takesIn K (.builtin "object.__class__") = some true
  ha_Trees : PySem.W.findIn K (.ref c_Trees) "__class__" = some (some (.builtin "object.__class__"))
  hm_Trees : PySem.W.mroIn K c_Trees (.type "object") = some true
  ki_Trees_Trees : PySem.W.kitOne K (.ref c_Trees) (.ref c_Trees) = some true
  ki_Trees_Parts : PySem.W.kitOne K (.ref c_Trees) (.ref c_Parts) = some false
  ki_Trees_Answer : PySem.W.kitOne K (.ref c_Trees) (.ref c_Answer) = some true
  ha_Parts : PySem.W.findIn K (.ref c_Parts) "__class__" = some (some (.builtin "object.__class__"))
  hm_Parts : PySem.W.mroIn K c_Parts (.type "object") = some true
  ki_Parts_Trees : PySem.W.kitOne K (.ref c_Parts) (.ref c_Trees) = some false
  ki_Parts_Parts : PySem.W.kitOne K (.ref c_Parts) (.ref c_Parts) = some true
  ki_Parts_Answer : PySem.W.kitOne K (.ref c_Parts) (.ref c_Answer) = some true
  c_BadPeople : Addr
  g_BadPeople : mg "BadPeople" = some (.ref c_BadPeople)
  c_BadTies : Addr
  g_BadTies : mg "BadTies" = some (.ref c_BadTies)
  c_BadMany : Addr
  g_BadMany : mg "BadMany" = some (.ref c_BadMany)
  c_BadMoves : Addr
  g_BadMoves : mg "BadMoves" = some (.ref c_BadMoves)
  c_PlayError : Addr
  g_PlayError : mg "PlayError" = some (.ref c_PlayError)
  c_Held : Addr
  g_Held : mg "Held" = some (.ref c_Held)
  c_Lost : Addr
  g_Lost : mg "Lost" = some (.ref c_Lost)
  x_BadPeople : PySem.W.excIn K c_BadPeople [.type "ValueError", .type "Exception", .type "BaseException", .type "object"] "ValueError.__new__" = true
  kp_BadPeople : PySem.W.keepIn K (.ref c_BadPeople) = true
  sb_BadPeople : PySem.W.subIn K (.ref c_BadPeople) (.type "BaseException") = some true
  tp_BadPeople : PySem.W.typeIn K (.ref c_BadPeople) = some (.type "type")
  xm_BadPeople_PlayError : PySem.W.exmOne K (.ref c_BadPeople) (.ref c_PlayError) = some true
  xc_BadPeople : ExcC K c_BadPeople
  ki_BadPeople_BadPeople : PySem.W.kitOne K (.ref c_BadPeople) (.ref c_BadPeople) = some true
  ki_BadPeople_BadTies : PySem.W.kitOne K (.ref c_BadPeople) (.ref c_BadTies) = some false
  ki_BadPeople_BadMany : PySem.W.kitOne K (.ref c_BadPeople) (.ref c_BadMany) = some false
  ki_BadPeople_BadMoves : PySem.W.kitOne K (.ref c_BadPeople) (.ref c_BadMoves) = some false
  ki_BadPeople_Held : PySem.W.kitOne K (.ref c_BadPeople) (.ref c_Held) = some false
  ki_BadPeople_Lost : PySem.W.kitOne K (.ref c_BadPeople) (.ref c_Lost) = some false
  ki_BadPeople_ValueError : PySem.W.kitOne K (.ref c_BadPeople) (.type "ValueError") = some true
  x_BadTies : PySem.W.excIn K c_BadTies [.type "ValueError", .type "Exception", .type "BaseException", .type "object"] "ValueError.__new__" = true
  kp_BadTies : PySem.W.keepIn K (.ref c_BadTies) = true
  sb_BadTies : PySem.W.subIn K (.ref c_BadTies) (.type "BaseException") = some true
  tp_BadTies : PySem.W.typeIn K (.ref c_BadTies) = some (.type "type")
  xm_BadTies_PlayError : PySem.W.exmOne K (.ref c_BadTies) (.ref c_PlayError) = some true
  xc_BadTies : ExcC K c_BadTies
  ki_BadTies_BadPeople : PySem.W.kitOne K (.ref c_BadTies) (.ref c_BadPeople) = some false
  ki_BadTies_BadTies : PySem.W.kitOne K (.ref c_BadTies) (.ref c_BadTies) = some true
  ki_BadTies_BadMany : PySem.W.kitOne K (.ref c_BadTies) (.ref c_BadMany) = some false
  ki_BadTies_BadMoves : PySem.W.kitOne K (.ref c_BadTies) (.ref c_BadMoves) = some false
  ki_BadTies_Held : PySem.W.kitOne K (.ref c_BadTies) (.ref c_Held) = some false
  ki_BadTies_Lost : PySem.W.kitOne K (.ref c_BadTies) (.ref c_Lost) = some false
  ki_BadTies_ValueError : PySem.W.kitOne K (.ref c_BadTies) (.type "ValueError") = some true
  x_BadMany : PySem.W.excIn K c_BadMany [.type "ValueError", .type "Exception", .type "BaseException", .type "object"] "ValueError.__new__" = true
  kp_BadMany : PySem.W.keepIn K (.ref c_BadMany) = true
  sb_BadMany : PySem.W.subIn K (.ref c_BadMany) (.type "BaseException") = some true
  tp_BadMany : PySem.W.typeIn K (.ref c_BadMany) = some (.type "type")
  xm_BadMany_PlayError : PySem.W.exmOne K (.ref c_BadMany) (.ref c_PlayError) = some true
  xc_BadMany : ExcC K c_BadMany
  ki_BadMany_BadPeople : PySem.W.kitOne K (.ref c_BadMany) (.ref c_BadPeople) = some false
  ki_BadMany_BadTies : PySem.W.kitOne K (.ref c_BadMany) (.ref c_BadTies) = some false
  ki_BadMany_BadMany : PySem.W.kitOne K (.ref c_BadMany) (.ref c_BadMany) = some true
  ki_BadMany_BadMoves : PySem.W.kitOne K (.ref c_BadMany) (.ref c_BadMoves) = some false
  ki_BadMany_Held : PySem.W.kitOne K (.ref c_BadMany) (.ref c_Held) = some false
  ki_BadMany_Lost : PySem.W.kitOne K (.ref c_BadMany) (.ref c_Lost) = some false
  ki_BadMany_ValueError : PySem.W.kitOne K (.ref c_BadMany) (.type "ValueError") = some true
  x_BadMoves : PySem.W.excIn K c_BadMoves [.type "ValueError", .type "Exception", .type "BaseException", .type "object"] "ValueError.__new__" = true
  kp_BadMoves : PySem.W.keepIn K (.ref c_BadMoves) = true
  sb_BadMoves : PySem.W.subIn K (.ref c_BadMoves) (.type "BaseException") = some true
  tp_BadMoves : PySem.W.typeIn K (.ref c_BadMoves) = some (.type "type")
  xm_BadMoves_PlayError : PySem.W.exmOne K (.ref c_BadMoves) (.ref c_PlayError) = some true
  xc_BadMoves : ExcC K c_BadMoves
  ki_BadMoves_BadPeople : PySem.W.kitOne K (.ref c_BadMoves) (.ref c_BadPeople) = some false
  ki_BadMoves_BadTies : PySem.W.kitOne K (.ref c_BadMoves) (.ref c_BadTies) = some false
  ki_BadMoves_BadMany : PySem.W.kitOne K (.ref c_BadMoves) (.ref c_BadMany) = some false
  ki_BadMoves_BadMoves : PySem.W.kitOne K (.ref c_BadMoves) (.ref c_BadMoves) = some true
  ki_BadMoves_Held : PySem.W.kitOne K (.ref c_BadMoves) (.ref c_Held) = some false
  ki_BadMoves_Lost : PySem.W.kitOne K (.ref c_BadMoves) (.ref c_Lost) = some false
  ki_BadMoves_ValueError : PySem.W.kitOne K (.ref c_BadMoves) (.type "ValueError") = some true

def natV (l : List Nat) : List V := l.map fun (n : Nat) => V.int (n : Int)
theorem natV_get {l : List Nat} {i m : Nat} (h : l[i]? = some m) : (natV l)[i]? = some (.int m) := by
  unfold natV
  rw [List.getElem?_map, h]
  rfl
theorem natV_at {l : List Nat} {i : Nat} {x : V} (h : (natV l)[i]? = some x) : ∃ m, l[i]? = some m ∧ x = .int (m : Int) := by
  unfold natV at h
  rw [List.getElem?_map] at h
  cases e : l[i]? with
  | none => rw [e] at h; cases h
  | some m => rw [e] at h; exact ⟨m, rfl, (Option.some.inj h).symm⟩
theorem natV_len (l : List Nat) : (natV l).length = l.length := by
  unfold natV
  rw [List.length_map]
theorem natV_int (l : List Nat) : natV l = (l.map fun (n : Nat) => (n : Int)).map V.int := by
  unfold natV
  rw [List.map_map]
  rfl
theorem natV_snoc (l : List Nat) (m : Nat) : natV (l ++ [m]) = natV l ++ [.int (m : Int)] := by
  unfold natV
  rw [List.map_append]
  rfl

theorem same_tup {K : PySem.W.Frag} {H H' : Hp} {a : Addr} {xs : List V} (e : Same H H') (h : SqT K H a xs) : SqT K H' a xs := by
  rcases h with (h | ⟨o, h⟩) | h
  · exact .inl (.inl (e _ _ h))
  · exact .inl (.inr ⟨o, e _ _ h⟩)
  · exact .inr h
theorem same_new {H : Hp} {p : Addr} {o : HO} (h : H p = none) : Same H (upd H p o) := fun a u e => by
  rw [upd_ne (ne_of_none e h)]
  exact e
theorem same_mut {H H' : Hp} {p : Addr} {o : HO} (e : Same H H') (h : H p = none) : Same H (upd H' p o) := fun a u ha => by
  rw [upd_ne (ne_of_none ha h)]
  exact e a u ha
theorem sml {n : Nat} (h : n ≤ 100000) : n ≤ sizeLine := Nat.le_trans h (by decide)
theorem sml1 {n : Nat} (h : n < 100000) : n < sizeLine := Nat.lt_of_lt_of_le h (by decide)

/-- the list of ties at a -/
def TiesAt (K : PySem.W.Frag) (H : Hp) (a : Addr) (ts : List Tie) : Prop :=
  ∃ cs : List Addr, SqL K H a (cs.map V.ref) ∧ cs.length = ts.length ∧ ∀ (i : Nat) (t : Tie) (c : Addr), ts[i]? = some t → cs[i]? = some c → SqT K H c [.int (t.1 : Int), .int (t.2 : Int)]
theorem TiesAt.same {K : PySem.W.Frag} {H H' : Hp} {a : Addr} {ts : List Tie} (h : TiesAt K H a ts) (e : Same H H') : TiesAt K H' a ts := by
  obtain ⟨cs, h1, h2, h3⟩ := h
  exact ⟨cs, e.seq h1, h2, fun i t c a b => same_tup e (h3 i t c a b)⟩
theorem TiesAt.get {K : PySem.W.Frag} {H : Hp} {a : Addr} {ts : List Tie} (h : TiesAt K H a ts) {i : Nat} {t : Tie} (ht : ts[i]? = some t) :
    ∃ (xs : List V) (c : Addr), SqL K H a xs ∧ xs[i]? = some (.ref c) ∧ SqT K H c [.int (t.1 : Int), .int (t.2 : Int)] := by
  obtain ⟨cs, h1, h2, h3⟩ := h
  have hl := (List.getElem?_eq_some_iff.mp ht).1
  have hc : cs[i]? = some cs[i] := List.getElem?_eq_getElem (by omega)
  refine ⟨_, cs[i], h1, ?_, h3 i t _ ht hc⟩
  rw [List.getElem?_map, hc]
  rfl
/-- the list itself -/
theorem TiesAt.seq {K : PySem.W.Frag} {H : Hp} {a : Addr} {ts : List Tie} (h : TiesAt K H a ts) : ∃ xs : List V, SqL K H a xs ∧ xs.length = ts.length ∧
    ∀ (i : Nat) (x : V), xs[i]? = some x → ∃ (t : Tie) (c : Addr), ts[i]? = some t ∧ x = .ref c ∧ SqT K H c [.int (t.1 : Int), .int (t.2 : Int)] := by
  obtain ⟨cs, h1, h2, h3⟩ := h
  refine ⟨_, h1, by rw [List.length_map]; exact h2, fun i x hx => ?_⟩
  rw [List.getElem?_map] at hx
  cases e : cs[i]? with
  | none => rw [e] at hx; cases hx
  | some c =>
    rw [e] at hx
    have hl := (List.getElem?_eq_some_iff.mp e).1
    have ht : ts[i]? = some ts[i] := List.getElem?_eq_getElem (by omega)
    exact ⟨_, c, ht, (Option.some.inj hx).symm, h3 i _ c ht e⟩

/-- a list of lists, all new and unlike -/
structure LL (H : Hp) (p : Addr) (ps : List Addr) (xss : List (List V)) : Prop where
  top : H p = some (.lst (ps.map V.ref))
  len : ps.length = xss.length
  at_ : ∀ (i : Nat) (q : Addr) (xs : List V), ps[i]? = some q → xss[i]? = some xs → H q = some (.lst xs)
  nd : ps.Nodup
  np : p ∉ ps
theorem LL.same {H H' : Hp} {p : Addr} {ps : List Addr} {xss : List (List V)} (h : LL H p ps xss) (e : Same H H') : LL H' p ps xss :=
  ⟨e _ _ h.top, h.len, fun i q xs a b => e _ _ (h.at_ i q xs a b), h.nd, h.np⟩
theorem LL.get {H : Hp} {p : Addr} {ps : List Addr} {xss : List (List V)} (h : LL H p ps xss) {i : Nat} {xs : List V} (hx : xss[i]? = some xs) : ∃ q, ps[i]? = some q ∧ H q = some (.lst xs) := by
  have hl : i < ps.length := by
    rw [h.len]
    exact (List.getElem?_eq_some_iff.mp hx).1
  have hq : ps[i]? = some ps[i] := List.getElem?_eq_getElem hl
  exact ⟨_, hq, h.at_ i _ xs hq hx⟩

section
variable {P : Program} {w : World} {K : PySem.W.Frag} {mg : Str → Option Value} {base : Heap}

def spMarks (K : PySem.W.Frag) : Sp := fun vs H Q _ => ∃ (n : Nat) (a b : Addr) (ts : List Tie) (L : List Nat), vs = [.int (n : Int), .ref a, .ref b] ∧ TiesAt K H a ts ∧ SqL K H b (natV L) ∧ Web n ts ∧ (∀ i ∈ L, i < ts.length) ∧ n ≤ 10 ∧
  ∀ H' p, Same H H' → H p = none → H' p = some (.lst (natV (marksBy n ts L))) → Q (.ref p) H'
theorem rgV_natV (n : Nat) : rgV 0 (n : Int) = natV (List.range n) := by
  unfold rgV natV
  have : ((n : Int) - 0).toNat = n := by omega
  rw [this]
  apply List.map_congr_left
  intro i _
  rw [Int.zero_add]
theorem min_nat (a b : Nat) : (if (b : Int) < (a : Int) then (b : Int) else (a : Int)) = ((min a b : Nat) : Int) := by
  split <;> omega
theorem max_nat (a b : Nat) : (if (b : Int) > (a : Int) then (b : Int) else (a : Int)) = ((max a b : Nat) : Int) := by
  split <;> omega
theorem stepM_at {ts : List Tie} {mk : List Nat} {i la lb : Nat} {t : Tie} (ht : ts[i]? = some t) (ha : mk[t.1]? = some la) (hb : mk[t.2]? = some lb) : stepM ts mk i = mk.map fun m => if m = max la lb then min la lb else m := by
  have e : ts.getD i (0, 0) = t := by
    rw [List.getD_eq_getElem?_getD, ht]
    rfl
  unfold stepM mergeM
  rw [e, getD_of ha, getD_of hb]
theorem take_snoc {α : Type} {l : List α} {i : Nat} {x : α} (h : l[i]? = some x) : l.take (i + 1) = l.take i ++ [x] := by
  rw [List.take_add_one, h]
  rfl

abbrev N_marks_by : List Str := ["people", "ties", "some", "marks", "at", "one", "other", "low", "high", "mark"]
theorem sc_marks_by : FnScope N_marks_by ["people", "ties", "some"] (defScope s_marks_by) := ⟨rfl, rfl, rfl, by decide +kernel, rfl, by decide +kernel, by decide +kernel⟩
-- slots: people 0, ties 1, some 2, marks 3, at 4, one 5, other 6, low 7, high 8, mark 9
theorem ok_marks_by (T : Tx K mg) : FnOk P w K mg base CX0 1 T.f_marks_by T.d_marks_by ["people", "ties", "some"] (spMarks K) := by
  refine T.F_marks_by.ok sc_marks_by (fun vs H Q E h => ?_) (fun cdv A outer s H vs Q E hr h => ?_)
  · obtain ⟨n, a, b, ts, L, rfl, _⟩ := h
    rfl
  · obtain ⟨n, a, b, ts, L, rfl, hT, hL, hW, hLt, hn, q⟩ := h
    have nd := sc_marks_by.nd
    refine ⟨_, (pss_cons (ps_set (i := 3) nd rfl (.inl rfl) (pe_listRg rfl (by rfl) T.z_list (prg_1 (by rfl) T.z_range (pv 0))))
      (pss_cons (ps_for PassesOwn.never rfl (pi_list (pv 2)) (pg_name (i := 4) nd rfl (.inl rfl)) 
        (pss_cons (ps_asg (pe_ix ix_list (pv 1) (pv 4) (fun _ _ => rfl)) (pg_tup rfl (pgs_cons (pg_name (i := 5) nd rfl (.inl rfl)) (pgs_cons (pg_name (i := 6) nd rfl (.inl rfl)) pgs_nil))))
        (pss_cons (ps_asg (pe_tup (pa_cons (pe_callB (call_min2 rfl) (by rfl) T.z_min (by decide +kernel) (pa_cons (pe_ix ix_list (pv 3) (pv 5) (fun _ _ => rfl)) (pa_cons (pe_ix ix_list (pv 3) (pv 6) (fun _ _ => rfl)) pa_nil))) (pa_cons (pe_callB (call_max2 rfl) (by rfl) T.z_max (by decide +kernel) (pa_cons (pe_ix ix_list (pv 3) (pv 5) (fun _ _ => rfl)) (pa_cons (pe_ix ix_list (pv 3) (pv 6) (fun _ _ => rfl)) pa_nil))) pa_nil))) (pg_tup rfl (pgs_cons (pg_name (i := 7) nd rfl (.inr rfl)) (pgs_cons (pg_name (i := 8) nd rfl (.inr rfl)) pgs_nil))))
        (pss_one (ps_setLc (i := 3) (own := [("mark", 9)]) (g := (gName 9)) (tt := tYes) (te := (tIf (tTest (tOp rEq (tVar 9) (tVar 8))) (tVar 7) (tVar 9))) rfl nd rfl rfl (sw_true rfl rfl rfl (by decide +kernel)) (pi_list (pv 3)) (blkOk_by (own := [("mark", 9)]) (N := N_marks_by) (sc := (defScope s_marks_by)) (by decide +kernel)) (fun _ _ _ _ _ => (pg_name (i := 9) nd rfl (.inl rfl))) (fun _ _ _ _ _ => pts_nil) (fun _ _ _ _ _ => (pe_ifExp (pt_cmpR op_eq (pv 9) (pv 8) (nomark _)) (pv 7) (pv 9))))))))
      (pss_one (ps_ret (pv 3))))), ?_⟩
    refine ⟨.int n, rfl, n, rfl, RgOk.of_le (by omega) (by omega) (by omega) (by omega), fun p np => ?_⟩
    have s1 : Same H (upd H p (.lst (rgV 0 n))) := same_new np
    refine ⟨.ref b, rfl, b, rfl, ⟨_, s1.seq hL⟩, for_list (K := K) (a := b) (xs := natV L) (fun i σ H2 => ∃ p y4 y5 y6 y7 y8, σ = [some (.int n), some (.ref a), some (.ref b), some (.ref p), y4, y5, y6, y7, y8, none] ∧ Same H H2 ∧ H p = none ∧ H2 p = some (.lst (natV (marksBy n ts (L.take i)))))
      ⟨p, none, none, none, none, none, rfl, s1, np, by rw [upd_same, rgV_natV]; rfl⟩ (fun i σ H2 _ ⟨_, _, _, _, _, _, _, s2, _⟩ => s2.seq hL) ?_ ?_⟩
    · rintro i y σ H2 hi ⟨p, y4, y5, y6, y7, y8, rfl, s2, np, hp⟩
      obtain ⟨m, hm, rfl⟩ := natV_at hi
      have hmt : m < ts.length := hLt m (List.mem_of_getElem? hm)
      have ht : ts[m]? = some ts[m] := List.getElem?_eq_getElem hmt
      obtain ⟨xs, c, hx, hc, hct⟩ := (hT.same s2).get ht
      have ok := marksBy_ok hW (L.take i) (fun j hj => hLt j (List.mem_of_mem_take hj))
      have hw := hW.at ht
      obtain ⟨la, ha, hla, _⟩ := ok.get (u := ts[m].1) (by omega)
      obtain ⟨lb, hb, hlb, _⟩ := ok.get (u := ts[m].2) (by omega)
      have hS : SqL K H2 p (natV (marksBy n ts (L.take i))) := SqL.of hp
      -- one, other = ties[at]
      refine ⟨.ref a, rfl, .int m, rfl, a, xs, m, _, rfl, rfl, hx, atI_nat hc, c, _, rfl, hct, rfl, _, _, rfl, _, _, rfl, rfl, ?_⟩
      -- low, high = min(..), max(..)
      refine ⟨.ref p, rfl, _, rfl, p, _, _, _, rfl, rfl, hS, atI_nat (natV_get ha), .ref p, rfl, _, rfl, p, _, _, _, rfl, rfl, hS, atI_nat (natV_get hb), la, lb, rfl, ?_⟩
      refine ⟨.ref p, rfl, _, rfl, p, _, _, _, rfl, rfl, hS, atI_nat (natV_get ha), .ref p, rfl, _, rfl, p, _, _, _, rfl, rfl, hS, atI_nat (natV_get hb), la, lb, rfl, ?_⟩
      rw [min_nat, max_nat]
      refine ⟨sml (by show 2 ≤ 100000; decide), fun t nt => ⟨t, _, rfl, SqT.of upd_same, rfl, _, _, rfl, _, _, rfl, rfl, ?_⟩⟩
      have s3 : Same H2 (upd H2 t (.tup [.int ((min la lb : Nat) : Int), .int ((max la lb : Nat) : Int)])) := same_new nt
      -- marks = [..]
      refine ⟨.ref p, rfl, p, rfl, ⟨_, s3.seq hS⟩, fun D hD => lc_list (K := K) (a := p) (xs := natV (marksBy n ts (L.take i)))
        (fun j H3 => Same H2 H3 ∧ H2 D = none ∧ H3 D = some (.lst (natV (((marksBy n ts (L.take i)).take j).map fun m => if m = max la lb then min la lb else m))))
        ⟨s3.trans (same_new hD), s3.free hD, by rw [upd_same]; rfl⟩ (fun j H3 _ ⟨a, _⟩ => a.seq hS) ?_ ?_⟩
      · rintro j x H3 hj ⟨e3, nD, hD3⟩
        obtain ⟨z, hz, rfl⟩ := natV_at hj
        refine ⟨rfl, ?_⟩
        have fin : ∀ v : Nat, v = (if z = max la lb then min la lb else z) → ∃ acc, H3 D = some (.lst acc) ∧ acc.length < sizeLine ∧ Same H2 (upd H3 D (.lst (acc ++ [.int (v : Int)]))) ∧ H2 D = none ∧
            upd H3 D (.lst (acc ++ [.int (v : Int)])) D = some (.lst (natV (((marksBy n ts (L.take i)).take (j + 1)).map fun m => if m = max la lb then min la lb else m))) := fun v hv => by
          refine ⟨_, hD3, sml1 ?_, same_mut e3 nD, nD, ?_⟩
          · rw [natV_len, List.length_map, List.length_take, ok.len]
            omega
          · rw [upd_same, take_snoc hz, List.map_append, List.map_cons, List.map_nil, natV_snoc, ← hv]
        refine ⟨_, rfl, _, rfl, rfl, _, rfl, ite2 (fun e => ?_) (fun e => ?_)⟩
        · have e1 : (z : Int) = ((max la lb : Nat) : Int) := V.int.inj (of_decide_eq_true e)
          have e2 : z = max la lb := by omega
          refine ⟨_, rfl, ?_⟩
          exact fin _ (by rw [if_pos e2])
        · have e2 : ¬ z = max la lb := fun e2 => e (decide_eq_true (by rw [e2]))
          refine ⟨_, rfl, ?_⟩
          exact fin _ (by rw [if_neg e2])
      · rintro H3 ⟨e3, nD, hD3⟩
        refine ⟨D, _, _, _, _, _, rfl, s2.trans e3, s2.free nD, ?_⟩
        rw [hD3, take_snoc hm, marksBy_snoc, natV_len, List.take_length, stepM_at ht ha hb]
    · rintro σ H2 ⟨p, y4, y5, y6, y7, y8, rfl, s2, np, hp⟩
      rw [natV_len, List.take_length] at hp
      exact ⟨.ref p, rfl, q H2 p s2 np hp⟩
end
end Jp
end
section
set_option Elab.async false
set_option linter.all false
set_option maxRecDepth 100000
set_option maxHeartbeats 4000000
namespace Jp
open PySem L2

def groupsBy (n : Nat) (ts : List Tie) (L : List Nat) : List (List Nat) :=
  (roots n (marksBy n ts L)).map fun r => (List.range n).filter fun v => (marksBy n ts L)[v]? == some r

theorem lt_unique : ∀ {xs ys : List Int}, xs.Pairwise (· < ·) → ys.Pairwise (· < ·) → (∀ k, k ∈ xs ↔ k ∈ ys) → xs = ys
  | [], [], _, _, _ => rfl
  | [], y :: ys, _, _, h => absurd ((h y).mpr List.mem_cons_self) (by simp)
  | x :: xs, [], _, _, h => absurd ((h x).mp List.mem_cons_self) (by simp)
  | x :: xs, y :: ys, hx, hy, h => by
    rw [List.pairwise_cons] at hx hy
    have e : x = y := by
      rcases List.mem_cons.mp ((h x).mp List.mem_cons_self) with e | e
      · exact e
      · rcases List.mem_cons.mp ((h y).mpr List.mem_cons_self) with e' | e'
        · exact e'.symm
        · have := hx.1 y e'
          have := hy.1 x e
          omega
    subst e
    congr 1
    refine lt_unique hx.2 hy.2 fun k => ⟨fun hk => ?_, fun hk => ?_⟩
    · rcases List.mem_cons.mp ((h k).mp (List.mem_cons_of_mem _ hk)) with e | e
      · have := hx.1 k hk
        omega
      · exact e
    · rcases List.mem_cons.mp ((h k).mpr (List.mem_cons_of_mem _ hk)) with e | e
      · have := hy.1 k hk
        omega
      · exact e
/-- what a sorted set of natural numbers is -/
theorem sortedSet_eq {ns : List Int} {l : List Nat} {M : List Nat} (h1 : ns.Pairwise (· < ·)) (h2 : ∀ k : Int, k ∈ ns ↔ decide (k ∈ M.map fun (n : Nat) => (n : Int)) = true) (hl : l.Pairwise (· < ·)) (hm : ∀ m, m ∈ l ↔ m ∈ M) : ns = l.map fun (n : Nat) => (n : Int) := by
  refine lt_unique h1 ?_ fun k => ?_
  · rw [List.pairwise_map]
    exact hl.imp fun h => by omega
  · rw [h2 k, decide_eq_true_iff, List.mem_map, List.mem_map]
    constructor
    · rintro ⟨m, a, b⟩
      exact ⟨m, (hm m).mpr a, b⟩
    · rintro ⟨m, a, b⟩
      exact ⟨m, (hm m).mp a, b⟩
theorem set_len {ks : List Int} {M : List Nat} (nd : ks.Nodup) (h : ∀ k, k ∈ ks ↔ k ∈ M.map fun (n : Nat) => (n : Int)) : ks.length ≤ M.length := by
  have := len_le_of_sub nd fun k hk => (h k).mp hk
  rwa [List.length_map] at this
theorem roots_lt {n : Nat} {mk : List Nat} : (roots n mk).Pairwise (· < ·) := List.pairwise_lt_range.filter _

section
variable {P : Program} {w : World} {K : PySem.W.Frag} {mg : Str → Option Value} {base : Heap}
def spGroups (K : PySem.W.Frag) : Sp := fun vs H Q _ => ∃ (n : Nat) (a b : Addr) (ts : List Tie) (L : List Nat), vs = [.int (n : Int), .ref a, .ref b] ∧ TiesAt K H a ts ∧ SqL K H b (natV L) ∧ Web n ts ∧ (∀ i ∈ L, i < ts.length) ∧ n ≤ 10 ∧
  ∀ H' p ps, Same H H' → H p = none → (∀ c ∈ ps, H c = none) → LL H' p ps ((groupsBy n ts L).map natV) → Q (.ref p) H'

theorem LL.nil {H : Hp} {p : Addr} (h : H p = some (.lst [])) : LL H p [] [] := ⟨h, rfl, fun i q xs a _ => by simp at a, List.nodup_nil, by simp⟩
/-- one list more -/
theorem LL.snoc {H H' : Hp} {p q : Addr} {ps : List Addr} {xss : List (List V)} {xs : List V} (h : LL H p ps xss) (e : ∀ b o, H b = some o → b ≠ p → H' b = some o) (hp : H' p = some (.lst (ps.map V.ref ++ [.ref q]))) (hq : H q = none) (hqx : H' q = some (.lst xs)) (hm : ∀ c ∈ ps, ∃ o, H c = some o) :
    LL H' p (ps ++ [q]) (xss ++ [xs]) where
  top := by rw [hp, List.map_append]; rfl
  len := by rw [List.length_append, List.length_append, h.len]; rfl
  at_ := fun i c ys hc hy => by
    by_cases hi : i < ps.length
    · rw [List.getElem?_append_left hi] at hc
      rw [List.getElem?_append_left (by rw [← h.len]; exact hi)] at hy
      have := h.at_ i c ys hc hy
      refine e _ _ this fun z => h.np ?_
      rw [← z]
      exact List.mem_of_getElem? hc
    · have e1 : i = ps.length := by
        have := (List.getElem?_eq_some_iff.mp hc).1
        rw [List.length_append, List.length_singleton] at this
        omega
      subst e1
      rw [List.getElem?_concat_length] at hc
      rw [h.len, List.getElem?_concat_length] at hy
      cases hc
      cases hy
      exact hqx
  nd := by
    rw [List.nodup_append]
    refine ⟨h.nd, by simp, fun a ha b hb z => ?_⟩
    rw [List.mem_singleton] at hb
    subst hb
    obtain ⟨o, ho⟩ := hm a ha
    rw [z, hq] at ho
    cases ho
  np := fun hm' => by
    rcases List.mem_append.mp hm' with hm' | hm'
    · exact h.np hm'
    · rw [List.mem_singleton] at hm'
      have := h.top
      rw [hm', hq] at this
      cases this

abbrev N_groups_by : List Str := ["people", "ties", "some", "marks", "mark", "who"]
theorem sc_groups_by : FnScope N_groups_by ["people", "ties", "some"] (defScope s_groups_by) := ⟨rfl, rfl, rfl, by decide +kernel, rfl, by decide +kernel, by decide +kernel⟩
-- slots: people 0, ties 1, some 2, marks 3, mark 4, who 5
theorem ok_groups_by (T : Tx K mg) : FnOk P w K mg base CX0 2 T.f_groups_by T.d_groups_by ["people", "ties", "some"] (spGroups K) := by
  refine T.F_groups_by.ok sc_groups_by (fun vs H Q E h => ?_) (fun cdv A outer s H vs Q E hr h => ?_)
  · obtain ⟨n, a, b, ts, L, rfl, _⟩ := h
    rfl
  · obtain ⟨n, a, b, ts, L, rfl, hT, hL, hW, hLt, hn, q⟩ := h
    have nd := sc_groups_by.nd
    refine ⟨_, (pss_cons (ps_set (i := 3) nd rfl (.inr rfl) (pe_call (ok_marks_by T) (hr.mono (by decide)) (by rfl) T.g_marks_by T.F_marks_by.kp T.b_marks_by .nil pass0 (pa_cons (pv 0) (pa_cons (pv 1) (pa_cons (pv 2) pa_nil)))))
      (pss_one (ps_ret (pe_lc (own := [("mark", 4)]) (g := (gName 4)) (tt := tYes) (te := (tLc (iRng1 (tCons (tVar 0) tNil)) (gName 5) (tTest (tOp rEq (tOp (rIxL K) (tVar 3) (tVar 5)) (tVar 4))) (tVar 5) [5])) rfl nd (pi_list (pe_callB (cr_sortedSet rfl) (by rfl) T.z_sorted (by decide +kernel) (pa_cons (pe_callTy (cr_setL rfl) (by rfl) T.z_set (by decide +kernel) (pa_cons (pv 3) pa_nil)) pa_nil))) (blkOk_by (own := [("mark", 4)]) (N := N_groups_by) (sc := (defScope s_groups_by)) (by decide +kernel)) (fun _ _ _ _ _ => (pg_name (i := 4) nd rfl (.inr rfl))) (fun _ _ _ _ _ => pts_nil) (fun _ _ _ _ _ => (pe_lc (own := [("who", 5)]) (g := (gName 5)) (tt := (tTest (tOp rEq (tOp (rIxL K) (tVar 3) (tVar 5)) (tVar 4)))) (te := (tVar 5)) rfl nd (pi_range1 (by rfl) T.z_range (pa_cons (pv 0) pa_nil)) (blkOk_by (own := [("who", 5)]) (N := N_groups_by) (sc := ({ kind := .function, names := [(PySem.Str.ofString ".0", .local), (PySem.Str.ofString "mark", .cell), (PySem.Str.ofString "range", .globalImplicit), (PySem.Str.ofString "marks", .cell), (PySem.Str.ofString "people", .cell)], isGenerator := false, isCoroutine := false, more := [] })) (by decide +kernel)) (fun _ _ _ _ _ => (pg_name (i := 5) nd rfl (.inl rfl))) (fun _ _ _ _ _ => (pts_one (pt_cmpR op_eq (pe_ix ix_list (pv 3) (pv 5) (fun _ _ => rfl)) (pv 4) (nomark _)))) (fun _ _ _ _ _ => (pv 5)))))))), ?_⟩
    have ok := marksBy_ok hW L hLt
    -- marks = marks_by(people, ties, some)
    refine ⟨_, rfl, _, rfl, _, rfl, n, a, b, ts, L, rfl, hT, hL, hW, hLt, hn, fun H1 p s1 np hp => ?_⟩
    refine ⟨_, rfl, p, (marksBy n ts L).map fun (n : Nat) => (n : Int), rfl, SqL.of (by rw [← natV_int]; exact hp), (by rw [List.length_map, ok.len]; omega), fun z ks nd2 hks nz => ?_⟩
    have hz : ks.length ≤ n := by
      have := set_len nd2 hks
      rwa [ok.len] at this
    generalize e2 : upd H1 z _ = H2
    have s2 : Same H1 H2 := e2 ▸ same_new nz
    have h2 : H2 z = some (SetO w z (fun j => decide (j ∈ (marksBy n ts L).map fun (n : Nat) => (n : Int))) ks.length) := e2 ▸ upd_same
    refine ⟨z, _, _, rfl, h2, (by omega), fun ns l hns hmem _ nl => ?_⟩
    have ens : ns = (roots n (marksBy n ts L)).map fun (n : Nat) => (n : Int) := sortedSet_eq hns hmem roots_lt fun m => ok.mem_roots
    subst ens
    generalize e3 : upd H2 l _ = H3
    have s3 : Same H1 H3 := s2.trans (e3 ▸ same_new nl)
    have hl3 : SqL K H3 l (((roots n (marksBy n ts L)).map fun (n : Nat) => (n : Int)).map V.int) := SqL.of (e3 ▸ upd_same)
    refine ⟨l, rfl, ⟨_, hl3⟩, fun D hD => lc_list (K := K) (a := l) (xs := ((roots n (marksBy n ts L)).map fun (n : Nat) => (n : Int)).map V.int)
      (fun j H4 => Same H3 H4 ∧ H3 D = none ∧ ∃ ps : List Addr, (∀ c ∈ ps, H3 c = none) ∧ LL H4 D ps (((groupsBy n ts L).take j).map natV))
      ⟨same_new hD, hD, [], by simp, LL.nil upd_same⟩ (fun j H4 _ h => h.1.seq hl3) ?_ ?_⟩
    · rintro j x H4 hj ⟨s4, nD, ps, hps, hLL⟩
      rw [← natV_int] at hj
      obtain ⟨r, hrr, rfl⟩ := natV_at hj
      have hmk : H4 p = some (.lst (natV (marksBy n ts L))) := s4 _ _ (s3 _ _ hp)
      refine ⟨rfl, _, rfl, (n : Int), rfl, by omega, by omega, fun D2 hD2 => lc_range (lo := 0) (n := ((n : Int)).toNat)
        (fun i H5 => Same H4 H5 ∧ H4 D2 = none ∧ H5 D2 = some (.lst (natV ((List.range i).filter fun v => (marksBy n ts L)[v]? == some r))))
        ⟨same_new hD2, hD2, by rw [upd_same]; rfl⟩ ?_ ?_⟩
      · rintro i H5 hi ⟨s5, nD2, h2⟩
        have hin : i < n := by omega
        obtain ⟨m, hm, _⟩ := ok.get hin
        rw [Int.zero_add]
        refine ⟨rfl, _, rfl, _, rfl, p, _, _, _, rfl, rfl, SqL.of (s5 _ _ hmk), atI_nat (natV_get hm), _, rfl, rfl, _, rfl, ite2 (fun e => ?_) (fun e => ?_)⟩
        · have e1 : (m : Int) = (r : Int) := V.int.inj (of_decide_eq_true e)
          have e2 : m = r := by omega
          refine ⟨_, rfl, _, h2, sml1 ?_, same_mut s5 nD2, nD2, ?_⟩
          · rw [natV_len]
            have := List.length_filter_le (fun v => (marksBy n ts L)[v]? == some r) (List.range i)
            rw [List.length_range] at this
            omega
          · rw [upd_same, List.range_succ, List.filter_append, List.filter_cons, if_pos (by rw [hm, e2]; exact beq_self_eq_true _), List.filter_nil, natV_snoc]
        · have e2 : ¬ m = r := fun e2 => e (decide_eq_true (by rw [e2]))
          refine ⟨s5, nD2, ?_⟩
          rw [List.range_succ, List.filter_append, List.filter_cons, if_neg (by rw [hm]; simpa using e2), List.filter_nil, List.append_nil]
          exact h2
      · rintro H5 ⟨s5, nD2, h2⟩
        have hn0 : ((n : Int)).toNat = n := by omega
        rw [hn0] at h2
        have hDs := hLL.top
        have hnD2 : H3 D2 = none := s4.free nD2
        have hne : D2 ≠ D := fun z => by rw [z, hDs] at nD2; cases nD2
        refine ⟨ps.map V.ref, s5 _ _ hDs, sml1 ?_, same_mut (s4.trans s5) nD, nD, ps ++ [D2], fun c hc => ?_, ?_⟩
        · rw [List.length_map, hLL.len, List.length_map, List.length_take]
          have : (groupsBy n ts L).length = (roots n (marksBy n ts L)).length := by unfold groupsBy; rw [List.length_map]
          have h2 : (roots n (marksBy n ts L)).length ≤ n := by
            have := List.length_filter_le (fun v => (marksBy n ts L)[v]? == some v) (List.range n)
            rwa [List.length_range] at this
          omega
        · rcases List.mem_append.mp hc with hc | hc
          · exact hps c hc
          · rw [List.mem_singleton] at hc
            rw [hc]
            exact hnD2
        · have hg : (groupsBy n ts L)[j]? = some ((List.range n).filter fun v => (marksBy n ts L)[v]? == some r) := by
            unfold groupsBy
            rw [List.getElem?_map, hrr]
            rfl
          rw [take_snoc hg, List.map_append]
          refine hLL.snoc (fun b o hb hbD => ?_) upd_same nD2 (by rw [upd_ne hne]; exact h2) fun c hc => ?_
          · rw [upd_ne hbD]
            exact s5 _ _ hb
          · obtain ⟨i, hi⟩ := List.getElem?_of_mem hc
            have hil := (List.getElem?_eq_some_iff.mp hi).1
            rw [hLL.len] at hil
            exact ⟨_, hLL.at_ i c _ hi (List.getElem?_eq_getElem hil)⟩
    · rintro H4 ⟨s4, nD, ps, hps, hLL⟩
      rw [List.length_map, List.length_map] at hLL
      have : (groupsBy n ts L).take (roots n (marksBy n ts L)).length = groupsBy n ts L := List.take_of_length_le (by unfold groupsBy; rw [List.length_map]; exact Nat.le_refl _)
      rw [this] at hLL
      exact q H4 D ps (s1.trans (s3.trans s4)) ((s1.trans s3).free nD) (fun c hc => (s1.trans s3).free (hps c hc)) hLL
end
end Jp
end
section
set_option Elab.async false
set_option linter.all false
set_option maxRecDepth 100000
set_option maxHeartbeats 4000000
namespace Jp
open PySem L2

def intsD (l : List Int) : PyData := .list (l.map PyData.int)
theorem canLay_ints : ∀ l : List Int, PyData.canLayAll0 (l.map PyData.int) = true
  | [] => by simp [PyData.canLayAll0]
  | x :: l => by simp [PyData.canLayAll0, PyData.canLay0, canLay_ints l]
theorem depth_ints : ∀ l : List Int, PyData.depthAll (l.map PyData.int) ≤ 1
  | [] => by simp [PyData.depthAll]
  | x :: l => by
    have := depth_ints l
    simp [PyData.depthAll, PyData.depth]
    omega
theorem shaped_ints (l : List Int) : SeqAt.shaped (intsD l) = true := by
  unfold SeqAt.shaped intsD
  have := depth_ints l
  simp [PyData.canLay0, PyData.depth, canLay_ints l]
  omega
theorem eqvAll_ints : ∀ l m : List Int, PyData.eqvAll (l.map PyData.int) (m.map PyData.int) = decide (l = m)
  | [], [] => by simp [PyData.eqvAll]
  | [], y :: m => by simp [PyData.eqvAll]
  | x :: l, [] => by simp [PyData.eqvAll]
  | x :: l, y :: m => by
    simp only [List.map_cons, PyData.eqvAll, PyData.eqv, eqvAll_ints l m]
    by_cases h : x = y <;> simp [h]
theorem eqv_ints (l m : List Int) : PyData.eqv (intsD l) (intsD m) = decide (l = m) := by
  unfold intsD
  simp only [PyData.eqv]
  exact eqvAll_ints l m
section
variable {K : PySem.W.Frag} {H : Hp}
theorem dpAll_ints : ∀ l : List Int, DpAll K H (l.map V.int) (l.map PyData.int)
  | [] => .nil
  | x :: l => .cons (.int x) (dpAll_ints l)
theorem dp_ints {a : Addr} {l : List Int} (h : SqL K H a (l.map V.int)) : Dp K H (.ref a) (intsD l) := .lst h (dpAll_ints l)
end
def natI (l : List Nat) : List Int := l.map fun (n : Nat) => (n : Int)
theorem natI_inj {l m : List Nat} : natI l = natI m ↔ l = m := by
  refine ⟨fun h => ?_, fun h => by rw [h]⟩
  unfold natI at h
  refine List.map_inj_right (f := fun (n : Nat) => (n : Int)) (fun a b e => by
    have e' : (a : Int) = (b : Int) := e
    omega) |>.mp h
theorem natV_natI (l : List Nat) : natV l = (natI l).map V.int := natV_int l
theorem dp_nats {K : PySem.W.Frag} {H : Hp} {a : Addr} {l : List Nat} (h : SqL K H a (natV l)) : Dp K H (.ref a) (intsD (natI l)) := dp_ints (by rw [← natV_natI]; exact h)
theorem eqv_nats (l m : List Nat) : PyData.eqv (intsD (natI l)) (intsD (natI m)) = decide (l = m) := by
  rw [eqv_ints]
  exact decide_eq_decide.mpr natI_inj

def dN (l : List (Nat × V)) : List (Key × V) := l.map fun p => (Sum.inl (p.1 : Int), p.2)
theorem valV_dN : ∀ (l : List (Nat × V)) (x : Nat), valV (dN l) (Sum.inl (x : Int)) = l.lookup x
  | [], x => rfl
  | (a, v) :: l, x => by
    have ih := valV_dN l x
    unfold valV at ih ⊢
    unfold dN at ih ⊢
    rw [List.map_cons, List.find?_cons]
    by_cases e : x = a
    · subst e
      simp [List.lookup]
    · have h1 : ¬ ((Sum.inl (a : Int) : Key) = Sum.inl (x : Int)) := fun q => e (by have := Sum.inl.inj q; omega)
      have h2 : (x == a) = false := by simpa using e
      simp only [decide_eq_false h1, List.lookup, h2]
      exact ih
theorem putK_new {l : List (Nat × V)} {x : Nat} {v : V} (h : l.lookup x = none) : putK (dN l) (Sum.inl (x : Int)) v = dN (l ++ [(x, v)]) := by
  unfold putK
  have hx := lookup_none.mp h
  have e : ((dN l).any fun kv => decide (kv.1 = (Sum.inl (x : Int) : Key))) = false := by
    rw [List.any_eq_false]
    intro p hp
    unfold dN at hp
    obtain ⟨q, hq, rfl⟩ := List.mem_map.mp hp
    intro z
    have z1 := Sum.inl.inj (of_decide_eq_true z)
    exact hx (List.mem_map.mpr ⟨q, hq, by omega⟩)
  rw [if_neg (by rw [e]; decide)]
  unfold dN
  rw [List.map_append]
  rfl
theorem dN_len (l : List (Nat × V)) : (dN l).length = l.length := by
  unfold dN
  rw [List.length_map]
theorem dget_dN {H : Hp} {d : Addr} {l : List (Nat × V)} (h : H d = some (.dK (dN l))) (x : Nat) : DGet H d (.int (x : Int)) (l.lookup x) := by
  rw [← valV_dN]
  exact DGet.k (k := Sum.inl (x : Int)) h
theorem dput_dN {H : Hp} {d : Addr} {l : List (Nat × V)} {x : Nat} {v : V} (h : H d = some (.dK (dN l))) (hx : l.lookup x = none) (hl : l.length < 100000) : DPut H d (.int (x : Int)) v (upd H d (.dK (dN (l ++ [(x, v)])))) := by
  rw [← putK_new hx]
  exact DPut.k (k := Sum.inl (x : Int)) h (sml1 (by rw [dN_len]; exact hl))

theorem inV_int2 (x a b : Int) : inV (.int x) [.int a, .int b] = decide (x = a ∨ x = b) := by
  unfold inV
  simp only [List.any_cons, List.any_nil, Bool.or_false]
  show (decide (a = x) || decide (b = x)) = _
  rw [← Bool.decide_or]
  refine decide_eq_decide.mpr ⟨fun h => ?_, fun h => ?_⟩
  · rcases h with h | h
    · exact .inl h.symm
    · exact .inr h.symm
  · rcases h with h | h
    · exact .inl h.symm
    · exact .inr h.symm
theorem inV_nats (x : Int) (l : List Nat) : inV (.int x) (natV l) = decide (x ∈ natI l) := by
  induction l with
  | nil => rfl
  | cons a l ih =>
    unfold inV natV natI at ih ⊢
    rw [List.map_cons, List.map_cons, List.any_cons, ih]
    show (decide ((a : Int) = x) || _) = _
    rw [← Bool.decide_or]
    refine decide_eq_decide.mpr ⟨fun h => ?_, fun h => ?_⟩
    · rcases h with h | h
      · exact List.mem_cons.mpr (.inl h.symm)
      · exact List.mem_cons_of_mem _ h
    · rcases List.mem_cons.mp h with h | h
      · exact .inl h.symm
      · exact .inr h
theorem flat_nats (l : List Nat) : (natV l).all flatV = true := by
  rw [List.all_eq_true]
  intro x hx
  unfold natV at hx
  obtain ⟨n, _, rfl⟩ := List.mem_map.mp hx
  rfl
theorem atI_some {xs : List V} {z : Int} {x : V} {j : Nat} (e : z = (j : Int)) (h : xs[j]? = some x) : atI xs z = some x := by
  rw [e]
  exact atI_nat h
end Jp
end
section
set_option Elab.async false
set_option linter.all false
set_option pp.maxSteps 1200
set_option pp.deepTerms false
set_option maxRecDepth 100000
set_option maxHeartbeats 4000000
namespace Jp
open PySem L2

section
variable {P : Program} {w : World} {K : PySem.W.Frag} {mg : Str → Option Value} {base : Heap}

def spWay (K : PySem.W.Frag) : Sp := fun vs H Q _ => ∃ (n : Nat) (a o : Addr) (c u v : Nat) (ts : List Tie) (own : List Int), vs = [.ref a, .ref o, .int (c : Int), .int (u : Int), .int (v : Int)] ∧ TiesAt K H a ts ∧ SqL K H o (own.map V.int) ∧ Web n ts ∧ n ≤ 10 ∧ own.length = ts.length ∧ ts.length ≤ 1000 ∧
  u < n ∧ v < n ∧ Acy ts (Cls own c) ∧
  (∀ H', Same H H' → ¬ Conn ts (Cls own c) u v → Q .non H') ∧
  (∀ H' p W, Same H H' → H p = none → H' p = some (.lst (natV W)) → Conn ts (Cls own c) u v → (∀ y, y ∈ W ↔ OnWay ts own c u v y) → Q (.ref p) H')

structure WaySt (n : Nat) (ts : List Tie) (own : List Int) (c u : Nat) (H : Hp) (d wl : Addr) (cm : List (Nat × Addr × List Nat)) (wt : List Nat) (H2 : Hp) : Prop where
  same : Same H H2
  nd : H d = none
  nw : H wl = none
  hd : H2 d = some (.dK (dN (cm.map fun e => (e.1, V.ref e.2.1))))
  hw : H2 wl = some (.lst (natV wt))
  ent : ∀ e ∈ cm, H e.2.1 = none ∧ H2 e.2.1 = some (.lst (natV e.2.2)) ∧ e.2.1 ≠ wl ∧ e.2.2.length ≤ cm.length
  came : Came ts own c u n (cm.map fun e => (e.1, e.2.2))
  wk : ∀ x ∈ wt, x ∈ cm.map (·.1)
  le : wt.length ≤ cm.length
theorem keys_eq (cm : List (Nat × Addr × List Nat)) : (cm.map fun e => (e.1, e.2.2)).map (·.1) = cm.map (·.1) := by
  rw [List.map_map]
  rfl
theorem keys_eq2 (cm : List (Nat × Addr × List Nat)) : (cm.map fun e => (e.1, V.ref e.2.1)).map (·.1) = cm.map (·.1) := by
  rw [List.map_map]
  rfl
theorem look_cm {cm : List (Nat × Addr × List Nat)} (nd : (cm.map (·.1)).Nodup) {e : Nat × Addr × List Nat} (h : e ∈ cm) : (cm.map fun e => (e.1, V.ref e.2.1)).lookup e.1 = some (V.ref e.2.1) :=
  lookup_of_mem (by rw [keys_eq2]; exact nd) (List.mem_map.mpr ⟨e, h, rfl⟩)
theorem last_of {l : List Nat} (h : l ≠ []) : ∃ w0 x, l = w0 ++ [x] := ⟨_, _, (List.dropLast_concat_getLast h).symm⟩
theorem ends_of {t : Tie} {x : Nat} (h : x = t.1 ∨ x = t.2) : ∃ y, Ends2 t x y ∧ (t.1 : Int) + t.2 - x = (y : Int) ∧ (y = t.1 ∨ y = t.2) := by
  rcases h with h | h
  · exact ⟨t.2, .inl ⟨h.symm, rfl⟩, by omega, .inr rfl⟩
  · exact ⟨t.1, .inr ⟨rfl, h.symm⟩, by omega, .inl rfl⟩

abbrev N_way_of : List Str := ["ties", "owner", "forest", "one", "other", "came", "waiting", "here", "at", "tie", "there"]
theorem sc_way_of : FnScope N_way_of ["ties", "owner", "forest", "one", "other"] (defScope s_way_of) := ⟨rfl, rfl, rfl, by decide +kernel, rfl, by decide +kernel, by decide +kernel⟩
-- slots: ties 0, owner 1, forest 2, one 3, other 4, came 5, waiting 6, here 7, at 8, tie 9, there 10
theorem ok_way_of (T : Tx K mg) : FnOk P w K mg base CX0 1 T.f_way_of T.d_way_of ["ties", "owner", "forest", "one", "other"] (spWay K) := by
  refine T.F_way_of.ok sc_way_of (fun vs H Q E h => ?_) (fun cdv A outer s H vs Q E hr h => ?_)
  · obtain ⟨n, a, o, c, u, v, ts, own, rfl, _⟩ := h
    rfl
  · obtain ⟨n, a, o, c, u, v, ts, own, rfl, hT, hO, hW, hn, hlen, hts, hu, hv, hA, qN, qS⟩ := h
    have nd := sc_way_of.nd
    refine ⟨_, (pss_cons (ps_set (i := 5) nd rfl (.inl rfl) (pe_disp (pps_cons (pv 3) (pe_lst pa_nil) pps_nil) (by rfl) (by rfl) (fun z => by cases z) (by decide)))
      (pss_cons (ps_set (i := 6) nd rfl (.inl rfl) (pe_lst (pa_cons (pv 3) pa_nil)))
      (pss_cons (ps_while PassesOwn.never (pt_cmpR (op_neD hr.units) (pv 6) (pe_lst pa_nil) (nomark _)) 
        (pss_cons (ps_set (i := 7) nd rfl (.inl rfl) (pe_bm0 PySem.F.plainAttrs_list PySem.F.slot_list_pop PySem.F.type_list_pop mt_pop (pv 6)))
        (pss_one (ps_for PassesOwn.never rfl (pi_enum (by rfl) T.z_enumerate (pa_cons (pv 0) pa_nil)) (pg_tup rfl (pgs_cons (pg_name (i := 8) nd rfl (.inl rfl)) (pgs_cons (pg_name (i := 9) nd rfl (.inl rfl)) pgs_nil))) 
          (pss_one (ps_if (PW.pt (pw_and (pt_cmpR op_eq (pe_ix ix_list (pv 1) (pv 8) (fun _ _ => rfl)) (pv 2) (nomark _)) (pw_and1 (pt_cmpR op_in_seq (pv 7) (pv 9) (by rfl))))) 
            (pss_cons (ps_set (i := 10) nd rfl (.inl rfl) (pe_op op_sub (pe_op op_add (pe_ix ix_tup (pv 9) pe_int (fun _ _ => rfl)) (pe_ix ix_tup (pv 9) pe_int (fun _ _ => rfl))) (pv 7)))
            (pss_one (ps_if (pt_cmp (pc_dnotin (hu_of hr) (pv 10) (pv 5))) 
              (pss_cons (ps_dput (hu_of hr) (pv 5) (pv 10) (pe_op op_cat (pe_dget (hu_of hr) (pv 5) (pv 7) (fun _ _ => rfl)) (pe_lst (pa_cons (pv 8) pa_nil))) rfl)
              (pss_one (ps_expr (pe_bm PySem.F.plainAttrs_list PySem.F.slot_list_append PySem.F.type_list_append mt_append (pv 6) (pa_cons (pv 10) pa_nil))))) pss_nil))) pss_nil))))))
      (pss_one (ps_ret (pe_dget1 (hu_of hr) (pv 5) (pv 4) ⟨rfl, rfl, rfl, rfl⟩)))))), ?_⟩
    -- came = {one: []}
    refine fun d nd0 => ⟨_, rfl, sml (by decide), fun q nq => ⟨?_, [(Sum.inl (u : Int), .ref q)], rfl, (by show 1 ≤ 15; decide), ?_⟩⟩
    · rw [upd_ne (fun z => by rw [z] at nd0; rw [← z, upd_same] at nq; cases nq), upd_same]
    have ndq : d ≠ q := fun z => by rw [← z, upd_same] at nq; cases nq
    have nqH : H q = none := (same_new nd0).free nq
    generalize e1 : upd (upd (upd H d _) q _) d _ = H1
    have s1 : Same H H1 := by
      rw [← e1]
      exact same_mut (same_mut (same_new nd0) nqH) nd0
    have h1d : H1 d = some (.dK (dN ([((u, q, ([] : List Nat)) : Nat × Addr × List Nat)].map fun e => (e.1, V.ref e.2.1)))) := by
      rw [← e1, upd_same]
      rfl
    have h1q : H1 q = some (.lst (natV [])) := by
      rw [← e1, upd_ne ndq.symm, upd_same]
      rfl
    -- waiting = [one]
    refine ⟨_, rfl, sml (by show 1 ≤ 100000; decide), fun wl nwl => ?_⟩
    generalize e2 : upd H1 wl _ = H2
    have s2 : Same H1 H2 := by
      rw [← e2]
      exact same_new nwl
    have hq2 : q ≠ wl := ne_of_none h1q nwl
    have w0 : WaySt n ts own c u H d wl [(u, q, [])] [u] H2 :=
      { same := s1.trans s2, nd := nd0, nw := s1.free nwl, hd := s2 _ _ h1d, hw := by rw [← e2, upd_same]; rfl,
        ent := fun e he => by
          rw [List.mem_singleton] at he
          subst he
          exact ⟨nqH, s2 _ _ h1q, hq2, Nat.zero_le _⟩,
        came := Came.start hu, wk := fun x hx => by simpa using hx, le := Nat.le_refl _ }
    -- while waiting != []
    refine ⟨fun m σ H3 => ∃ cm wt y7 y8 y9 y10, σ = [some (.ref a), some (.ref o), some (.int c), some (.int u), some (.int v), some (.ref d), some (.ref wl), y7, y8, y9, y10] ∧ WaySt n ts own c u H d wl cm wt H3 ∧
        (∀ x ∈ cm.map (·.1), x ∉ wt → ∀ i t y, Cls own c i → ts[i]? = some t → Ends2 t x y → y ∈ cm.map (·.1)) ∧ m + cm.length = n + wt.length, ⟨n + 1 - 1, [(u, q, [])], [u], none, none, none, none, rfl, w0, fun x hx hx2 => ?_, by simp⟩, ?_⟩
    · rw [List.map_cons, List.map_nil, List.mem_singleton] at hx
      exact absurd (List.mem_singleton.mpr hx) hx2
    rintro m σ H3 ⟨cm, wt, y7, y8, y9, y10, rfl, S, cl, hm⟩
    have hcl : cm.length ≤ n := by
      have := S.came.len
      rwa [List.length_map] at this
    refine ⟨_, rfl, sml (by decide), fun z nz => ⟨_, _, dp_nats (l := wt) (SqL.of ((same_new nz) _ _ S.hw)), dp_nats (l := []) (SqL.of (by rw [upd_same]; rfl)), shaped_ints _, shaped_ints _, _, rfl, ?_⟩⟩
    rw [eqv_nats]
    refine ite2 (fun hne => ?_) (fun hne => ?_)
    · have hwt : wt ≠ [] := by simpa using hne
      obtain ⟨w1, hx, rfl⟩ := last_of hwt
      have s4 : Same H3 (upd H3 z (.lst [])) := same_new nz
      generalize e4 : upd H3 z _ = H4 at s4
      -- here = waiting.pop()
      refine ⟨fun σ' H' => ∃ m', m' < m ∧ ∃ cm wt y7 y8 y9 y10, σ' = [some (.ref a), some (.ref o), some (.int c), some (.int u), some (.int v), some (.ref d), some (.ref wl), y7, y8, y9, y10] ∧ WaySt n ts own c u H d wl cm wt H' ∧
        (∀ x ∈ cm.map (·.1), x ∉ wt → ∀ i t y, Cls own c i → ts[i]? = some t → Ends2 t x y → y ∈ cm.map (·.1)) ∧ m' + cm.length = n + wt.length, fun _ _ h => h, ?_⟩
      have hw4 : H4 wl = some (.lst (natV (w1 ++ [hx]))) := s4 _ _ S.hw
      refine ⟨_, rfl, .inl ⟨rfl, _, SqL.of hw4⟩, wl, _, .int hx, rfl, rfl, hw4, ?_, ?_⟩
      · rw [natV_snoc, List.length_append, List.length_singleton, Nat.add_sub_cancel, List.getElem?_concat_length]
      have hxk : hx ∈ cm.map (·.1) := S.wk hx (List.mem_append_right _ List.mem_cons_self)
      have hxn : hx < n := S.came.lt hx (by rw [keys_eq]; exact hxk)
      rw [natV_snoc, List.dropLast_concat]
      generalize e5 : upd H4 wl _ = H5
      have dwl : d ≠ wl := fun z => by
        have h1 := S.hd
        rw [z, S.hw] at h1
        cases h1
      have S5 : WaySt n ts own c u H d wl cm w1 H5 :=
        { same := by rw [← e5]; exact same_mut (S.same.trans s4) S.nw
          nd := S.nd
          nw := S.nw
          hd := by rw [← e5, upd_ne dwl]; exact s4 _ _ S.hd
          hw := by rw [← e5, upd_same]
          ent := fun e he => by
            obtain ⟨a1, a2, a3, a4⟩ := S.ent e he
            exact ⟨a1, by rw [← e5, upd_ne a3]; exact s4 _ _ a2, a3, a4⟩
          came := S.came
          wk := fun x hx => S.wk x (List.mem_append_left _ hx)
          le := by
            have := S.le
            rw [List.length_append, List.length_singleton] at this
            omega }
      obtain ⟨xs, hxs, hxl, hxt⟩ := hT.seq
      -- for at, tie in enumerate(ties)
      refine ⟨_, rfl, a, xs, rfl, S5.same.seq hxs, for_it (walk_enum (K := K) (a := a) (xs := xs)) (fun j σ H6 => ∃ cm' wt' y8 y9 y10, σ = [some (.ref a), some (.ref o), some (.int c), some (.int u), some (.int v), some (.ref d), some (.ref wl), some (.int hx), y8, y9, y10] ∧
          WaySt n ts own c u H d wl cm' wt' H6 ∧ hx ∈ cm'.map (·.1) ∧ (∀ x ∈ cm'.map (·.1), x ∉ wt' → x ≠ hx → ∀ i t y, Cls own c i → ts[i]? = some t → Ends2 t x y → y ∈ cm'.map (·.1)) ∧
          (∀ i t y, i < j → Cls own c i → ts[i]? = some t → Ends2 t hx y → y ∈ cm'.map (·.1)) ∧ wt'.length + cm.length = w1.length + cm'.length)
        ⟨cm, w1, _, _, _, rfl, S5, hxk, fun x hx1 hx2 hx3 => cl x hx1 (fun h => by
          rcases List.mem_append.mp h with h | h
          · exact hx2 h
          · exact hx3 (List.mem_singleton.mp h)), fun i t y h => by omega, rfl⟩ (fun j σ H6 _ ⟨_, _, _, _, _, _, S6, _⟩ => S6.same.seq hxs) ?_ ?_⟩
      · rintro j x σ H6 H7 hj ⟨cm', wt', y8, y9, y10, rfl, S6, hk6, cl6, cj6, hl6⟩ ⟨tp, x1, x2, rfl, ntp, rfl, f1, f2⟩
        cases f1
        obtain ⟨t, ct, ht, rfl, hct⟩ := hxt j x2 f2
        have hw := hW.at ht
        have hjl : j < own.length := by omega
        have hoj : own[j]? = some own[j] := List.getElem?_eq_getElem hjl
        have s7 : Same H6 (upd H6 tp (.tup [.int (j : Int), .ref ct])) := same_new ntp
        refine ⟨tp, _, rfl, SqT.of upd_same, rfl, _, _, rfl, _, _, rfl, rfl, ?_⟩
        generalize e7 : upd H6 tp _ = H7 at s7
        have s07 : Same H H7 := S6.same.trans s7
        have gO : (own.map V.int)[j]? = some (.int own[j]) := by
          rw [List.getElem?_map, hoj]
          rfl
        have S7 : WaySt n ts own c u H d wl cm' wt' H7 := { S6 with same := s07, hd := s7 _ _ S6.hd, hw := s7 _ _ S6.hw, ent := fun e he => ⟨(S6.ent e he).1, s7 _ _ (S6.ent e he).2.1, (S6.ent e he).2.2⟩ }
        have nothing : (∀ y, Cls own c j → Ends2 t hx y → y ∈ cm'.map (·.1)) → ∀ y8 y9 y10, ∃ cm'' wt'' z8 z9 z10, ([some (.ref a), some (.ref o), some (.int c), some (.int u), some (.int v), some (.ref d), some (.ref wl), some (.int hx), y8, y9, y10] : L2.St) = [some (.ref a), some (.ref o), some (.int c), some (.int u), some (.int v), some (.ref d), some (.ref wl), some (.int hx), z8, z9, z10] ∧
          WaySt n ts own c u H d wl cm'' wt'' H7 ∧ hx ∈ cm''.map (·.1) ∧ (∀ x ∈ cm''.map (·.1), x ∉ wt'' → x ≠ hx → ∀ i t y, Cls own c i → ts[i]? = some t → Ends2 t x y → y ∈ cm''.map (·.1)) ∧
          (∀ i t y, i < j + 1 → Cls own c i → ts[i]? = some t → Ends2 t hx y → y ∈ cm''.map (·.1)) ∧ wt''.length + cm.length = w1.length + cm''.length := by
          intro hno y8 y9 y10
          refine ⟨cm', wt', y8, y9, y10, rfl, S7, hk6, cl6, fun i s y hi hc hs he => ?_, hl6⟩
          by_cases e : i = j
          · subst e
            rw [ht] at hs
            cases hs
            exact hno y hc he
          · exact cj6 i s y (by omega) hc hs he
        -- if owner[at] == forest and here in tie
        refine ⟨_, rfl, _, rfl, o, _, _, _, rfl, rfl, s07.seq hO, atI_nat gO, _, rfl, rfl, _, rfl, ite2 (fun hof => ?_) (fun hof => iteF ?_)⟩
        · have hC : Cls own c j := by
            have := V.int.inj (of_decide_eq_true hof)
            show own[j]? = some (c : Int)
            rw [hoj, this]
          refine ⟨_, rfl, _, rfl, ct, _, rfl, .inr (same_tup s07 hct), rfl, rfl, _, rfl, ?_⟩
          rw [if_neg Bool.false_ne_true, inV_int2]
          refine ite2 (fun hin => ?_) (fun hin => ?_)
          · have hin' := of_decide_eq_true hin
            obtain ⟨y, he, hy, hyt⟩ := ends_of (t := t) (x := hx) (by omega)
            have hyn : y < n := by omega
            -- there = tie[0] + tie[1] - here
            refine ⟨_, rfl, ct, _, 0, _, rfl, rfl, same_tup s07 hct, atI_nat (j := 0) rfl, _, rfl, ct, _, 1, _, rfl, rfl, same_tup s07 hct, atI_nat (j := 1) rfl, _, _, rfl, rfl, _, rfl, _, _, rfl, rfl, ?_⟩
            dsimp only
            rw [hy]
            -- if there not in came
            refine ⟨_, rfl, _, rfl, d, _, rfl, dget_dN S7.hd y, _, rfl, ?_⟩
            by_cases hyk : y ∈ cm'.map (·.1)
            · have hsome : ((cm'.map fun e => (e.1, V.ref e.2.1)).lookup y).isSome = true := by
                cases hq : (cm'.map fun e => (e.1, V.ref e.2.1)).lookup y with
                | none => exact absurd hyk (by rw [← keys_eq2]; exact lookup_none.mp hq)
                | some _ => rfl
              rw [hsome]
              refine iteF ?_
              refine nothing (fun y' _ he' => ?_) _ _ _
              have : y' = y := by
                rcases he with ⟨a1, a2⟩ | ⟨a1, a2⟩ <;> rcases he' with ⟨b1, b2⟩ | ⟨b1, b2⟩ <;> omega
              rw [this]
              exact hyk
            · have hnone : (cm'.map fun e => (e.1, V.ref e.2.1)).lookup y = none := lookup_none.mpr (by rw [keys_eq2]; exact hyk)
              rw [hnone]
              refine iteT ?_
              obtain ⟨e0, he0, he01⟩ := List.mem_map.mp hk6
              have nd6 : (cm'.map (·.1)).Nodup := by
                rw [← keys_eq]
                exact S6.came.nd
              have hlook := look_cm nd6 he0
              rw [he01] at hlook
              obtain ⟨a1, a2, a3, a4⟩ := S7.ent e0 he0
              have hcl' : cm'.length ≤ n := by
                have := S7.came.len
                rwa [List.length_map] at this
              -- came[there] = came[here] + [at]
              refine ⟨_, rfl, _, rfl, d, .ref e0.2.1, rfl, by rw [← hlook]; exact dget_dN S7.hd hx, _, rfl, sml (by show 1 ≤ 100000; decide), fun l1 nl1 => ?_⟩
              have s8 : Same H7 (upd H7 l1 (.lst [.int (j : Int)])) := same_new nl1
              generalize e8 : upd H7 l1 _ = H8 at s8
              refine ⟨e0.2.1, l1, _, _, rfl, rfl, s8 _ _ a2, by rw [← e8]; exact upd_same, sml ?_, fun l2 nl2 => ?_⟩
              · rw [natV_len, List.length_singleton]
                omega
              rw [← natV_snoc]
              have s9 : Same H8 (upd H8 l2 (.lst (natV (e0.2.2 ++ [j])))) := same_new nl2
              have h9l : (upd H8 l2 (.lst (natV (e0.2.2 ++ [j])))) l2 = some (.lst (natV (e0.2.2 ++ [j]))) := upd_same
              generalize e9 : upd H8 l2 _ = H9 at s9 h9l
              have s79 := s8.trans s9
              have nl2H : H l2 = none := (s07.trans s8).free nl2
              have hd9 : H9 d = some (.dK (dN (cm'.map fun e => (e.1, V.ref e.2.1)))) := s79 _ _ S7.hd
              refine ⟨_, rfl, _, rfl, d, _, rfl, dput_dN hd9 hnone (by rw [List.length_map]; omega), ?_⟩
              generalize e10 : upd H9 d _ = H10
              have dl2 : l2 ≠ d := fun z => by
                rw [z, hd9] at h9l
                cases h9l
              have hwl9 : H9 wl = some (.lst (natV wt')) := s79 _ _ S7.hw
              have hwl10 : H10 wl = some (.lst (natV wt')) := by
                rw [← e10, upd_ne dwl.symm]
                exact hwl9
              have wl2 : l2 ≠ wl := fun z => by
                have h1 := s8 _ _ S7.hw
                rw [← z, nl2] at h1
                cases h1
              -- waiting.append(there)
              have hwtl := S7.le
              refine ⟨_, rfl, .inl ⟨rfl, _, SqL.of hwl10⟩, _, rfl, wl, _, _, rfl, rfl, hwl10, sml1 (by rw [natV_len]; omega), ?_⟩
              rw [← natV_snoc]
              generalize e11 : upd H10 wl _ = H11
              have hC9 := S7.came.add hA (x := hx) (y := y) (i := j) (P := e0.2.2) (by rw [← he01]; exact List.mem_map.mpr ⟨e0, he0, rfl⟩) hC ht he (by rw [keys_eq]; exact hyk) hyn
              have hcm : (cm' ++ [(y, l2, e0.2.2 ++ [j])]).map (fun e => (e.1, e.2.2)) = cm'.map (fun e => (e.1, e.2.2)) ++ [(y, e0.2.2 ++ [j])] := by rw [List.map_append]; rfl
              have hks : (cm' ++ [(y, l2, e0.2.2 ++ [j])]).map (·.1) = cm'.map (·.1) ++ [y] := by rw [List.map_append]; rfl
              have S11 : WaySt n ts own c u H d wl (cm' ++ [(y, l2, e0.2.2 ++ [j])]) (wt' ++ [y]) H11 :=
                { same := by
                    rw [← e11, ← e10]
                    exact same_mut (same_mut (s07.trans s79) S7.nd) S7.nw
                  nd := S7.nd
                  nw := S7.nw
                  hd := by
                    rw [← e11, upd_ne dwl, ← e10, upd_same, List.map_append]
                    rfl
                  hw := by rw [← e11, upd_same]
                  ent := fun e he => by
                    rw [List.length_append, List.length_singleton]
                    rcases List.mem_append.mp he with he | he
                    · obtain ⟨b1, b2, b3, b4⟩ := S7.ent e he
                      have hb := s79 _ _ b2
                      have bd : e.2.1 ≠ d := fun z => by
                        rw [z, hd9] at hb
                        cases hb
                      exact ⟨b1, by rw [← e11, upd_ne b3, ← e10, upd_ne bd]; exact hb, b3, by omega⟩
                    · rw [List.mem_singleton] at he
                      subst he
                      refine ⟨nl2H, by rw [← e11, upd_ne wl2, ← e10, upd_ne dl2]; exact h9l, wl2, ?_⟩
                      rw [List.length_append, List.length_singleton]
                      omega
                  came := by rw [hcm]; exact hC9
                  wk := fun x hx => by
                    rw [hks]
                    rcases List.mem_append.mp hx with hx | hx
                    · exact List.mem_append_left _ (S7.wk x hx)
                    · exact List.mem_append_right _ hx
                  le := by
                    have := S7.le
                    rw [List.length_append, List.length_append, List.length_singleton, List.length_singleton]
                    omega }
              refine ⟨_, _, _, _, _, rfl, S11, by rw [hks]; exact List.mem_append_left _ hk6, fun x hx1 hx2 hx3 i s z hc hs hz => ?_, fun i s z hi hc hs hz => ?_, ?_⟩
              · rw [hks] at hx1 ⊢
                rcases List.mem_append.mp hx1 with hx1 | hx1
                · exact List.mem_append_left _ (cl6 x hx1 (fun h => hx2 (List.mem_append_left _ h)) hx3 i s z hc hs hz)
                · exact absurd (List.mem_append_right _ hx1) hx2
              · rw [hks]
                by_cases e : i = j
                · subst e
                  rw [ht] at hs
                  cases hs
                  have : z = y := by
                    rcases he with ⟨a1, a2⟩ | ⟨a1, a2⟩ <;> rcases hz with ⟨b1, b2⟩ | ⟨b1, b2⟩ <;> omega
                  rw [this]
                  exact List.mem_append_right _ List.mem_cons_self
                · exact List.mem_append_left _ (cj6 i s z (by omega) hc hs hz)
              · rw [List.length_append, List.length_append, List.length_singleton, List.length_singleton]
                omega
          · refine nothing (fun y _ he => ?_) _ _ _
            refine absurd (decide_eq_true ?_) hin
            rcases he with ⟨a1, _⟩ | ⟨_, a1⟩
            · exact .inl (by rw [a1])
            · exact .inr (by rw [a1])
        · refine nothing (fun y hc _ => ?_) _ _ _
          refine absurd (decide_eq_true ?_) hof
          have hc' : own[j]? = some (c : Int) := hc
          rw [hoj] at hc'
          rw [Option.some.inj hc']
      · rintro σ H6 ⟨cm', wt', y8, y9, y10, rfl, S6, hk6, cl6, cj6, hl6⟩
        have hcl' : cm'.length ≤ n := by
          have := S6.came.len
          rwa [List.length_map] at this
        rw [List.length_append, List.length_singleton] at hm
        refine ⟨n + wt'.length - cm'.length, by omega, cm', wt', _, _, _, _, rfl, S6, fun x hx1 hx2 i t y hc ht he => ?_, by omega⟩
        by_cases e : x = hx
        · subst e
          have hi : i < xs.length := by
            rw [hxl]
            exact (List.getElem?_eq_some_iff.mp ht).1
          exact cj6 i t y hi hc ht he
        · exact cl6 x hx1 hx2 e i t y hc ht he
    · have hwt : wt = [] := by simpa using hne
      subst hwt
      have s4 : Same H3 (upd H3 z (.lst [])) := same_new nz
      generalize e4 : upd H3 z _ = H4 at s4
      -- return came.get(other)
      have nd3 : (cm.map (·.1)).Nodup := by
        rw [← keys_eq]
        exact S.came.nd
      refine ⟨_, rfl, d, rfl, .inl ⟨_, .inl (s4 _ _ S.hd)⟩, _, rfl, _, dget_dN (s4 _ _ S.hd) v, ?_⟩
      by_cases hvk : v ∈ cm.map (·.1)
      · obtain ⟨e0, he0, he01⟩ := List.mem_map.mp hvk
        have hlook := look_cm nd3 he0
        rw [he01] at hlook
        rw [hlook]
        obtain ⟨a1, a2, _, _⟩ := S.ent e0 he0
        obtain ⟨f1, f2⟩ := S.came.found (v := v) (P := e0.2.2) (by rw [← he01]; exact List.mem_map.mpr ⟨e0, he0, rfl⟩)
        exact qS H4 e0.2.1 e0.2.2 (S.same.trans s4) a1 (s4 _ _ a2) f1 f2
      · have hnone : (cm.map fun e => (e.1, V.ref e.2.1)).lookup v = none := lookup_none.mpr (by rw [keys_eq2]; exact hvk)
        rw [hnone]
        refine qN H4 (S.same.trans s4) (S.came.closed (fun x hx i t y hc ht he => ?_) (by rw [keys_eq]; exact hvk))
        rw [keys_eq] at hx ⊢
        exact cl x hx (by simp) i t y hc ht he
end
end Jp
end
section
set_option Elab.async false
set_option linter.all false
set_option pp.maxSteps 1200
set_option pp.deepTerms false
set_option maxRecDepth 100000
set_option maxHeartbeats 4000000
namespace Jp
open PySem L2

theorem iteN1 {x : Int} {A B : Prop} (h : A) : if (!decide (V.int x = V.non)) = true then A else B := by
  rw [decide_eq_false (fun z => by cases z)]
  exact h
theorem iteN0 {A B : Prop} (h : B) : if (!decide (V.non = V.non)) = true then A else B := by
  rw [decide_eq_true rfl]
  exact iteF h
theorem iteI1 {A B : Prop} (h : A) : if decide (V.non = V.non) = true then A else B := by
  rw [decide_eq_true rfl]
  exact iteT h
theorem iteI0 {x : Addr} {A B : Prop} (h : B) : if decide (V.ref x = V.non) = true then A else B := by
  rw [decide_eq_false (fun z => by cases z)]
  exact iteF h

def pv' : Option Nat → V
  | none => .non
  | some x => .int (x : Int)
def parL (w : List Nat) (par : Nat → Option Nat) : List (Nat × V) := w.map fun y => (y, pv' (par y))
theorem parL_keys (w : List Nat) (par : Nat → Option Nat) : (parL w par).map (·.1) = w := by
  unfold parL
  rw [List.map_map]
  exact List.map_id'' (fun _ => rfl) w
theorem parL_look {w : List Nat} {par : Nat → Option Nat} (nd : w.Nodup) {y : Nat} (h : y ∈ w) : (parL w par).lookup y = some (pv' (par y)) :=
  lookup_of_mem (by rw [parL_keys]; exact nd) (List.mem_map.mpr ⟨y, h, rfl⟩)
theorem parL_none {w : List Nat} {par : Nat → Option Nat} {y : Nat} (h : y ∉ w) : (parL w par).lookup y = none := lookup_none.mpr (by rw [parL_keys]; exact h)
theorem parL_snoc {w : List Nat} {par : Nat → Option Nat} {y x : Nat} (h : y ∉ w) : parL (w ++ [y]) (fun z => if z = y then some x else par z) = parL w par ++ [(y, .int (x : Int))] := by
  unfold parL
  rw [List.map_append]
  congr 1
  · refine List.map_congr_left fun z hz => ?_
    have hzy : z ≠ y := fun e => h (e ▸ hz)
    show (z, pv' (if z = y then some x else par z)) = (z, pv' (par z))
    rw [if_neg hzy]
  · show [(y, pv' (if y = y then some x else par y))] = _
    rw [if_pos rfl]
    rfl
theorem intsV_get {own : List Int} {i : Nat} {j : Int} (h : own[i]? = some j) : (own.map V.int)[i]? = some (.int j) := by
  rw [List.getElem?_map, h]
  rfl

section
variable {P : Program} {w : World} {K : PySem.W.Frag} {mg : Str → Option Value} {base : Heap}

def spPut (K : PySem.W.Frag) : Sp := fun vs H Q _ => ∃ (n : Nat) (a o : Addr) (k f : Nat) (ts : List Tie) (own : List Int), vs = [.ref a, .ref o, .int (k : Int), .int (f : Int)] ∧ TiesAt K H a ts ∧ H o = some (.lst (own.map V.int)) ∧ Web n ts ∧ n ≤ 10 ∧ ts.length ≤ 1000 ∧ k ≤ 1000 ∧
  Own ts k own ∧ Fst ts own ∧ f < ts.length ∧ own[f]? = some (-1) ∧
  (∀ H' own', (∀ b x, H b = some x → b ≠ o → H' b = some x) → H' o = some (.lst (own'.map V.int)) → Put ts k own f own' → Q .non H') ∧
  (∀ H' p wt, Same H H' → H p = none → H' p = some (.lst (natV wt)) → f ∈ wt → (∀ x ∈ wt, x < ts.length) → Closed ts k own (· ∈ wt) → wt.length ≤ ts.length → Q (.ref p) H')

structure PutSt (ts : List Tie) (k : Nat) (own : List Int) (f : Nat) (H : Hp) (d wl : Addr) (wt : List Nat) (par : Nat → Option Nat) (done : Nat → Int → Prop) (H2 : Hp) : Prop where
  same : Same H H2
  nd : H d = none
  nw : H wl = none
  hd : H2 d = some (.dK (dN (parL wt par)))
  hw : H2 wl = some (.lst (natV wt))
  s : Srch ts k own f wt par done
theorem PutSt.len {ts : List Tie} {k : Nat} {own : List Int} {f : Nat} {H : Hp} {d wl : Addr} {wt : List Nat} {par : Nat → Option Nat} {done : Nat → Int → Prop} {H2 : Hp} (S : PutSt ts k own f H d wl wt par done H2) : wt.length ≤ ts.length := by
  have h := len_le_of_sub (ys := List.range ts.length) S.s.nd fun x hx => List.mem_range.mpr (S.s.lt x hx)
  rwa [List.length_range] at h
theorem PutSt.mono {ts : List Tie} {k : Nat} {own : List Int} {f : Nat} {H : Hp} {d wl : Addr} {wt : List Nat} {par : Nat → Option Nat} {done : Nat → Int → Prop} {H2 H3 : Hp} (S : PutSt ts k own f H d wl wt par done H2) (e : Same H2 H3) :
    PutSt ts k own f H d wl wt par done H3 := { S with same := S.same.trans e, hd := e _ _ S.hd, hw := e _ _ S.hw }

abbrev N_put_in : List Str := ["ties", "owner", "many", "first", "parent", "waiting", "place", "here", "forest", "way", "before", "at"]
theorem sc_put_in : FnScope N_put_in ["ties", "owner", "many", "first"] (defScope s_put_in) := ⟨rfl, rfl, rfl, by decide +kernel, rfl, by decide +kernel, by decide +kernel⟩
-- slots: ties 0, owner 1, many 2, first 3, parent 4, waiting 5, place 6, here 7, forest 8, way 9, before 10, at 11
theorem ok_put_in (T : Tx K mg) : FnOk P w K mg base CX0 2 T.f_put_in T.d_put_in ["ties", "owner", "many", "first"] (spPut K) := by
  refine T.F_put_in.ok sc_put_in (fun vs H Q E h => ?_) (fun cdv A outer s H vs Q E hr h => ?_)
  · obtain ⟨n, a, o, k, f, ts, own, rfl, _⟩ := h
    rfl
  · obtain ⟨n, a, o, k, f, ts, own, rfl, hT, hO, hW, hn, hts, hk, hOw, hF, hf, hof, qY, qN⟩ := h
    have nd := sc_put_in.nd
    refine ⟨_, (pss_cons (ps_set (i := 4) nd rfl (.inl rfl) (pe_disp (pps_cons (pv 3) pe_non pps_nil) (by rfl) (by rfl) (fun z => by cases z) (by decide)))
      (pss_cons (ps_set (i := 5) nd rfl (.inl rfl) (pe_lst (pa_cons (pv 3) pa_nil)))
      (pss_cons (ps_set (i := 6) nd rfl (.inl rfl) pe_int)
      (pss_cons (ps_while PassesOwn.never (pt_cmpR op_lt (pv 6) (pe_callB call_len_seq (by rfl) T.z_len PySem.boot_len (pa_cons (pv 5) pa_nil)) (nomark _)) 
        (pss_cons (ps_set (i := 7) nd rfl (.inl rfl) (pe_ix ix_list (pv 5) (pv 6) (fun _ _ => rfl)))
        (pss_cons (ps_set (i := 6) nd rfl (.inl rfl) (pe_op op_add (pv 6) pe_int))
        (pss_one (ps_for PassesOwn.never rfl (pi_range1 (by rfl) T.z_range (pa_cons (pv 2) pa_nil)) (pg_name (i := 8) nd rfl (.inl rfl)) 
          (pss_one (ps_if (pt_cmpR op_ne (pe_ix ix_list (pv 1) (pv 7) (fun _ _ => rfl)) (pv 8) (nomark _)) 
            (pss_cons (ps_set (i := 9) nd rfl (.inl rfl) (pe_call (ok_way_of T) (hr.mono (by decide)) (by rfl) T.g_way_of T.F_way_of.kp T.b_way_of .nil pass0 (pa_cons (pv 0) (pa_cons (pv 1) (pa_cons (pv 8) (pa_cons (pe_ix ix_tup (pe_ix ix_list (pv 0) (pv 7) (fun _ _ => rfl)) pe_int (fun _ _ => rfl)) (pa_cons (pe_ix ix_tup (pe_ix ix_list (pv 0) (pv 7) (fun _ _ => rfl)) pe_int (fun _ _ => rfl)) pa_nil)))))))
            (pss_cons (ps_if (pt_cmpR op_isN (pv 9) pe_non (nomark _)) 
              (pss_cons (ps_while PassesOwn.never (pt_cmpR op_notN (pv 7) pe_non (nomark _)) 
                (pss_cons (ps_set (i := 10) nd rfl (.inl rfl) (pe_ix ix_list (pv 1) (pv 7) (fun _ _ => rfl)))
                (pss_cons (ps_asg (pv 8) (pg_sub (pv 1) (pv 7) set_list))
                (pss_cons (ps_set (i := 8) nd rfl (.inl rfl) (pv 10))
                (pss_one (ps_set (i := 7) nd rfl (.inl rfl) (pe_dget (hu_of hr) (pv 4) (pv 7) (fun _ _ => rfl))))))))
              (pss_one (ps_ret pe_non))) pss_nil)
            (pss_one (ps_for PassesOwn.never rfl (pi_list (pv 9)) (pg_name (i := 11) nd rfl (.inl rfl)) 
              (pss_one (ps_if (pt_cmp (pc_dnotin (hu_of hr) (pv 11) (pv 4))) 
                (pss_cons (ps_dput (hu_of hr) (pv 4) (pv 11) (pv 7) rfl)
                (pss_one (ps_expr (pe_bm PySem.F.plainAttrs_list PySem.F.slot_list_append PySem.F.type_list_append mt_append (pv 5) (pa_cons (pv 11) pa_nil))))) pss_nil)))))) pss_nil)))))))
      (pss_one (ps_ret (pv 5))))))), ?_⟩
    -- parent = {first: None}
    refine fun d nd0 => ⟨_, rfl, upd_same, [(Sum.inl (f : Int), .non)], rfl, (by show 1 ≤ 15; decide), ?_⟩
    generalize e1 : upd (upd H d _) d _ = H1
    have s1 : Same H H1 := by
      rw [← e1]
      exact same_mut (same_new nd0) nd0
    have h1d : H1 d = some (.dK (dN (parL [f] fun _ => none))) := by
      rw [← e1, upd_same]
      rfl
    -- waiting = [first]; place = 0
    refine ⟨_, rfl, sml (by show 1 ≤ 100000; decide), fun wl nwl => ?_⟩
    generalize e2 : upd H1 wl _ = H2
    have s2 : Same H1 H2 := by
      rw [← e2]
      exact same_new nwl
    have dwl : d ≠ wl := ne_of_none h1d nwl
    have S0 : PutSt ts k own f H d wl [f] (fun _ => none) (fun _ _ => False) H2 :=
      { same := s1.trans s2, nd := nd0, nw := s1.free nwl, hd := s2 _ _ h1d, hw := by rw [← e2, upd_same]; rfl, s := Srch.start hf }
    have do_ : d ≠ o := fun z => by rw [z, hO] at nd0; cases nd0
    have wlo : wl ≠ o := fun z => by have := s1.free nwl; rw [z, hO] at this; cases this
    -- while place < len(waiting)
    refine ⟨fun m σ H3 => ∃ pc wt par done y7 y8 y9 y10 y11, σ = [some (.ref a), some (.ref o), some (.int k), some (.int f), some (.ref d), some (.ref wl), some (.int ((pc : Nat) : Int)), y7, y8, y9, y10, y11] ∧
      PutSt ts k own f H d wl wt par done H3 ∧ (∀ q c, done q c ↔ q < pc) ∧ pc ≤ wt.length ∧ m = ts.length - pc, ⟨ts.length, 0, [f], _, _, none, none, none, none, none, rfl, S0, fun q c => by simp, Nat.zero_le _, rfl⟩, ?_⟩
    rintro m σ H3 ⟨pc, wt, par, done, y7, y8, y9, y10, y11, rfl, S, hdone, hpc, rfl⟩
    have hwl := S.len
    refine ⟨_, rfl, _, rfl, wl, _, rfl, .inl (SqL.of S.hw), _, _, rfl, rfl, _, rfl, ?_⟩
    rw [natV_len]
    refine ite2 (fun hlt => ?_) (fun hlt => ?_)
    · have hlt' : pc < wt.length := by
        have := of_decide_eq_true hlt
        omega
      have hx : wt[pc]? = some wt[pc] := List.getElem?_eq_getElem hlt'
      generalize wt[pc] = x at hx
      have hxt : x < ts.length := S.s.lt x (List.mem_of_getElem? hx)
      have ht : ts[x]? = some ts[x] := List.getElem?_eq_getElem hxt
      have hxo : x < own.length := by
        rw [hOw.1]
        exact hxt
      have hox : own[x]? = some own[x] := List.getElem?_eq_getElem hxo
      have hw := hW.at ht
      refine ⟨fun σ' H' => ∃ m', m' < ts.length - pc ∧ ∃ pc wt par done y7 y8 y9 y10 y11, σ' = [some (.ref a), some (.ref o), some (.int k), some (.int f), some (.ref d), some (.ref wl), some (.int ((pc : Nat) : Int)), y7, y8, y9, y10, y11] ∧
        PutSt ts k own f H d wl wt par done H' ∧ (∀ q c, done q c ↔ q < pc) ∧ pc ≤ wt.length ∧ m' = ts.length - pc, fun _ _ h => h, ?_⟩
      -- here = waiting[place]; place = place + 1
      refine ⟨_, rfl, _, rfl, wl, _, _, _, rfl, rfl, SqL.of S.hw, atI_nat (natV_get hx), ?_⟩
      refine ⟨_, rfl, _, _, rfl, rfl, ?_⟩
      -- for forest in range(many)
      refine ⟨_, rfl, (k : Int), rfl, by omega, by omega, for_it (walk_range (lo := 0) (n := ((k : Int)).toNat)) (fun j σ H4 => ∃ wt par done y8 y9 y10 y11, σ = [some (.ref a), some (.ref o), some (.int k), some (.int f), some (.ref d), some (.ref wl), some (.int ((pc : Int) + 1)), some (.int x), y8, y9, y10, y11] ∧
        PutSt ts k own f H d wl wt par done H4 ∧ (∀ q c, done q c ↔ q < pc ∨ (q = pc ∧ c < (j : Int) ∧ 0 ≤ c)) ∧ wt[pc]? = some x)
        ⟨wt, par, done, _, _, _, _, rfl, S, fun q c => by rw [hdone]; constructor <;> intro h <;> omega, hx⟩ (fun _ _ _ _ _ => True.intro) ?_ ?_⟩
      · rintro j z σ H4 H4' hj ⟨wt, par, done, y8, y9, y10, y11, rfl, S, hdone, hx⟩ ⟨rfl, hz0⟩
        have hjk : j < k := by omega
        have hz1 : z = V.int (j : Int) := by
          rw [hz0]
          show V.int (0 + (j : Int)) = _
          rw [Int.zero_add]
        subst hz1
        have hdx : ∀ q c, done q c → q ≤ pc := fun q c h => by
          have := (hdone q c).mp h
          omega
        -- if owner[here] != forest
        refine ⟨_, rfl, _, rfl, o, _, _, _, rfl, rfl, SqL.of (S.same _ _ hO), atI_nat (intsV_get hox), _, rfl, rfl, _, rfl, ?_⟩
        by_cases hne : own[x] = (j : Int)
        · rw [hne, decide_eq_true rfl]
          refine iteF ?_
          refine ⟨wt, par, fun q c => done q c ∨ (q = pc ∧ c = (j : Int)), _, _, _, _, rfl, { S with s := S.s.look fun q z u c hz hu hd' hd c0 c1 hzc => ?_ }, fun q c => ?_, hx⟩
          · rcases hd' with hd' | ⟨rfl, rfl⟩
            · exact absurd hd' hd
            · rw [hx] at hz
              cases hz
              exact absurd (by rw [hox, hne]) hzc
          · show (done q c ∨ (q = pc ∧ c = (j : Int))) ↔ _
            rw [hdone]
            constructor <;> intro h <;> omega
        · have hne' : ¬ (V.int own[x] = V.int (j : Int)) := fun e => hne (V.int.inj e)
          rw [decide_eq_false hne']
          refine iteT ?_
          have hnc : own[x]? ≠ some (j : Int) := fun e => hne (by rw [hox] at e; exact Option.some.inj e)
          obtain ⟨xs, ct, hxs, hct, hctt⟩ := (hT.same S.same).get ht
          -- way = way_of(ties, owner, forest, ties[here][0], ties[here][1])
          refine ⟨_, rfl, _, rfl, _, rfl, _, rfl, _, rfl, a, xs, _, _, rfl, rfl, hxs, atI_nat hct, ct, _, 0, _, rfl, rfl, hctt, atI_nat (j := 0) rfl, _, rfl, _, rfl, a, xs, _, _, rfl, rfl, hxs, atI_nat hct, ct, _, 1, _, rfl, rfl, hctt, atI_nat (j := 1) rfl, ?_⟩
          refine ⟨n, a, o, j, ts[x].1, ts[x].2, ts, own, rfl, hT.same S.same, SqL.of (S.same _ _ hO), hW, hn, hOw.1, hts, hw.1, hw.2.1, hF j (by omega), fun H5 s5 hcon => ?_, fun H5 wp wy s5 nwp hwp hcon hway => ?_⟩
          · -- it is None: the steps back
            have S5 := S.mono s5
            refine ⟨_, rfl, rfl, _, rfl, iteI1 ?_⟩
            have B0 := Back.start (k := k) (c := (j : Int)) hF hOw S.s hx (by omega) (by omega) hnc fun t h => by
              rw [ht] at h
              cases h
              exact hcon
            refine ⟨fun m σ H6 => ∃ own' y8 y7 y9 y10, σ = [some (.ref a), some (.ref o), some (.int k), some (.int f), some (.ref d), some (.ref wl), some (.int ((pc : Int) + 1)), some y7, some (.int y8), y9, y10, y11] ∧
              (∀ b x, H5 b = some x → b ≠ o → H6 b = some x) ∧ H6 o = some (.lst (own'.map V.int)) ∧ ((∃ p z, y7 = V.int ((z : Nat) : Int) ∧ m = p + 1 ∧ Back ts k own wt own' p z y8) ∨ (y7 = .non ∧ m = 0 ∧ Put ts k own f own')),
              ⟨pc + 1, own, _, _, _, _, rfl, fun _ _ h _ => h, s5 _ _ (S.same _ _ hO), .inl ⟨pc, x, rfl, rfl, B0⟩⟩, ?_⟩
            rintro m σ H6 ⟨own', y8', y7', y9', y10', rfl, hk6, ho6, hB⟩
            rcases hB with ⟨p, z, rfl, rfl, B⟩ | ⟨rfl, rfl, hP⟩
            · refine ⟨_, rfl, rfl, _, rfl, iteN1 ?_⟩
              refine ⟨fun σ' H' => ∃ m', m' < p + 1 ∧ ∃ own' y8 y7 y9 y10, σ' = [some (.ref a), some (.ref o), some (.int k), some (.int f), some (.ref d), some (.ref wl), some (.int ((pc : Int) + 1)), some y7, some (.int y8), y9, y10, y11] ∧
                (∀ b x, H5 b = some x → b ≠ o → H' b = some x) ∧ H' o = some (.lst (own'.map V.int)) ∧ ((∃ p z, y7 = V.int ((z : Nat) : Int) ∧ m' = p + 1 ∧ Back ts k own wt own' p z y8) ∨ (y7 = .non ∧ m' = 0 ∧ Put ts k own f own')), fun _ _ h => h, ?_⟩
              have hzt : z < ts.length := S.s.lt z (List.mem_of_getElem? B.at_)
              have hzo : z < own'.length := by
                rw [B.ow.1]
                exact hzt
              have hoz : own'[z]? = some own'[z] := List.getElem?_eq_getElem hzo
              -- before = owner[here]; owner[here] = forest; forest = before; here = parent[here]
              refine ⟨_, rfl, _, rfl, o, _, _, _, rfl, rfl, SqL.of ho6, atI_nat (intsV_get hoz), ?_⟩
              refine ⟨_, rfl, _, rfl, _, rfl, o, _, _, z, rfl, rfl, ho6, ?_, ?_⟩
              · rw [List.length_map]
                exact Evl.ixN_nat hzo
              have hset : (own'.map V.int).set z (V.int y8') = (own'.set z y8').map V.int := by rw [List.map_set]
              rw [hset]
              generalize e7 : upd H6 o _ = H7
              have hk7 : ∀ b x, H5 b = some x → b ≠ o → H7 b = some x := fun b x h hb => by
                rw [← e7, upd_ne hb]
                exact hk6 b x h hb
              have ho7 : H7 o = some (.lst ((own'.set z y8').map V.int)) := by rw [← e7, upd_same]
              have hd7 : H7 d = some (.dK (dN (parL wt par))) := hk7 _ _ S5.hd do_
              refine ⟨_, rfl, _, rfl, _, rfl, d, pv' (par z), rfl, ?_, ?_⟩
              · rw [← parL_look S.s.nd (List.mem_of_getElem? B.at_)]
                exact dget_dN hd7 z
              rcases B.step hF S.s with ⟨hp, hzf, hpar⟩ | ⟨q, z', b, hq, hpar, hb, B'⟩
              · refine ⟨0, by omega, own'.set z y8', own'[z], pv' (par z), _, _, rfl, hk7, ho7, .inr ⟨by rw [hpar]; rfl, rfl, B.last hF S.s hzf⟩⟩
              · rw [hoz] at hb
                refine ⟨q + 1, by omega, own'.set z y8', own'[z], pv' (par z), _, _, rfl, hk7, ho7, .inl ⟨q, z', by rw [hpar]; rfl, rfl, ?_⟩⟩
                rw [Option.some.inj hb]
                exact B'
            · refine ⟨_, rfl, rfl, _, rfl, iteN0 ?_⟩
              exact qY H6 own' (fun b y h hb => hk6 b y (s5 _ _ (S.same _ _ h)) hb) ho6 hP
          · -- for at in way
            refine ⟨_, rfl, rfl, _, rfl, iteI0 ?_⟩
            have S5 := S.mono s5
            refine ⟨_, rfl, wp, rfl, ⟨_, SqL.of hwp⟩, for_list (K := K) (a := wp) (xs := natV wy) (fun i σ H6 => ∃ wt' par' y11, σ = [some (.ref a), some (.ref o), some (.int k), some (.int f), some (.ref d), some (.ref wl), some (.int ((pc : Int) + 1)), some (.int x), some (.int j), some (.ref wp), y10, y11] ∧
              PutSt ts k own f H d wl wt' par' done H6 ∧ H6 wp = some (.lst (natV wy)) ∧ wt'[pc]? = some x ∧ (∀ y ∈ wy.take i, y ∈ wt'))
              ⟨wt, par, _, rfl, S5, hwp, hx, by simp⟩ (fun i σ H6 _ ⟨_, _, _, _, _, h, _⟩ => SqL.of h) ?_ ?_⟩
            · rintro i yv σ H6 hi ⟨wt', par', y11', rfl, S6, hwp6, hx6, hin⟩
              obtain ⟨y, hy, rfl⟩ := natV_at hi
              have hyw : OnWay ts own j ts[x].1 ts[x].2 y := (hway y).mp (List.mem_of_getElem? hy)
              -- if at not in parent
              refine ⟨_, rfl, _, rfl, d, _, rfl, dget_dN S6.hd y, _, rfl, ?_⟩
              by_cases hym : y ∈ wt'
              · rw [parL_look S6.s.nd hym]
                refine iteF ?_
                refine ⟨wt', par', _, rfl, S6, hwp6, hx6, fun y' hy' => ?_⟩
                rw [take_snoc hy] at hy'
                rcases List.mem_append.mp hy' with h | h
                · exact hin y' h
                · rw [List.mem_singleton] at h
                  rw [h]
                  exact hym
              · rw [parL_none hym]
                refine iteT ?_
                have hl6 := S6.len
                refine ⟨_, rfl, _, rfl, _, rfl, d, _, rfl, dput_dN S6.hd (parL_none hym) (by unfold parL; rw [List.length_map]; omega), ?_⟩
                rw [← parL_snoc hym]
                generalize e7 : upd H6 d _ = H7
                have hwl7 : H7 wl = some (.lst (natV wt')) := by
                  rw [← e7, upd_ne dwl.symm]
                  exact S6.hw
                refine ⟨_, rfl, .inl ⟨rfl, _, SqL.of hwl7⟩, _, rfl, wl, _, _, rfl, rfl, hwl7, sml1 (by rw [natV_len]; omega), ?_⟩
                rw [← natV_snoc]
                generalize e8 : upd H7 wl _ = H8
                have wpd : wp ≠ d := fun z => by
                  have h1 := S6.hd
                  rw [← z, hwp6] at h1
                  cases h1
                have wpwl : wp ≠ wl := fun z => by
                  have h1 := S.hw
                  rw [← z, nwp] at h1
                  cases h1
                refine ⟨wt' ++ [y], fun z => if z = y then some x else par' z, _, rfl,
                  { same := by
                      rw [← e8, ← e7]
                      exact same_mut (same_mut S6.same S6.nd) S6.nw
                    nd := S6.nd
                    nw := S6.nw
                    hd := by rw [← e8, upd_ne dwl, ← e7, upd_same]
                    hw := by rw [← e8, upd_same]
                    s := S6.s.found hx6 ht (by omega) (by omega) hnc hcon hyw hym (fun q hq c => (hdone q c).mpr (.inl hq)) hdx hOw.1 _ (fun z hz => if_neg hz) (if_pos rfl) }, ?_, ?_, fun y' hy' => ?_⟩
                · rw [← e8, upd_ne wpwl, ← e7, upd_ne wpd]
                  exact hwp6
                · rw [List.getElem?_append_left (List.getElem?_eq_some_iff.mp hx6).1]
                  exact hx6
                · rw [take_snoc hy] at hy'
                  rcases List.mem_append.mp hy' with h | h
                  · exact List.mem_append_left _ (hin y' h)
                  · exact List.mem_append_right _ h
            · rintro σ H6 ⟨wt', par', y11', rfl, S6, hwp6, hx6, hin⟩
              rw [natV_len, List.take_length] at hin
              refine ⟨wt', par', fun q c => done q c ∨ (q = pc ∧ c = (j : Int)), _, _, _, _, rfl, { S6 with s := S6.s.look fun q z u c hz hu hd' hd c0 c1 hzc => ?_ }, fun q c => ?_, hx6⟩
              · rcases hd' with hd' | ⟨rfl, rfl⟩
                · exact absurd hd' hd
                · rw [hx6] at hz
                  cases hz
                  rw [ht] at hu
                  cases hu
                  exact ⟨hcon, fun y hy => hin y ((hway y).mpr hy)⟩
              · show (done q c ∨ (q = pc ∧ c = (j : Int))) ↔ _
                rw [hdone]
                constructor <;> intro h <;> omega
      · rintro σ H4 ⟨wt, par, done, y8, y9, y10, y11, rfl, S, hdone, hx⟩
        have hlt2 := (List.getElem?_eq_some_iff.mp hx).1
        have hkk : ((((k : Int)).toNat : Nat) : Int) = k := by omega
        refine ⟨ts.length - (pc + 1), ?_, pc + 1, wt, par, fun q _ => q < pc + 1, _, _, _, _, _, rfl, { S with s := S.s.look fun q z u c hz hu hd' hd c0 c1 hzc => absurd ((hdone q c).mpr ?_) hd }, fun q c => Iff.rfl, by omega, rfl⟩
        · have := S.len
          omega
        · rw [hkk]
          omega
    · have hlt' : ¬ pc < wt.length := fun h => hlt (decide_eq_true (by omega))
      refine ⟨_, rfl, ?_⟩
      exact qN H3 wl wt S.same S.nw S.hw (List.mem_of_getElem? S.s.hd) S.s.lt (S.s.closed hF hOw fun q hq c => (hdone q c).mpr (by omega)) hwl
end
end Jp
end
section
set_option Elab.async false
set_option linter.all false
set_option pp.maxSteps 1200
set_option pp.deepTerms false
set_option maxRecDepth 100000
set_option maxHeartbeats 4000000
namespace Jp
open PySem L2
theorem rep_flat (m : Nat) (v : V) : (List.replicate m [v]).flatten = List.replicate m v := by
  induction m with
  | zero => rfl
  | succ m ih => rw [List.replicate_succ, List.flatten_cons, ih]; rfl

section
variable {P : Program} {w : World} {K : PySem.W.Frag} {mg : Str → Option Value} {base : Heap}

def spPacked (K : PySem.W.Frag) : Sp := fun vs H Q _ => ∃ (n : Nat) (a : Addr) (k : Nat) (ts : List Tie), vs = [.int (n : Int), .ref a, .int (k : Int)] ∧ TiesAt K H a ts ∧ Web n ts ∧ n ≤ 10 ∧ ts.length ≤ 60 ∧ k ≤ 1000 ∧
  ∀ H' t po pb own bars, Same H H' → H t = none → H po = none → H pb = none → H' t = some (.tup [.ref po, .ref pb]) → H' po = some (.lst (own.map V.int)) → H' pb = some (.lst (natV bars)) →
    Own ts k own → Fst ts own → Closed ts k own (· ∈ bars) → (∀ i : Nat, own[i]? = some (-1) → i ∈ bars) → (∀ x ∈ bars, x < ts.length) → bars.length ≤ 3600 → Q (.ref t) H'

/-- an object that may change, new to H: what of H stands, stands -/
theorem same_but {H H1 H2 : Hp} {o : Addr} (e : Same H H1) (ho : H o = none) (h : ∀ b x, H1 b = some x → b ≠ o → H2 b = some x) : Same H H2 := fun b x hb => h b x (e b x hb) (ne_of_none hb ho)

abbrev N_packed : List Str := ["people", "ties", "many", "owner", "at", "bars"]
theorem sc_packed : FnScope N_packed ["people", "ties", "many"] (defScope s_packed) := ⟨rfl, rfl, rfl, by decide +kernel, rfl, by decide +kernel, by decide +kernel⟩
-- slots: people 0, ties 1, many 2, owner 3, at 4, bars 5
theorem ok_packed (T : Tx K mg) : FnOk P w K mg base CX0 3 T.f_packed T.d_packed ["people", "ties", "many"] (spPacked K) := by
  refine T.F_packed.ok sc_packed (fun vs H Q E h => ?_) (fun cdv A outer s H vs Q E hr h => ?_)
  · obtain ⟨n, a, k, ts, rfl, _⟩ := h
    rfl
  · obtain ⟨n, a, k, ts, rfl, hT, hW, hn, hts, hk, q⟩ := h
    have nd := sc_packed.nd
    refine ⟨_, (pss_cons (ps_set (i := 3) nd rfl (.inl rfl) (pe_op op_rep (pe_lst (pa_cons (pe_un un_neg pe_int) pa_nil)) (pe_callB call_len_seq (by rfl) T.z_len PySem.boot_len (pa_cons (pv 1) pa_nil))))
      (pss_cons (ps_for PassesOwn.never rfl (pi_range1 (by rfl) T.z_range (pa_cons (pe_callB call_len_seq (by rfl) T.z_len PySem.boot_len (pa_cons (pv 1) pa_nil)) pa_nil)) (pg_name (i := 4) nd rfl (.inl rfl)) 
        (pss_one (ps_expr (pe_call (ok_put_in T) (hr.mono (by decide)) (by rfl) T.g_put_in T.F_put_in.kp T.b_put_in .nil pass0 (pa_cons (pv 1) (pa_cons (pv 3) (pa_cons (pv 2) (pa_cons (pv 4) pa_nil))))))))
      (pss_cons (ps_set (i := 5) nd rfl (.inl rfl) (pe_lst pa_nil))
      (pss_cons (ps_for PassesOwn.never rfl (pi_range1 (by rfl) T.z_range (pa_cons (pe_callB call_len_seq (by rfl) T.z_len PySem.boot_len (pa_cons (pv 1) pa_nil)) pa_nil)) (pg_name (i := 4) nd rfl (.inl rfl)) 
        (pss_one (ps_if (pt_cmpR op_eq (pe_ix ix_list (pv 3) (pv 4) (fun _ _ => rfl)) (pe_un un_neg pe_int) (nomark _)) 
          (pss_one (ps_expr (pe_bm PySem.F.plainAttrs_list PySem.F.slot_list_extend PySem.F.type_list_extend mt_extend (pv 5) (pa_cons (pe_call (ok_put_in T) (hr.mono (by decide)) (by rfl) T.g_put_in T.F_put_in.kp T.b_put_in .nil pass0 (pa_cons (pv 1) (pa_cons (pv 3) (pa_cons (pv 2) (pa_cons (pv 4) pa_nil))))) pa_nil)))) pss_nil)))
      (pss_one (ps_ret (pe_tup (pa_cons (pv 3) (pa_cons (pv 5) pa_nil))))))))), ?_⟩
    obtain ⟨xs, hxs, hxl, _⟩ := hT.seq
    -- owner = [-1] * len(ties)
    refine ⟨1, rfl, sml (by show 1 ≤ 100000; decide), fun p np => ⟨_, rfl, a, xs, rfl, .inl ((same_new np).seq hxs), p, _, _, rfl, rfl, upd_same, by omega, by omega, ?_, fun o no => ?_⟩⟩
    · show 1 * _ ≤ _
      exact sml (by omega)
    have e0 : (List.replicate ((xs.length : Int)).toNat [V.int (-1)]).flatten = (List.replicate ts.length (-1 : Int)).map V.int := by
      have hl : ((xs.length : Int)).toNat = ts.length := by omega
      rw [rep_flat, List.map_replicate, hl]
    generalize e1 : upd (upd H p _) o _ = H1
    have s1 : Same H H1 := by
      rw [← e1]
      exact (same_new np).trans (same_new no)
    have no0 : H o = none := (same_new np).free no
    have h1 : H1 o = some (.lst ((List.replicate ts.length (-1 : Int)).map V.int)) := by
      rw [← e1, upd_same, ← e0]
    have F0 : Fst ts (List.replicate ts.length (-1 : Int)) := fun j hj i t hi => by
      have hi' : (List.replicate ts.length (-1 : Int))[i]? = some j := hi
      rw [List.getElem?_replicate] at hi'
      split at hi'
      · have := Option.some.inj hi'
        omega
      · cases hi'
    have O0 : Own ts k (List.replicate ts.length (-1 : Int)) := by
      refine ⟨List.length_replicate, fun i j h => ?_⟩
      rw [List.getElem?_replicate] at h
      split at h
      · have := Option.some.inj h
        omega
      · cases h
    -- for at in range(len(ties)): put_in(ties, owner, many, at)
    refine ⟨_, rfl, a, xs, rfl, .inl (s1.seq hxs), (xs.length : Int), rfl, by omega, by omega, for_it (walk_range (lo := 0) (n := ((xs.length : Int)).toNat)) (fun j σ H2 => ∃ own y4, σ = [some (.int n), some (.ref a), some (.int k), some (.ref o), y4, none] ∧
        Same H H2 ∧ H2 o = some (.lst (own.map V.int)) ∧ Own ts k own ∧ Fst ts own ∧ (∀ i, j ≤ i → i < ts.length → own[i]? = some (-1)) ∧ (∀ i : Nat, i < j → own[i]? = some (-1) → ∃ R, Closed ts k own R ∧ R i))
      ⟨_, _, rfl, s1, h1, O0, F0, fun i _ hi => by rw [List.getElem?_replicate, if_pos hi], fun i h => by omega⟩ (fun _ _ _ _ _ => True.intro) ?_ ?_⟩
    · rintro j z σ H2 H2' hj ⟨own, y4, rfl, s2, ho, hO, hF, hun, hbl⟩ ⟨rfl, hz0⟩
      have hjt : j < ts.length := by omega
      have hz1 : z = V.int (j : Int) := by
        rw [hz0]
        show V.int (0 + (j : Int)) = _
        rw [Int.zero_add]
      subst hz1
      refine ⟨_, rfl, _, rfl, _, rfl, _, rfl, n, a, o, k, j, ts, own, rfl, hT.same s2, ho, hW, hn, by omega, hk, hO, hF, hjt, hun j (Nat.le_refl _) hjt, fun H3 own' s3 ho' P => ?_, fun H3 p wt s3 np hp hf hlt hC hwl => ?_⟩
      · refine ⟨own', _, rfl, same_but s2 no0 s3, ho', P.ow, P.fs, fun i hi hil => P.un i (by omega) (hun i (by omega) hil), fun i hi hoi => ?_⟩
        by_cases e : i = j
        · subst e
          exact absurd hoi P.in_
        · obtain ⟨R, hR, hRi⟩ := hbl i (by omega) (P.own_ i hoi)
          exact ⟨R, (P.out R hR).2, hRi⟩
      · refine ⟨own, _, rfl, s2.trans s3, s3 _ _ ho, hO, hF, fun i hi hil => hun i (by omega) hil, fun i hi hoi => ?_⟩
        by_cases e : i = j
        · subst e
          exact ⟨_, hC, hf⟩
        · exact hbl i (by omega) hoi
    · rintro σ H2 ⟨own, y4, rfl, s2, ho, hO, hF, _, hbl⟩
      -- bars = []
      refine ⟨Nat.zero_le _, fun pb npb => ?_⟩
      generalize e3 : upd H2 pb _ = H3
      have s3 : Same H2 H3 := by
        rw [← e3]
        exact same_new npb
      have hpb3 : H3 pb = some (.lst (natV [])) := by
        rw [← e3, upd_same]
        rfl
      have npb0 : H pb = none := s2.free npb
      have opb : o ≠ pb := ne_of_none ho npb
      -- for at in range(len(ties)): if owner[at] == -1: bars.extend(..)
      refine ⟨_, rfl, a, xs, rfl, .inl ((s2.trans s3).seq hxs), (xs.length : Int), rfl, by omega, by omega, for_it (walk_range (lo := 0) (n := ((xs.length : Int)).toNat)) (fun j σ H4 => ∃ bars y4, σ = [some (.int n), some (.ref a), some (.int k), some (.ref o), y4, some (.ref pb)] ∧
        Same H H4 ∧ H4 o = some (.lst (own.map V.int)) ∧ H4 pb = some (.lst (natV bars)) ∧ Closed ts k own (· ∈ bars) ∧ (∀ i : Nat, i < j → own[i]? = some (-1) → i ∈ bars) ∧ (∀ x ∈ bars, x < ts.length) ∧ bars.length ≤ j * ts.length)
        ⟨[], _, rfl, s2.trans s3, s3 _ _ ho, hpb3, fun x t hx => by simp at hx, fun i h => by omega, by simp, by simp⟩ (fun _ _ _ _ _ => True.intro) ?_ ?_⟩
      · rintro j z σ H4 H4' hj ⟨bars, y4, rfl, s4, ho4, hpb4, hC, hin, hlt, hbl4⟩ ⟨rfl, hz0⟩
        have hjt : j < ts.length := by omega
        have hz1 : z = V.int (j : Int) := by
          rw [hz0]
          show V.int (0 + (j : Int)) = _
          rw [Int.zero_add]
        subst hz1
        have hjo : j < own.length := by
          rw [hO.1]
          exact hjt
        have hoj : own[j]? = some own[j] := List.getElem?_eq_getElem hjo
        refine ⟨_, rfl, _, rfl, o, _, _, _, rfl, rfl, SqL.of ho4, atI_nat (intsV_get hoj), 1, rfl, rfl, _, rfl, ite2 (fun e => ?_) (fun e => ?_)⟩
        · have e' : own[j] = -1 := V.int.inj (of_decide_eq_true e)
          rw [e'] at hoj
          obtain ⟨R, hR, hRj⟩ := hbl j (by omega) hoj
          have hpb4' : SqL K _ pb (natV bars) := SqL.of hpb4
          refine ⟨_, rfl, .inl ⟨rfl, _, hpb4'⟩, _, rfl, _, rfl, _, rfl, _, rfl, n, a, o, k, j, ts, own, rfl, hT.same s4, ho4, hW, hn, by omega, hk, hO, hF, hjt, hoj, fun H5 own' s5 ho' P => ?_, fun H5 p wt s5 np hp hf hwlt hwC hwl => ?_⟩
          · exact absurd hRj (P.out R hR).1
          · have hm : (j + 1) * ts.length = j * ts.length + ts.length := Nat.succ_mul _ _
            have hj60 : j * ts.length ≤ 60 * 60 := Nat.mul_le_mul (by omega) hts
            refine ⟨pb, p, _, _, rfl, rfl, s5 _ _ hpb4, hp, sml ?_, ?_⟩
            · rw [natV_len, natV_len]
              omega
            have hcat : natV bars ++ natV wt = natV (bars ++ wt) := by
              unfold natV
              rw [List.map_append]
            rw [hcat]
            refine ⟨bars ++ wt, _, rfl, same_mut (s4.trans s5) npb0, ?_, upd_same, ?_, fun i hi hoi => ?_, fun x hx => ?_, ?_⟩
            · rw [upd_ne opb]
              exact s5 _ _ ho4
            · have := hC.or hwC
              intro x t hx
              have hx' : x ∈ bars ∨ x ∈ wt := List.mem_append.mp hx
              intro ht c c0 c1
              exact (this x t hx' ht c c0 c1).mono fun z hz => ⟨hz.1, List.mem_append.mpr hz.2⟩
            · by_cases e : i = j
              · subst e
                exact List.mem_append_right _ hf
              · exact List.mem_append_left _ (hin i (by omega) hoi)
            · rcases List.mem_append.mp hx with h | h
              · exact hlt x h
              · exact hwlt x h
            · rw [List.length_append]
              omega
        · have e' : own[j] ≠ -1 := fun e' => e (decide_eq_true (by rw [e']))
          have hm : (j + 1) * ts.length = j * ts.length + ts.length := Nat.succ_mul _ _
          refine ⟨bars, _, rfl, s4, ho4, hpb4, hC, fun i hi hoi => ?_, hlt, by omega⟩
          by_cases e : i = j
          · subst e
            rw [hoj] at hoi
            exact absurd (Option.some.inj hoi) e'
          · exact hin i (by omega) hoi
      · rintro σ H4 ⟨bars, y4, rfl, s4, ho4, hpb4, hC, hin, hlt, hbl4⟩
        have hlen : ((xs.length : Int)).toNat = ts.length := by omega
        rw [hlen] at hin hbl4
        have h60 : ts.length * ts.length ≤ 60 * 60 := Nat.mul_le_mul hts hts
        -- return (owner, bars)
        refine ⟨_, rfl, _, rfl, sml (by show 2 ≤ 100000; decide), fun t nt => ?_⟩
        have s5 : Same H4 (upd H4 t (.tup [.ref o, .ref pb])) := same_new nt
        refine q _ t o pb own bars (s4.trans s5) (s4.free nt) no0 npb0 upd_same (s5 _ _ ho4) (s5 _ _ hpb4) hO hF hC (fun i hi => hin i ?_ hi) hlt (by omega)
        have := (List.getElem?_eq_some_iff.mp hi).1
        rwa [hO.1] at this
end
end Jp
end
section
set_option Elab.async false
set_option linter.all false
set_option pp.maxSteps 1200
set_option pp.deepTerms false
set_option maxRecDepth 100000
set_option maxHeartbeats 4000000
namespace Jp
open PySem L2

/-- a list of lists to be read -/
def LR (K : PySem.W.Frag) (H : Hp) (p : Addr) (cs : List Addr) (xss : List (List V)) : Prop :=
  SqL K H p (cs.map V.ref) ∧ cs.length = xss.length ∧ ∀ (i : Nat) (c : Addr) (xs : List V), cs[i]? = some c → xss[i]? = some xs → SqL K H c xs
theorem LL.r {K : PySem.W.Frag} {H : Hp} {p : Addr} {ps : List Addr} {xss : List (List V)} (h : LL H p ps xss) : LR K H p ps xss := ⟨SqL.of h.top, h.len, fun i c xs a b => SqL.of (h.at_ i c xs a b)⟩
theorem LR.same {K : PySem.W.Frag} {H H' : Hp} {p : Addr} {cs : List Addr} {xss : List (List V)} (h : LR K H p cs xss) (e : Same H H') : LR K H' p cs xss := ⟨e.seq h.1, h.2.1, fun i c xs a b => e.seq (h.2.2 i c xs a b)⟩
/-- the i-th item of it -/
theorem LR.item {K : PySem.W.Frag} {H : Hp} {p : Addr} {cs : List Addr} {xss : List (List V)} (h : LR K H p cs xss) {i : Nat} {x : V} (hx : (cs.map V.ref)[i]? = some x) : ∃ c xs, x = .ref c ∧ cs[i]? = some c ∧ xss[i]? = some xs ∧ SqL K H c xs := by
  rw [List.getElem?_map] at hx
  cases e : cs[i]? with
  | none => rw [e] at hx; cases hx
  | some c =>
    rw [e] at hx
    have hl : i < xss.length := by
      rw [← h.2.1]
      exact (List.getElem?_eq_some_iff.mp e).1
    have hy : xss[i]? = some xss[i] := List.getElem?_eq_getElem hl
    exact ⟨c, _, (Option.some.inj hx).symm, rfl, hy, h.2.2 i c _ e hy⟩
theorem LL.there {H : Hp} {p : Addr} {ps : List Addr} {xss : List (List V)} (h : LL H p ps xss) : ∀ c ∈ ps, ∃ o, H c = some o := fun c hc => by
  obtain ⟨i, hi⟩ := List.getElem?_of_mem hc
  have hil := (List.getElem?_eq_some_iff.mp hi).1
  rw [h.len] at hil
  exact ⟨_, h.at_ i c _ hi (List.getElem?_eq_getElem hil)⟩
/-- in a comprehension: the list at D grows by a new list -/
theorem LL.grow {H0 H H1 : Hp} {D q : Addr} {ps : List Addr} {xss : List (List V)} {xs : List V} (h : LL H D ps xss) (e : Same H H1) (hq : H q = none) (hqx : H1 q = some (.lst xs)) : LL (upd H1 D (.lst (ps.map V.ref ++ [.ref q]))) D (ps ++ [q]) (xss ++ [xs]) := by
  have hne : q ≠ D := fun z => by
    have := h.top
    rw [← z, hq] at this
    cases this
  refine h.snoc (fun b o hb hbD => ?_) upd_same hq (by rw [upd_ne hne]; exact hqx) h.there
  rw [upd_ne hbD]
  exact e _ _ hb

section
variable {P : Program} {w : World} {K : PySem.W.Frag} {mg : Str → Option Value} {base : Heap}

/-- an answer's __init__: the field is a copy -/
def spInit (K : PySem.W.Frag) (C : Addr) (fld : Str) : Sp := fun vs H Q _ => ∃ (self dx p : Addr) (cs : List Addr) (xss : List (List V)), vs = [.ref self, .ref p] ∧ H self = some (.ins C dx []) ∧ LR K H p cs xss ∧ xss.length ≤ 1000 ∧
  ∀ H' l ps, (∀ b o, H b = some o → b ≠ self → H' b = some o) → H' self = some (.ins C dx (putF fld (.ref l) [])) → H l = none → (∀ c ∈ ps, H c = none) → LL H' l ps xss → Q .non H'

abbrev N_Trees_init : List Str := ["self", "trees", "tree"]
theorem sc_Trees_init : FnScope N_Trees_init ["self", "trees"] (defScope s_Trees_init) := ⟨rfl, rfl, rfl, by decide +kernel, rfl, by decide +kernel, by decide +kernel⟩
-- slots: self 0, trees 1, tree 2
theorem ok_Trees_init (T : Tx K mg) : FnOk P w K mg base CX0 1 T.f_Trees_init T.d_Trees_init ["self", "trees"] (spInit K T.c_Trees "trees") := by
  refine T.F_Trees_init.ok sc_Trees_init (fun vs H Q E h => ?_) (fun cdv A outer s H vs Q E hr h => ?_)
  · obtain ⟨self, dx, p, cs, xss, rfl, _⟩ := h
    rfl
  · obtain ⟨self, dx, p, cs, xss, rfl, hself, hR, hz, q⟩ := h
    have nd := sc_Trees_init.nd
    refine ⟨_, (pss_one (ps_fld (pv 0) (pe_lc (own := [("tree", 2)]) (g := (gName 2)) (tt := tYes) (te := (tCB (Evl.rListS K) (tCons (tVar 2) tNil))) rfl nd (pi_list (pv 1)) (blkOk_by (own := [("tree", 2)]) (N := N_Trees_init) (sc := (defScope s_Trees_init)) (by decide +kernel)) (fun _ _ _ _ _ => (pg_name (i := 2) nd rfl (.inl rfl))) (fun _ _ _ _ _ => pts_nil) (fun _ _ _ _ _ => (pe_callTy call_list_of (by rfl) T.z_list (by decide +kernel) (pa_cons (pv 2) pa_nil)))) rfl)), ?_⟩
    refine ⟨_, rfl, p, rfl, ⟨_, hR.1⟩, fun D hD => lc_list (K := K) (a := p) (xs := cs.map V.ref) (fun i H2 => Same H H2 ∧ H D = none ∧ ∃ ps : List Addr, (∀ c ∈ ps, H c = none) ∧ LL H2 D ps (xss.take i))
      ⟨same_new hD, hD, [], by simp, LL.nil upd_same⟩ (fun i H2 _ h => h.1.seq hR.1) ?_ ?_⟩
    · rintro i x H2 hi ⟨s2, nD, ps, hps, hLL⟩
      obtain ⟨c, xs, rfl, hc, hxs, hcs⟩ := (hR.same s2).item hi
      refine ⟨rfl, _, rfl, c, xs, rfl, .inl hcs, fun l nl => ?_⟩
      have s3 : Same H2 (upd H2 l (.lst xs)) := same_new nl
      refine ⟨_, s3 _ _ hLL.top, sml1 ?_, same_mut (s2.trans s3) nD, nD, ps ++ [l], fun c hc => ?_, ?_⟩
      · rw [List.length_map, hLL.len, List.length_take]
        omega
      · rcases List.mem_append.mp hc with hc | hc
        · exact hps c hc
        · rw [List.mem_singleton] at hc
          rw [hc]
          exact s2.free nl
      · rw [take_snoc hxs]
        exact hLL.grow (H0 := H) s3 nl upd_same
    · rintro H2 ⟨s2, nD, ps, hps, hLL⟩
      have hl : xss.take (cs.map V.ref).length = xss := by
        rw [List.length_map, hR.2.1, List.take_length]
      rw [hl] at hLL
      have hne : self ≠ D := ne_of_none hself nD
      refine ⟨_, rfl, self, T.c_Trees, dx, [], rfl, s2 _ _ hself, T.cl_Trees, T.na_Trees_trees, (by show 0 < 1000; decide), ?_⟩
      refine q _ D ps (fun b o hb hbs => ?_) upd_same nD hps ?_
      · rw [upd_ne hbs]
        exact s2 _ _ hb
      · refine ⟨by rw [upd_ne hne.symm]; exact hLL.top, hLL.len, fun i c xs hc hx => ?_, hLL.nd, hLL.np⟩
        have := hLL.at_ i c xs hc hx
        rw [upd_ne (ne_of_none hself (hps c (List.mem_of_getElem? hc))).symm]
        exact this
abbrev N_Parts_init : List Str := ["self", "groups", "group"]
theorem sc_Parts_init : FnScope N_Parts_init ["self", "groups"] (defScope s_Parts_init) := ⟨rfl, rfl, rfl, by decide +kernel, rfl, by decide +kernel, by decide +kernel⟩
-- slots: self 0, groups 1, group 2
theorem ok_Parts_init (T : Tx K mg) : FnOk P w K mg base CX0 1 T.f_Parts_init T.d_Parts_init ["self", "groups"] (spInit K T.c_Parts "groups") := by
  refine T.F_Parts_init.ok sc_Parts_init (fun vs H Q E h => ?_) (fun cdv A outer s H vs Q E hr h => ?_)
  · obtain ⟨self, dx, p, cs, xss, rfl, _⟩ := h
    rfl
  · obtain ⟨self, dx, p, cs, xss, rfl, hself, hR, hz, q⟩ := h
    have nd := sc_Parts_init.nd
    refine ⟨_, (pss_one (ps_fld (pv 0) (pe_lc (own := [("group", 2)]) (g := (gName 2)) (tt := tYes) (te := (tCB (Evl.rListS K) (tCons (tVar 2) tNil))) rfl nd (pi_list (pv 1)) (blkOk_by (own := [("group", 2)]) (N := N_Parts_init) (sc := (defScope s_Parts_init)) (by decide +kernel)) (fun _ _ _ _ _ => (pg_name (i := 2) nd rfl (.inl rfl))) (fun _ _ _ _ _ => pts_nil) (fun _ _ _ _ _ => (pe_callTy call_list_of (by rfl) T.z_list (by decide +kernel) (pa_cons (pv 2) pa_nil)))) rfl)), ?_⟩
    refine ⟨_, rfl, p, rfl, ⟨_, hR.1⟩, fun D hD => lc_list (K := K) (a := p) (xs := cs.map V.ref) (fun i H2 => Same H H2 ∧ H D = none ∧ ∃ ps : List Addr, (∀ c ∈ ps, H c = none) ∧ LL H2 D ps (xss.take i))
      ⟨same_new hD, hD, [], by simp, LL.nil upd_same⟩ (fun i H2 _ h => h.1.seq hR.1) ?_ ?_⟩
    · rintro i x H2 hi ⟨s2, nD, ps, hps, hLL⟩
      obtain ⟨c, xs, rfl, hc, hxs, hcs⟩ := (hR.same s2).item hi
      refine ⟨rfl, _, rfl, c, xs, rfl, .inl hcs, fun l nl => ?_⟩
      have s3 : Same H2 (upd H2 l (.lst xs)) := same_new nl
      refine ⟨_, s3 _ _ hLL.top, sml1 ?_, same_mut (s2.trans s3) nD, nD, ps ++ [l], fun c hc => ?_, ?_⟩
      · rw [List.length_map, hLL.len, List.length_take]
        omega
      · rcases List.mem_append.mp hc with hc | hc
        · exact hps c hc
        · rw [List.mem_singleton] at hc
          rw [hc]
          exact s2.free nl
      · rw [take_snoc hxs]
        exact hLL.grow (H0 := H) s3 nl upd_same
    · rintro H2 ⟨s2, nD, ps, hps, hLL⟩
      have hl : xss.take (cs.map V.ref).length = xss := by
        rw [List.length_map, hR.2.1, List.take_length]
      rw [hl] at hLL
      have hne : self ≠ D := ne_of_none hself nD
      refine ⟨_, rfl, self, T.c_Parts, dx, [], rfl, s2 _ _ hself, T.cl_Parts, T.na_Parts_groups, (by show 0 < 1000; decide), ?_⟩
      refine q _ D ps (fun b o hb hbs => ?_) upd_same nD hps ?_
      · rw [upd_ne hbs]
        exact s2 _ _ hb
      · refine ⟨by rw [upd_ne hne.symm]; exact hLL.top, hLL.len, fun i c xs hc hx => ?_, hLL.nd, hLL.np⟩
        have := hLL.at_ i c xs hc hx
        rw [upd_ne (ne_of_none hself (hps c (List.mem_of_getElem? hc))).symm]
        exact this

/-- what told has told: at x, new -/
def ToldIs (cT cP : Addr) (n : Nat) (ts : List Tie) (k : Nat) (H H' : Hp) (x : Addr) : Prop := ∃ (dx l : Addr) (ps : List Addr), H x = none ∧ H l = none ∧ (∀ c ∈ ps, H c = none) ∧
  ((∃ tss, GoodTrees n ts k tss ∧ H' x = some (.ins cT dx (putF "trees" (.ref l) [])) ∧ LL H' l ps (tss.map natV)) ∨
   (∃ gs, GoodParts n ts k gs ∧ H' x = some (.ins cP dx (putF "groups" (.ref l) [])) ∧ LL H' l ps (gs.map natV)))
def spTold (K : PySem.W.Frag) (cT cP : Addr) : Sp := fun vs H Q _ => ∃ (n : Nat) (a : Addr) (k : Nat) (ts : List Tie), vs = [.int (n : Int), .ref a, .int (k : Int)] ∧ TiesAt K H a ts ∧ Web n ts ∧ 1 ≤ n ∧ n ≤ 10 ∧ ts.length ≤ 60 ∧ k ≤ 100 ∧
  ∀ H' x, Same H H' → ToldIs cT cP n ts k H H' x → Q (.ref x) H'

theorem all_map {α : Type} (f : α → Bool) (l : List α) : (l.map f).all id = l.all f := by
  rw [List.all_map]
  rfl

abbrev N_told : List Str := ["people", "ties", "many", "owner", "bars", "trees", "tree", "at", "forest"]
theorem sc_told : FnScope N_told ["people", "ties", "many"] (defScope s_told) := ⟨rfl, rfl, rfl, by decide +kernel, rfl, by decide +kernel, by decide +kernel⟩
-- slots: people 0, ties 1, many 2, owner 3, bars 4, trees 5, tree 6, at 7, forest 8
theorem ok_told (T : Tx K mg) : FnOk P w K mg base CX0 4 T.f_told T.d_told ["people", "ties", "many"] (spTold K T.c_Trees T.c_Parts) := by
  refine T.F_told.ok sc_told (fun vs H Q E h => ?_) (fun cdv A outer s H vs Q E hr h => ?_)
  · obtain ⟨n, a, k, ts, rfl, _⟩ := h
    rfl
  · obtain ⟨n, a, k, ts, rfl, hT, hW, hn1, hn, hts, hk, q⟩ := h
    have nd := sc_told.nd
    refine ⟨_, (pss_cons (ps_asg (pe_call (ok_packed T) (hr.mono (by decide)) (by rfl) T.g_packed T.F_packed.kp T.b_packed .nil pass0 (pa_cons (pv 0) (pa_cons (pv 1) (pa_cons (pv 2) pa_nil)))) (pg_tup rfl (pgs_cons (pg_name (i := 3) nd rfl (.inr rfl)) (pgs_cons (pg_name (i := 4) nd rfl (.inl rfl)) pgs_nil))))
      (pss_cons (ps_setLc (i := 5) (own := [("tree", 6)]) (g := (gName 6)) (tt := tYes) (te := (tLc (iEnum K (tCons (tVar 3) tNil)) (gTup K 2 (gCons (gName 7) (gCons (gName 8) gNil))) (tTest (tOp rEq (tVar 8) (tVar 6))) (tVar 7) [7, 8])) rfl nd rfl rfl (sw_true rfl rfl rfl (by decide +kernel)) (pi_range1 (by rfl) T.z_range (pa_cons (pv 2) pa_nil)) (blkOk_by (own := [("tree", 6)]) (N := N_told) (sc := (defScope s_told)) (by decide +kernel)) (fun _ _ _ _ _ => (pg_name (i := 6) nd rfl (.inr rfl))) (fun _ _ _ _ _ => pts_nil) (fun _ _ _ _ _ => (pe_lc (own := [("at", 7), ("forest", 8)]) (g := (gTup K 2 (gCons (gName 7) (gCons (gName 8) gNil)))) (tt := (tTest (tOp rEq (tVar 8) (tVar 6)))) (te := (tVar 7)) rfl nd (pi_enum (by rfl) T.z_enumerate (pa_cons (pv 3) pa_nil)) (blkOk_by (own := [("at", 7), ("forest", 8)]) (N := N_told) (sc := ({ kind := .function, names := [(PySem.Str.ofString ".0", .local), (PySem.Str.ofString "tree", .cell), (PySem.Str.ofString "enumerate", .globalImplicit), (PySem.Str.ofString "owner", .cell)], isGenerator := false, isCoroutine := false, more := [] })) (by decide +kernel)) (fun _ _ _ _ _ => (pg_tup rfl (pgs_cons (pg_name (i := 7) nd rfl (.inl rfl)) (pgs_cons (pg_name (i := 8) nd rfl (.inl rfl)) pgs_nil)))) (fun _ _ _ _ _ => (pts_one (pt_cmpR op_eq (pv 8) (pv 6) (nomark _)))) (fun _ _ _ _ _ => (pv 7)))))
      (pss_cons (ps_if (pt_val (pe_callB (cr_all rfl) (by rfl) T.z_all (by decide +kernel) (pa_cons (pe_lc (own := [("tree", 6)]) (g := (gName 6)) (tt := tYes) (te := (tOp rEq (tCB (Evl.rLenS K) (tCons (tVar 6) tNil)) (tOp _ (tVar 0) _))) rfl nd (pi_list (pv 5)) (blkOk_by (own := [("tree", 6)]) (N := N_told) (sc := (defScope s_told)) (by decide +kernel)) (fun _ _ _ _ _ => (pg_name (i := 6) nd rfl (.inl rfl))) (fun _ _ _ _ _ => pts_nil) (fun _ _ _ _ _ => (pe_cmpR op_eq (pe_callB call_len_seq (by rfl) T.z_len PySem.boot_len (pa_cons (pv 6) pa_nil)) (pe_op op_sub (pv 0) pe_int) (nomark _)))) pa_nil))) 
        (pss_one (ps_ret (pe_make T.mk_Trees (ok_Trees_init T) (hr.mono (by decide)) (by rfl) T.g_Trees T.b_Trees_init .nil pass0 (pa_cons (pv 5) pa_nil)))) pss_nil)
      (pss_one (ps_ret (pe_make T.mk_Parts (ok_Parts_init T) (hr.mono (by decide)) (by rfl) T.g_Parts T.b_Parts_init .nil pass0 (pa_cons (pe_call (ok_groups_by T) (hr.mono (by decide)) (by rfl) T.g_groups_by T.F_groups_by.kp T.b_groups_by .nil pass0 (pa_cons (pv 0) (pa_cons (pv 1) (pa_cons (pe_callB (cr_sortedSet rfl) (by rfl) T.z_sorted (by decide +kernel) (pa_cons (pe_callTy (cr_setL rfl) (by rfl) T.z_set (by decide +kernel) (pa_cons (pv 4) pa_nil)) pa_nil)) pa_nil)))) pa_nil))))))), ?_⟩
    -- owner, bars = packed(people, ties, many)
    refine ⟨_, rfl, _, rfl, _, rfl, n, a, k, ts, rfl, hT, hW, hn, hts, by omega, fun H1 t o pb own bars s1 nt no npb ht ho hpb hO hF hC hU hB hbl => ?_⟩
    refine ⟨t, _, rfl, SqT.of ht, rfl, _, _, rfl, _, _, rfl, rfl, ?_⟩
    -- trees = [[..] ..]
    refine ⟨_, rfl, (k : Int), rfl, by omega, by omega, fun D hD => lc_range (lo := 0) (n := ((k : Int)).toNat) (fun j H2 => Same H1 H2 ∧ H1 D = none ∧ ∃ ps : List Addr, (∀ c ∈ ps, H1 c = none) ∧ LL H2 D ps (((treesOf own k).take j).map natV))
      ⟨same_new hD, hD, [], by simp, LL.nil upd_same⟩ ?_ ?_⟩
    · rintro j H2 hj ⟨s2, nD, ps, hps, hLL⟩
      have hjk : j < k := by omega
      rw [Int.zero_add]
      refine ⟨rfl, _, rfl, o, _, rfl, s2.seq (SqL.of ho), fun D2 hD2 => lc_it (walk_enum (K := K) (a := o) (xs := own.map V.int)) (fun i H3 => Same H2 H3 ∧ H2 D2 = none ∧ H3 D2 = some (.lst (natV ((List.range i).filter fun i => own[i]? == some (j : Int)))))
        ⟨same_new hD2, hD2, by rw [upd_same]; rfl⟩ (fun i H3 _ h => (s2.trans h.1).seq (SqL.of ho)) ?_ ?_⟩
      · rintro i x H3 H4 hi ⟨s3, nD2, h2⟩ ⟨tp, x1, x2, rfl, ntp, rfl, f1, f2⟩
        cases f1
        have hio : i < own.length := by
          rw [List.length_map] at hi
          exact hi
        have hoi : own[i]? = some own[i] := List.getElem?_eq_getElem hio
        have f3 : (own.map V.int)[i]? = some x2 := f2
        rw [intsV_get hoi] at f3
        cases f3
        have s4 : Same H3 (upd H3 tp (.tup [.int (i : Int), .int own[i]])) := same_new ntp
        refine ⟨tp, _, rfl, SqT.of upd_same, rfl, _, _, rfl, _, _, rfl, rfl, ?_⟩
        generalize upd H3 tp _ = H5 at s4
        refine ⟨rfl, _, rfl, _, rfl, rfl, _, rfl, ite2 (fun e => ?_) (fun e => ?_)⟩
        · have e1 : own[i] = (j : Int) := V.int.inj (of_decide_eq_true e)
          have hb : (own[i]? == some (j : Int)) = true := by
            rw [hoi, e1]
            exact beq_self_eq_true _
          refine ⟨_, rfl, _, s4 _ _ h2, sml1 ?_, same_mut (s3.trans s4) nD2, nD2, ?_⟩
          · rw [natV_len]
            have := List.length_filter_le (fun i : Nat => own[i]? == some (j : Int)) (List.range i)
            rw [List.length_range] at this
            have := hO.1
            omega
          · rw [upd_same, List.range_succ, List.filter_append, List.filter_cons, if_pos hb, List.filter_nil, natV_snoc]
        · have hb : ¬ (own[i]? == some (j : Int)) = true := fun hb => by
            rw [hoi, beq_iff_eq] at hb
            exact e (decide_eq_true (by rw [Option.some.inj hb]))
          refine ⟨s3.trans s4, nD2, ?_⟩
          rw [List.range_succ, List.filter_append, List.filter_cons, if_neg hb, List.filter_nil, List.append_nil]
          exact s4 _ _ h2
      · rintro H3 ⟨s3, nD2, h2⟩
        rw [List.length_map] at h2
        have hg : (treesOf own k)[j]? = some (treeOf own j) := by
          unfold treesOf
          rw [List.getElem?_map, List.getElem?_range hjk]
          rfl
        refine ⟨_, s3 _ _ hLL.top, sml1 ?_, same_mut (s2.trans s3) nD, nD, ps ++ [D2], fun c hc => ?_, ?_⟩
        · rw [List.length_map, hLL.len, List.length_map, List.length_take]
          omega
        · rcases List.mem_append.mp hc with hc | hc
          · exact hps c hc
          · rw [List.mem_singleton] at hc
            rw [hc]
            exact s2.free nD2
        · rw [take_snoc hg, List.map_append]
          exact hLL.grow (H0 := H) s3 nD2 h2
    · rintro H2 ⟨s2, nD, ps, hps, hLL⟩
      have hkt : (treesOf own k).take ((k : Int)).toNat = treesOf own k := List.take_of_length_le (by unfold treesOf; rw [List.length_map, List.length_range]; omega)
      rw [hkt] at hLL
      have hkl : (treesOf own k).length = k := by
        unfold treesOf
        rw [List.length_map, List.length_range]
      -- if all([len(tree) == people - 1 ..])
      have hRR : LR K H2 D ps ((treesOf own k).map natV) := hLL.r
      refine ⟨_, rfl, D, rfl, ⟨_, hRR.1⟩, fun D2 hD2 => lc_list (K := K) (a := D) (xs := ps.map V.ref) (fun i H3 => Same H2 H3 ∧ H2 D2 = none ∧ H3 D2 = some (.lst (((treesOf own k).take i).map fun t => V.bl (decide (t.length = n - 1)))))
        ⟨same_new hD2, hD2, by rw [upd_same]; rfl⟩ (fun i H3 _ h => h.1.seq hRR.1) ?_ ?_⟩
      · rintro i x H3 hi ⟨s3, nD2, h2⟩
        obtain ⟨c, xs, rfl, hc, hxs, hcs⟩ := (hRR.same s3).item hi
        rw [List.getElem?_map] at hxs
        cases et : (treesOf own k)[i]? with
        | none => rw [et] at hxs; cases hxs
        | some t =>
          rw [et] at hxs
          cases hxs
          refine ⟨rfl, _, rfl, c, _, rfl, .inl hcs, _, rfl, _, _, rfl, rfl, rfl, _, h2, sml1 ?_, same_mut s3 nD2, nD2, ?_⟩
          · rw [List.length_map, List.length_take]
            omega
          · rw [upd_same, take_snoc et, List.map_append, natV_len]
            congr 3
            show [V.bl (decide (V.int (t.length : Int) = V.int ((n : Int) - 1)))] = [V.bl (decide (t.length = n - 1))]
            congr 2
            refine decide_eq_decide.mpr ⟨fun e => ?_, fun e => ?_⟩
            · have := V.int.inj e
              omega
            · congr 1
              omega
      · rintro H3 ⟨s3, nD2, h2⟩
        have hl : (treesOf own k).take (ps.map V.ref).length = treesOf own k := List.take_of_length_le (by rw [List.length_map, hLL.len, List.length_map]; exact Nat.le_refl _)
        rw [hl] at h2
        have hbs : ((treesOf own k).map fun t => V.bl (decide (t.length = n - 1))) = ((treesOf own k).map fun t => decide (t.length = n - 1)).map V.bl := by
          rw [List.map_map]
          rfl
        rw [hbs] at h2
        refine ⟨D2, _, rfl, SqL.of h2, _, rfl, ?_⟩
        rw [all_map]
        have s13 := s1.trans (s2.trans s3)
        refine ite2 (fun e => ?_) (fun e => ?_)
        · have hall : ∀ t ∈ treesOf own k, t.length = n - 1 := fun t ht => of_decide_eq_true (List.all_eq_true.mp e t ht)
          have hG := trees_good hW hn1 hO hF hall
          -- return Trees(trees)
          refine ⟨_, rfl, fun x dx nx ndx nex => ?_⟩
          have sM : Same H3 (upd (upd H3 dx (.own x)) x (.ins T.c_Trees dx [])) := fun b y hb => by
            rw [upd_ne (ne_of_none hb nx), upd_ne (ne_of_none hb ndx)]
            exact hb
          refine ⟨x, dx, D, ps, _, rfl, upd_same, (hRR.same s3).same sM, by rw [List.length_map]; omega, fun H4 l ps' k4 hx4 nl nps hLL4 => ⟨rfl, ?_⟩⟩
          have s4 : Same H3 H4 := fun b y hb => k4 b y (sM _ _ hb) (ne_of_none hb nx)
          have nl3 : H3 l = none := sM.free nl
          refine q H4 x (s13.trans s4) ⟨dx, l, ps', s13.free nx, s13.free nl3, fun c hc => s13.free (sM.free (nps c hc)), .inl ⟨_, hG, hx4, hLL4⟩⟩
        · have hnall : ¬ ∀ t ∈ treesOf own k, t.length = n - 1 := fun h => e (List.all_eq_true.mpr fun t ht => decide_eq_true (h t ht))
          -- return Parts(groups_by(people, ties, sorted(set(bars))))
          refine ⟨_, rfl, _, rfl, _, rfl, pb, natI bars, rfl, SqL.of (by rw [← natV_natI]; exact s3 _ _ (s2 _ _ hpb)), (by unfold natI; rw [List.length_map]; omega), fun z ks nd2 hks nz => ?_⟩
          generalize e4 : upd H3 z _ = H4
          have s4 : Same H3 H4 := by
            rw [← e4]
            exact same_new nz
          have hz4 : H4 z = some (SetO w z (fun j => decide (j ∈ natI bars)) ks.length) := by
            rw [← e4]
            exact upd_same
          have hkl2 : ks.length ≤ ts.length := by
            have := len_le_of_sub (ys := natI (List.range ts.length)) nd2 fun k hk => by
              obtain ⟨i, hi, rfl⟩ := List.mem_map.mp ((hks k).mp hk)
              exact List.mem_map.mpr ⟨i, List.mem_range.mpr (hB i hi), rfl⟩
            unfold natI at this
            rwa [List.length_map, List.length_range] at this
          refine ⟨z, _, _, rfl, hz4, (by omega), fun ns l hns hmem _ nl => ?_⟩
          have ens : ns = natI ((List.range ts.length).filter fun i => decide (i ∈ bars)) := sortedSet_eq (M := bars) hns hmem (List.pairwise_lt_range.filter _) fun m => by
            rw [List.mem_filter, List.mem_range, decide_eq_true_iff]
            exact ⟨fun h => h.2, fun h => ⟨hB m h, h⟩⟩
          generalize hbs' : (List.range ts.length).filter (fun i => decide (i ∈ bars)) = bs at ens
          have hbm : ∀ i, i ∈ bs ↔ i ∈ bars := fun i => by
            rw [← hbs', List.mem_filter, List.mem_range, decide_eq_true_iff]
            exact ⟨fun h => h.2, fun h => ⟨hB i h, h⟩⟩
          subst ens
          generalize e5 : upd H4 l _ = H5
          have s5 : Same H4 H5 := by
            rw [← e5]
            exact same_new nl
          have hl5 : H5 l = some (.lst (natV bs)) := by
            rw [← e5, natV_natI]
            exact upd_same
          have s15 := s13.trans (s4.trans s5)
          have hB' : ∀ i ∈ bs, i < ts.length := fun i hi => hB i ((hbm i).mp hi)
          have hG := parts_good hW hn1 hO hF hB' (fun x t hx ht c c0 c1 => (hC x t ((hbm x).mp hx) ht c c0 c1).mono fun z hz => ⟨hz.1, (hbm z).mpr hz.2⟩) (fun i hi => (hbm i).mpr (hU i hi)) hnall
          refine ⟨n, a, l, ts, bs, rfl, hT.same s15, SqL.of hl5, hW, hB', hn, fun H6 p ps' s6 np nps hLL6 => ?_⟩
          refine fun x dx nx ndx nex => ?_
          have sM : Same H6 (upd (upd H6 dx (.own x)) x (.ins T.c_Parts dx [])) := fun b y hb => by
            rw [upd_ne (ne_of_none hb nx), upd_ne (ne_of_none hb ndx)]
            exact hb
          have hlen : (groupsBy n ts bs).length ≤ n := by
            unfold groupsBy
            rw [List.length_map]
            have := List.length_filter_le (fun v => (marksBy n ts bs)[v]? == some v) (List.range n)
            rwa [List.length_range] at this
          have s16 := s15.trans s6
          refine ⟨x, dx, p, ps', _, rfl, upd_same, hLL6.r.same sM, by rw [List.length_map]; omega, fun H7 l' ps'' k7 hx7 nl7 nps7 hLL7 => ⟨rfl, ?_⟩⟩
          have s7 : Same H6 H7 := fun b y hb => k7 b y (sM _ _ hb) (ne_of_none hb nx)
          refine q H7 x (s16.trans s7) ⟨dx, l', ps'', s16.free nx, s16.free (sM.free nl7), fun c hc => s16.free (sM.free (nps7 c hc)), .inr ⟨_, hG, hx7, hLL7⟩⟩
end
end Jp
end
section
set_option Elab.async false
set_option linter.all false
set_option pp.maxSteps 1200
set_option pp.deepTerms false
set_option maxRecDepth 100000
set_option maxHeartbeats 4000000
namespace Jp
open PySem L2

theorem tyL {K : PySem.W.Frag} {H : Hp} {a : Addr} {xs : List V} (h : SqL K H a xs) : TyX K H (.ref a) (.type "list") := by
  rcases h with (h | ⟨o, h⟩) | ⟨o, its, n, hk, hc, _⟩
  · exact .base (.lst h)
  · exact .base (.frz h)
  · exact .kList hk hc
theorem tyT {K : PySem.W.Frag} {H : Hp} {a : Addr} {xs : List V} (h : SqT K H a xs) : TyX K H (.ref a) (.type "tuple") := by
  rcases h with (h | ⟨o, h⟩) | ⟨o, its, n, hk, hc, _⟩
  · exact .base (.tup h)
  · exact .fTuple h
  · exact .kTuple hk hc

section
variable {P : Program} {w : World} {K : PySem.W.Frag} {mg : Str → Option Value} {base : Heap}

def spNumber (K : PySem.W.Frag) : Sp := fun vs H Q _ => ∃ (v : V) (t : String) (b1 b2 : Bool), vs = [v] ∧ TyX K H v (.type t) ∧ kitB t "int" = some b1 ∧ kitB t "bool" = some b2 ∧ Q (.bl (b1 && !b2)) H
abbrev N_is_number : List Str := ["thing"]
theorem sc_is_number : FnScope N_is_number ["thing"] (defScope s_is_number) := ⟨rfl, rfl, rfl, by decide +kernel, rfl, by decide +kernel, by decide +kernel⟩
-- slots: thing 0
theorem ok_is_number (T : Tx K mg) : FnOk P w K mg base CX0 1 T.f_is_number T.d_is_number ["thing"] (spNumber K) := by
  refine T.F_is_number.ok sc_is_number (fun vs H Q E h => ?_) (fun cdv A outer s H vs Q E hr h => ?_)
  · obtain ⟨v, t, b1, b2, rfl, _⟩ := h
    rfl
  · obtain ⟨v, t, b1, b2, rfl, ht, h1, h2, q⟩ := h
    have nd := sc_is_number.nd
    refine ⟨_, (pss_one (ps_ret (pe_and (pe_callB call_isi (by rfl) T.z_isinstance (by decide +kernel) (pa_cons (pv 0) (pa_cons (pe_bltn (v := .ty "int") (by rfl) T.z_int (by decide +kernel) rfl) pa_nil))) (pe_one (pe_not (pe_callB call_isi (by rfl) T.z_isinstance (by decide +kernel) (pa_cons (pv 0) (pa_cons (pe_bltn (v := .ty "bool") (by rfl) T.z_bool (by decide +kernel) rfl) pa_nil)))))))), ?_⟩
    refine ⟨_, rfl, v, .ty "int", _, _, b1, rfl, .ty "int", ht, kit_ty h1, b1, rfl, ?_⟩
    cases b1 with
    | false => exact iteF q
    | true =>
      refine iteT ?_
      refine ⟨_, rfl, v, .ty "bool", _, _, b2, rfl, .ty "bool", ht, kit_ty h2, b2, rfl, ?_⟩
      cases b2 <;> exact q
theorem ki1 : kitB "int" "int" = some true := by decide +kernel
theorem ki2 : kitB "int" "bool" = some false := by decide +kernel
theorem num_int {K : PySem.W.Frag} {H : Hp} (i : Int) {Q : VK} {E : XK} (q : Q (.bl true) H) : spNumber K [.int i] H Q E :=
  ⟨_, "int", true, false, rfl, .base (.int i), by decide +kernel, by decide +kernel, q⟩

/-- a tie that is one -/
def spTieY (K : PySem.W.Frag) : Sp := fun vs H Q _ => ∃ (c : Addr) (t : Tie) (n : Nat), vs = [.ref c, .int (n : Int)] ∧ SqT K H c [.int (t.1 : Int), .int (t.2 : Int)] ∧ t.1 < t.2 ∧ t.2 < n ∧ ∀ H', Same H H' → Q (.bl true) H'
abbrev N_is_tie : List Str := ["thing", "people", "one"]
theorem sc_is_tie : FnScope N_is_tie ["thing", "people"] (defScope s_is_tie) := ⟨rfl, rfl, rfl, by decide +kernel, rfl, by decide +kernel, by decide +kernel⟩
-- slots: thing 0, people 1, one 2
theorem ok_is_tie (T : Tx K mg) : FnOk P w K mg base CX0 2 T.f_is_tie T.d_is_tie ["thing", "people"] (spTieY K) := by
  refine T.F_is_tie.ok sc_is_tie (fun vs H Q E h => ?_) (fun cdv A outer s H vs Q E hr h => ?_)
  · obtain ⟨c, t, n, rfl, _⟩ := h
    rfl
  · obtain ⟨c, t, n, rfl, hc, h12, h2n, q⟩ := h
    have nd := sc_is_tie.nd
    refine ⟨_, (pss_cons (ps_if (PW.pt (pw_or (pt_not (pt_val (pe_callB call_isi (by rfl) T.z_isinstance (by decide +kernel) (pa_cons (pv 0) (pa_cons (pe_bltn (v := .ty "tuple") (by rfl) T.z_tuple (by decide +kernel) rfl) pa_nil))))) (pw_or (pt_cmpR op_ne (pe_callB call_len_seq (by rfl) T.z_len PySem.boot_len (pa_cons (pv 0) pa_nil)) pe_int (nomark _)) (pw_or1 (pt_not (pt_val (pe_callB (cr_all rfl) (by rfl) T.z_all (by decide +kernel) (pa_cons (pe_lc (own := [("one", 2)]) (g := (gName 2)) (tt := tYes) (te := (tCall (spNumber K) [] E0 (tCons (tVar 2) tNil))) rfl nd (pi_tup (pv 0)) (blkOk_by (own := [("one", 2)]) (N := N_is_tie) (sc := (defScope s_is_tie)) (by decide +kernel)) (fun _ _ _ _ _ => (pg_name (i := 2) nd rfl (.inl rfl))) (fun _ _ _ _ _ => pts_nil) (fun _ _ _ _ _ => (pe_call (ok_is_number T) (hr.mono (by decide)) (by rfl) T.g_is_number T.F_is_number.kp T.b_is_number .nil pass0 (pa_cons (pv 2) pa_nil)))) pa_nil)))))))) 
        (pss_one (ps_ret pe_bl)) pss_nil)
      (pss_one (ps_ret (pe_chain3 op_le op_lt op_lt pe_int (pe_ix ix_tup (pv 0) pe_int (fun _ _ => rfl)) (pe_ix ix_tup (pv 0) pe_int (fun _ _ => rfl)) (pv 1) )))), ?_⟩
    refine ⟨_, rfl, .ref c, .ty "tuple", _, _, true, rfl, .ty "tuple", tyT hc, kit_ty (by decide +kernel), true, rfl, ?_⟩
    refine iteF ?_
    refine ⟨_, rfl, c, _, rfl, .inr hc, rfl, _, rfl, iteF ?_⟩
    refine ⟨_, rfl, c, rfl, ⟨_, hc⟩, fun D hD => lc_tup (K := K) (a := c) (xs := [.int (t.1 : Int), .int (t.2 : Int)]) (fun i H2 => Same H H2 ∧ H D = none ∧ H2 D = some (.lst ((List.replicate i true).map V.bl)))
      ⟨same_new hD, hD, by rw [upd_same]; rfl⟩ (fun i H2 _ h => same_tup h.1 hc) ?_ ?_⟩
    · rintro i x H2 hi ⟨s2, nD, h2⟩
      obtain ⟨z, rfl⟩ : ∃ z, x = V.int z := by
        match i, hi with
        | 0, hi => exact ⟨_, (Option.some.inj hi).symm⟩
        | 1, hi => exact ⟨_, (Option.some.inj hi).symm⟩
        | i + 2, hi => simp at hi
      have hi2 : i < 2 := (List.getElem?_eq_some_iff.mp hi).1
      refine ⟨rfl, _, rfl, _, "int", true, false, rfl, .base (.int z), ki1, ki2, _, h2, sml1 ?_, same_mut s2 nD, nD, ?_⟩
      · rw [List.length_map, List.length_replicate]
        omega
      · rw [upd_same, List.replicate_succ', List.map_append]
        rfl
    · rintro H2 ⟨s2, nD, h2⟩
      refine ⟨D, _, rfl, SqL.of h2, _, rfl, ?_⟩
      refine iteF ?_
      have hc2 := same_tup s2 hc
      refine ⟨_, rfl, c, _, 0, _, rfl, rfl, hc2, atI_nat (j := 0) rfl, 0, _, rfl, rfl, _, rfl, ?_⟩
      rw [decide_eq_true (by omega)]
      refine iteT ?_
      refine ⟨_, rfl, c, _, 1, _, rfl, rfl, hc2, atI_nat (j := 1) rfl, _, _, rfl, rfl, _, rfl, ?_⟩
      rw [decide_eq_true (by omega)]
      refine iteT ?_
      refine ⟨_, rfl, _, _, rfl, rfl, ?_⟩
      show Q (.bl (decide ((t.2 : Int) < (n : Int)))) H2
      rw [decide_eq_true (by omega)]
      exact q H2 s2

/-- a web that is one -/
def spWebY (K : PySem.W.Frag) : Sp := fun vs H Q _ => ∃ (n : Nat) (a : Addr) (ts : List Tie), vs = [.int (n : Int), .ref a] ∧ TiesAt K H a ts ∧ Web n ts ∧ 2 ≤ n ∧ n ≤ 10 ∧ ts.length ≤ 40 ∧ ∀ H', Same H H' → Q .non H'
abbrev N_asked_web : List Str := ["people", "ties", "tie"]
theorem sc_asked_web : FnScope N_asked_web ["people", "ties"] (defScope s_asked_web) := ⟨rfl, rfl, rfl, by decide +kernel, rfl, by decide +kernel, by decide +kernel⟩
-- slots: people 0, ties 1, tie 2
theorem ok_asked_web (T : Tx K mg) : FnOk P w K mg base CX0 3 T.f_asked_web T.d_asked_web ["people", "ties"] (spWebY K) := by
  refine T.F_asked_web.ok sc_asked_web (fun vs H Q E h => ?_) (fun cdv A outer s H vs Q E hr h => ?_)
  · obtain ⟨n, a, ts, rfl, _⟩ := h
    rfl
  · obtain ⟨n, a, ts, rfl, hT, hW, hn2, hn, hts, q⟩ := h
    have nd := sc_asked_web.nd
    refine ⟨_, (pss_cons (ps_if (PW.pt (pw_or (pt_not (pt_val (pe_call (ok_is_number T) (hr.mono (by decide)) (by rfl) T.g_is_number T.F_is_number.kp T.b_is_number .nil pass0 (pa_cons (pv 0) pa_nil)))) (pw_or1 (pt_not (pt_chain op_le op_le pe_int (pv 0) (pe_glob (v := .int 10) (by rfl) T.k_MOST ⟨_, rfl⟩)))))) 
        (pss_one ps_never) pss_nil)
      (pss_one (ps_if (PW.pt (pw_or (pt_not (pt_val (pe_callB call_isi (by rfl) T.z_isinstance (by decide +kernel) (pa_cons (pv 1) (pa_cons (pe_bltn (v := .ty "list") (by rfl) T.z_list (by decide +kernel) rfl) pa_nil))))) (pw_or (pt_cmpR op_gt (pe_callB call_len_seq (by rfl) T.z_len PySem.boot_len (pa_cons (pv 1) pa_nil)) (pe_glob (v := .int 40) (by rfl) T.k_MOST_TIES ⟨_, rfl⟩) (nomark _)) (pw_or1 (pt_not (pt_val (pe_callB (cr_all rfl) (by rfl) T.z_all (by decide +kernel) (pa_cons (pe_lc (own := [("tie", 2)]) (g := (gName 2)) (tt := tYes) (te := (tCall (spTieY K) [] E0 (tCons (tVar 2) (tCons (tVar 0) tNil)))) rfl nd (pi_list (pv 1)) (blkOk_by (own := [("tie", 2)]) (N := N_asked_web) (sc := (defScope s_asked_web)) (by decide +kernel)) (fun _ _ _ _ _ => (pg_name (i := 2) nd rfl (.inl rfl))) (fun _ _ _ _ _ => pts_nil) (fun _ _ _ _ _ => (pe_call (ok_is_tie T) (hr.mono (by decide)) (by rfl) T.g_is_tie T.F_is_tie.kp T.b_is_tie .nil pass0 (pa_cons (pv 2) (pa_cons (pv 0) pa_nil))))) pa_nil)))))))) 
        (pss_one ps_never) pss_nil))), ?_⟩
    obtain ⟨xs, hxs, hxl, hxt⟩ := hT.seq
    refine ⟨_, rfl, _, "int", true, false, rfl, .base (.int (n : Int)), ki1, ki2, true, rfl, ?_⟩
    refine iteF ?_
    refine ⟨_, rfl, 2, _, rfl, rfl, _, rfl, ?_⟩
    rw [decide_eq_true (by omega)]
    refine iteT ?_
    refine ⟨_, _, rfl, rfl, _, rfl, ?_⟩
    rw [decide_eq_true (by omega)]
    refine iteF ?_
    -- the ties
    refine ⟨_, rfl, .ref a, .ty "list", _, _, true, rfl, .ty "list", tyL hxs, kit_ty (by decide +kernel), true, rfl, ?_⟩
    refine iteF ?_
    refine ⟨_, rfl, a, _, rfl, .inl hxs, _, _, rfl, rfl, _, rfl, ?_⟩
    rw [decide_eq_false (by omega)]
    refine iteF ?_
    refine ⟨_, rfl, a, rfl, ⟨_, hxs⟩, fun D hD => lc_list (K := K) (a := a) (xs := xs) (fun i H2 => Same H H2 ∧ H D = none ∧ H2 D = some (.lst ((List.replicate i true).map V.bl)))
      ⟨same_new hD, hD, by rw [upd_same]; rfl⟩ (fun i H2 _ h => h.1.seq hxs) ?_ ?_⟩
    · rintro i x H2 hi ⟨s2, nD, h2⟩
      obtain ⟨t, c, ht, rfl, hct⟩ := hxt i x hi
      have hil := (List.getElem?_eq_some_iff.mp hi).1
      have hw := hW.at ht
      refine ⟨rfl, _, rfl, _, rfl, c, t, n, rfl, same_tup s2 hct, hw.2.2, hw.2.1, fun H3 s3 => ⟨_, s3 _ _ h2, sml1 ?_, same_mut (s2.trans s3) nD, nD, ?_⟩⟩
      · rw [List.length_map, List.length_replicate]
        omega
      · rw [upd_same, List.replicate_succ', List.map_append]
        rfl
    · rintro H2 ⟨s2, nD, h2⟩
      refine ⟨D, _, rfl, SqL.of h2, _, rfl, ?_⟩
      have e : (List.replicate xs.length true).all id = true := by
        rw [List.all_eq_true]
        intro b hb
        exact (List.mem_replicate.mp hb).2
      rw [e]
      refine iteF ?_
      exact q H2 s2

/-- what isinstance looks at -/
theorem ty_Trees (T : Tx K mg) {H : Hp} {x dx : Addr} {fs : List (Str × V)} (h : H x = some (.ins T.c_Trees dx fs)) : TyX K H (.ref x) (.ref T.c_Trees) := .base (.ins h T.cl_Trees T.ha_Trees T.hn0 T.htk0 T.hm_Trees)
theorem ty_Parts (T : Tx K mg) {H : Hp} {x dx : Addr} {fs : List (Str × V)} (h : H x = some (.ins T.c_Parts dx fs)) : TyX K H (.ref x) (.ref T.c_Parts) := .base (.ins h T.cl_Parts T.ha_Parts T.hn0 T.htk0 T.hm_Parts)
def spTrees (K : PySem.W.Frag) (cT cP : Addr) : Sp := fun vs H Q _ => ∃ (n : Nat) (a : Addr) (k : Nat) (ts : List Tie), vs = [.int (n : Int), .ref a, .int (k : Int)] ∧ TiesAt K H a ts ∧ Web n ts ∧ 2 ≤ n ∧ n ≤ 10 ∧ ts.length ≤ 40 ∧ 1 ≤ k ∧ k ≤ 10 ∧
  ∀ H' x, Same H H' → ToldIs cT cP n ts k H H' x → Q (.ref x) H'
theorem ToldIs.from {cT cP : Addr} {n : Nat} {ts : List Tie} {k : Nat} {H H1 H' : Hp} {x : Addr} (h : ToldIs cT cP n ts k H1 H' x) (e : Same H H1) : ToldIs cT cP n ts k H H' x := by
  obtain ⟨dx, l, ps, h1, h2, h3, h4⟩ := h
  exact ⟨dx, l, ps, e.free h1, e.free h2, fun c hc => e.free (h3 c hc), h4⟩
abbrev N_trees : List Str := ["people", "ties", "many"]
theorem sc_trees : FnScope N_trees ["people", "ties", "many"] (defScope s_trees) := ⟨rfl, rfl, rfl, by decide +kernel, rfl, by decide +kernel, by decide +kernel⟩
-- slots: people 0, ties 1, many 2
theorem ok_trees (T : Tx K mg) : FnOk P w K mg base CX0 5 T.f_trees T.d_trees ["people", "ties", "many"] (spTrees K T.c_Trees T.c_Parts) := by
  refine T.F_trees.ok sc_trees (fun vs H Q E h => ?_) (fun cdv A outer s H vs Q E hr h => ?_)
  · obtain ⟨n, a, k, ts, rfl, _⟩ := h
    rfl
  · obtain ⟨n, a, k, ts, rfl, hT, hW, hn2, hn, hts, hk1, hk, q⟩ := h
    have nd := sc_trees.nd
    refine ⟨_, (pss_cons (ps_expr (pe_call (ok_asked_web T) (hr.mono (by decide)) (by rfl) T.g_asked_web T.F_asked_web.kp T.b_asked_web .nil pass0 (pa_cons (pv 0) (pa_cons (pv 1) pa_nil))))
      (pss_cons (ps_if (PW.pt (pw_or (pt_not (pt_val (pe_call (ok_is_number T) (hr.mono (by decide)) (by rfl) T.g_is_number T.F_is_number.kp T.b_is_number .nil pass0 (pa_cons (pv 2) pa_nil)))) (pw_or1 (pt_not (pt_chain op_le op_le pe_int (pv 2) (pe_glob (v := .int 10) (by rfl) T.k_MOST ⟨_, rfl⟩)))))) 
        (pss_one ps_never) pss_nil)
      (pss_one (ps_ret (pe_call (ok_told T) (hr.mono (by decide)) (by rfl) T.g_told T.F_told.kp T.b_told .nil pass0 (pa_cons (pv 0) (pa_cons (pv 1) (pa_cons (pv 2) pa_nil)))))))), ?_⟩
    refine ⟨_, rfl, _, rfl, n, a, ts, rfl, hT, hW, hn2, hn, hts, fun H1 s1 => ?_⟩
    refine ⟨_, rfl, _, "int", true, false, rfl, .base (.int (k : Int)), ki1, ki2, true, rfl, ?_⟩
    refine iteF ?_
    refine ⟨_, rfl, 1, _, rfl, rfl, _, rfl, ?_⟩
    rw [decide_eq_true (by omega)]
    refine iteT ?_
    refine ⟨_, _, rfl, rfl, _, rfl, ?_⟩
    rw [decide_eq_true (by omega)]
    refine iteF ?_
    refine ⟨_, rfl, _, rfl, _, rfl, n, a, k, ts, rfl, hT.same s1, hW, by omega, hn, by omega, by omega, fun H2 x s2 h2 => q H2 x (s1.trans s2) (h2.from s1)⟩
def spMost (K : PySem.W.Frag) : Sp := fun vs H Q _ => ∃ (n : Nat) (a : Addr) (ts : List Tie), vs = [.int (n : Int), .ref a] ∧ TiesAt K H a ts ∧ Web n ts ∧ 2 ≤ n ∧ n ≤ 10 ∧ ts.length ≤ 40 ∧
  ∀ H' m, Same H H' → Has n ts m → ¬ Has n ts (m + 1) → Q (.int ((m : Nat) : Int)) H'
abbrev N_most : List Str := ["people", "ties", "many"]
theorem sc_most : FnScope N_most ["people", "ties"] (defScope s_most) := ⟨rfl, rfl, rfl, by decide +kernel, rfl, by decide +kernel, by decide +kernel⟩
-- slots: people 0, ties 1, many 2
theorem ok_most (T : Tx K mg) : FnOk P w K mg base CX0 5 T.f_most T.d_most ["people", "ties"] (spMost K) := by
  refine T.F_most.ok sc_most (fun vs H Q E h => ?_) (fun cdv A outer s H vs Q E hr h => ?_)
  · obtain ⟨n, a, ts, rfl, _⟩ := h
    rfl
  · obtain ⟨n, a, ts, rfl, hT, hW, hn2, hn, hts, q⟩ := h
    have nd := sc_most.nd
    refine ⟨_, (pss_cons (ps_expr (pe_call (ok_asked_web T) (hr.mono (by decide)) (by rfl) T.g_asked_web T.F_asked_web.kp T.b_asked_web .nil pass0 (pa_cons (pv 0) (pa_cons (pv 1) pa_nil))))
      (pss_cons (ps_set (i := 2) nd rfl (.inl rfl) pe_int)
      (pss_cons (ps_while PassesOwn.never (pt_val (pe_callB call_isi (by rfl) T.z_isinstance (by decide +kernel) (pa_cons (pe_call (ok_told T) (hr.mono (by decide)) (by rfl) T.g_told T.F_told.kp T.b_told .nil pass0 (pa_cons (pv 0) (pa_cons (pv 1) (pa_cons (pe_op op_add (pv 2) pe_int) pa_nil)))) (pa_cons (pe_glob (v := .ref T.c_Trees) (by rfl) T.g_Trees rfl) pa_nil)))) 
        (pss_one (ps_set (i := 2) nd rfl (.inl rfl) (pe_op op_add (pv 2) pe_int))))
      (pss_one (ps_ret (pv 2)))))), ?_⟩
    refine ⟨_, rfl, _, rfl, n, a, ts, rfl, hT, hW, hn2, hn, hts, fun H1 s1 => ?_⟩
    refine ⟨fun m σ H2 => ∃ k : Nat, σ = [some (.int n), some (.ref a), some (.int (k : Int))] ∧ Same H H2 ∧ Has n ts k ∧ m = ts.length - k, ⟨_, 0, rfl, s1, Has.zero, rfl⟩, ?_⟩
    rintro m σ H2 ⟨k, rfl, s2, hk, rfl⟩
    have hkf : k ≤ ts.length := Nat.le_trans (Nat.le_mul_of_pos_right k (by omega)) hk.few
    refine ⟨_, rfl, _, rfl, _, rfl, k, 1, rfl, rfl, n, a, k + 1, ts, rfl, hT.same s2, hW, by omega, hn, by omega, by omega, fun H3 x s3 h3 => ?_⟩
    obtain ⟨dx, l, ps, nx, nl, nps, h4⟩ := h3
    rcases h4 with ⟨tss, hG, hx, hLL⟩ | ⟨gs, hG, hx, hLL⟩
    · refine ⟨_, .ref T.c_Trees, _, _, true, rfl, .own _, ty_Trees T hx, T.ki_Trees_Trees, true, rfl, iteT ?_⟩
      have hk1 : Has n ts (k + 1) := ⟨tss, hG⟩
      have hkf1 : k + 1 ≤ ts.length := Nat.le_trans (Nat.le_mul_of_pos_right (k + 1) (by omega)) hk1.few
      refine ⟨_, fun _ _ h => h, ?_⟩
      refine ⟨_, rfl, k, 1, rfl, rfl, ?_⟩
      exact ⟨ts.length - (k + 1), by omega, k + 1, rfl, s2.trans s3, hk1, rfl⟩
    · refine ⟨_, .ref T.c_Trees, _, _, false, rfl, .own _, ty_Parts T hx, T.ki_Parts_Trees, false, rfl, iteF ?_⟩
      exact ⟨_, rfl, q H3 k (s2.trans s3) hk fun ⟨tss, hG'⟩ => not_both hW (by omega) hG' hG⟩
end
end Jp
end
section
set_option Elab.async false
set_option linter.all false
set_option pp.maxSteps 1200
set_option pp.deepTerms false
set_option maxRecDepth 100000
set_option maxHeartbeats 4000000
namespace Jp
open PySem L2

def natOf (t : List Int) : List Nat := t.map Int.toNat
def intsV (t : List Int) : List V := t.map V.int
theorem natOf_natI (l : List Nat) : natOf (natI l) = l := by
  unfold natOf natI
  rw [List.map_map]
  exact List.map_id'' (fun _ => rfl) l
theorem natI_natOf {t : List Int} (h : ∀ z ∈ t, 0 ≤ z) : natI (natOf t) = t := by
  unfold natOf natI
  rw [List.map_map]
  conv => rhs; rw [← List.map_id t]
  refine List.map_congr_left fun z hz => ?_
  have := h z hz
  show ((z.toNat : Nat) : Int) = z
  omega
def TreeP (n : Nat) (ts : List Tie) (t : List Int) : Prop := (t.length : Int) = (n : Int) - 1 ∧ (∀ z ∈ t, 0 ≤ z ∧ z < (ts.length : Int)) ∧ marksBy n ts (natOf t) = List.replicate n 0
def TreesP (n : Nat) (ts : List Tie) (k : Int) (tss : List (List Int)) : Prop := (∀ t ∈ tss, TreeP n ts t) ∧ (tss.length : Int) = k ∧ tss.flatten.Nodup
def PartsP (n : Nat) (ts : List Tie) (k : Int) (gs : List (List Int)) : Prop := (∀ g ∈ gs, g ≠ []) ∧ gs.flatten.Perm (natI (List.range n)) ∧ ((crossing ts (gs.map natOf)).length : Int) < k * ((gs.length : Int) - 1)

theorem nodup_of_sub {xs : List Int} : ∀ {ys : List Int}, xs.Nodup → (∀ x ∈ xs, x ∈ ys) → ys.length ≤ xs.length → ys.Nodup := by
  induction xs with
  | nil =>
    intro ys _ _ h
    have e : ys = [] := List.eq_nil_of_length_eq_zero (by simpa using h)
    subst e
    exact List.nodup_nil
  | cons x xs ih =>
    intro ys hn hs hl
    have hx := hs x List.mem_cons_self
    have hn' := List.nodup_cons.mp hn
    have he : (ys.erase x).length + 1 = ys.length := by
      rw [List.length_erase_of_mem hx]
      have := List.length_pos_of_mem hx
      omega
    rw [List.length_cons] at hl
    have hsub : ∀ z ∈ xs, z ∈ ys.erase x := fun z hz => by
      have hne : z ≠ x := fun e => hn'.1 (e ▸ hz)
      exact (List.mem_erase_of_ne hne).mpr (hs z (List.mem_cons_of_mem _ hz))
    have h1 := ih hn'.2 hsub (by omega)
    have h2 : x ∉ ys.erase x := fun h => by
      have := len_le_of_sub hn fun z hz => by
        rcases List.mem_cons.mp hz with rfl | hz
        · exact h
        · exact hsub z hz
      rw [List.length_cons] at this
      omega
    exact (List.perm_cons_erase hx).nodup_iff.mpr (List.nodup_cons.mpr ⟨h2, h1⟩)
theorem set_len_iff {ks l : List Int} (nd : ks.Nodup) (h : ∀ k, k ∈ ks ↔ k ∈ l) : ks.length = l.length ↔ l.Nodup := by
  refine ⟨fun e => nodup_of_sub nd (fun x hx => (h x).mp hx) (by omega), fun hl => ?_⟩
  exact Nat.le_antisymm (len_le_of_sub nd fun x hx => (h x).mp hx) (len_le_of_sub hl fun x hx => (h x).mpr hx)
theorem sorted_iff {ns l m : List Int} (hp : ns.Perm l) (hs : ns.Pairwise (· ≤ ·)) (hm : m.Pairwise (· ≤ ·)) : ns = m ↔ l.Perm m := by
  refine ⟨fun e => e ▸ hp.symm, fun h => ?_⟩
  exact List.Perm.eq_of_pairwise (fun a b _ _ h1 h2 => Int.le_antisymm h1 h2) hs hm (hp.trans h)
theorem natI_range_sorted (n : Nat) : (natI (List.range n)).Pairwise (· ≤ ·) := by
  unfold natI
  rw [List.pairwise_map]
  exact List.pairwise_lt_range.imp fun h => by omega
theorem rgV_natI (n : Nat) : rgV 0 (n : Int) = (natI (List.range n)).map V.int := by rw [rgV_natV, natV_natI]
theorem take_flat {α : Type} {l : List (List α)} {i : Nat} {x : List α} (h : l[i]? = some x) : (l.take (i + 1)).flatten = (l.take i).flatten ++ x := by
  rw [take_snoc h, List.flatten_append, List.flatten_cons, List.flatten_nil, List.append_nil]
theorem take_all {α : Type} {l : List α} {i : Nat} (h : l.length ≤ i) : l.take i = l := List.take_of_length_le h

def intssD (l : List (List Int)) : List PyData := l.map intsD
theorem plain_ints (t : List Int) : (intsD t).plain = true := by
  unfold intsD
  simp only [PyData.plain]
  induction t with
  | nil => simp [PyData.plainAll]
  | cons x t ih => simp only [List.map_cons, PyData.plainAll, PyData.plain, ih, Bool.and_self]
theorem plain_intss : ∀ l : List (List Int), PyData.plainAll (intssD l) = true
  | [] => by simp [intssD, PyData.plainAll]
  | t :: l => by
    have := plain_intss l
    unfold intssD at this ⊢
    simp only [List.map_cons, PyData.plainAll, plain_ints, this, Bool.and_self]
theorem truthy_ints (t : List Int) : (intsD t).truthy = !t.isEmpty := by
  unfold intsD
  cases t <;> rfl

/-- a list of lists that stand in H, as they are -/
def LM (H : Hp) (p : Addr) (cs : List Addr) (xss : List (List V)) : Prop := H p = some (.lst (cs.map V.ref)) ∧ cs.length = xss.length ∧ ∀ (i : Nat) (c : Addr) (xs : List V), cs[i]? = some c → xss[i]? = some xs → H c = some (.lst xs)
theorem LL.m {H : Hp} {p : Addr} {ps : List Addr} {xss : List (List V)} (h : LL H p ps xss) : LM H p ps xss := ⟨h.top, h.len, h.at_⟩
theorem LM.same {H H' : Hp} {p : Addr} {cs : List Addr} {xss : List (List V)} (h : LM H p cs xss) (e : Same H H') : LM H' p cs xss := ⟨e _ _ h.1, h.2.1, fun i c xs a b => e _ _ (h.2.2 i c xs a b)⟩
theorem LM.r {K : PySem.W.Frag} {H : Hp} {p : Addr} {cs : List Addr} {xss : List (List V)} (h : LM H p cs xss) : LR K H p cs xss := ⟨SqL.of h.1, h.2.1, fun i c xs a b => SqL.of (h.2.2 i c xs a b)⟩
theorem LM.item {H : Hp} {p : Addr} {cs : List Addr} {l : List (List Int)} (h : LM H p cs (l.map intsV)) {i : Nat} {x : V} (hx : (cs.map V.ref)[i]? = some x) : ∃ c t, x = .ref c ∧ l[i]? = some t ∧ H c = some (.lst (intsV t)) := by
  rw [List.getElem?_map] at hx
  cases e : cs[i]? with
  | none => rw [e] at hx; cases hx
  | some c =>
    rw [e] at hx
    have hl : i < l.length := by
      have := h.2.1
      rw [List.length_map] at this
      rw [← this]
      exact (List.getElem?_eq_some_iff.mp e).1
    have hy : l[i]? = some l[i] := List.getElem?_eq_getElem hl
    exact ⟨c, _, (Option.some.inj hx).symm, hy, h.2.2 i c _ e (by rw [List.getElem?_map, hy]; rfl)⟩
theorem LM.len {H : Hp} {p : Addr} {cs : List Addr} {l : List (List Int)} (h : LM H p cs (l.map intsV)) : cs.length = l.length := by
  have := h.2.1
  rwa [List.length_map] at this
theorem dpAll_LM {K : PySem.W.Frag} {H : Hp} : ∀ (cs : List Addr) (l : List (List Int)), cs.length = l.length → (∀ (i : Nat) (c : Addr) (t : List Int), cs[i]? = some c → l[i]? = some t → H c = some (.lst (intsV t))) → DpAll K H (cs.map V.ref) (intssD l)
  | [], [], _, _ => .nil
  | [], _ :: _, h, _ => by simp at h
  | _ :: _, [], h, _ => by simp at h
  | c :: cs, t :: l, h, g => .cons (dp_ints (SqL.of (g 0 c t rfl rfl))) (dpAll_LM cs l (by simpa using h) fun i c' t' a b => g (i + 1) c' t' a b)
theorem LM.dp {K : PySem.W.Frag} {H : Hp} {p : Addr} {cs : List Addr} {l : List (List Int)} (h : LM H p cs (l.map intsV)) : DpAll K H (cs.map V.ref) (intssD l) :=
  dpAll_LM cs l h.len fun i c t hc ht => h.2.2 i c _ hc (by rw [List.getElem?_map, ht]; rfl)
theorem intsV_app (a b : List Int) : intsV a ++ intsV b = intsV (a ++ b) := by
  unfold intsV
  rw [List.map_append]
theorem intsV_len (a : List Int) : (intsV a).length = a.length := by
  unfold intsV
  rw [List.length_map]

section
variable {P : Program} {w : World} {K : PySem.W.Frag} {mg : Str → Option Value} {base : Heap}

def spTreesShow (K : PySem.W.Frag) (C : Addr) : Sp := fun vs H Q _ => ∃ (self dx l a : Addr) (cs : List Addr) (tss : List (List Int)) (n : Nat) (ts : List Tie) (k : Int), vs = [.ref self, .int (n : Int), .ref a, .int k] ∧
  H self = some (.ins C dx (putF "trees" (.ref l) [])) ∧ LM H l cs (tss.map intsV) ∧ TiesAt K H a ts ∧ Web n ts ∧ n ≤ 10 ∧ ts.length ≤ 60 ∧ tss.length ≤ 100 ∧ (∀ t ∈ tss, t.length ≤ 1000) ∧
  ∀ H' b, Same H H' → (b = true ↔ TreesP n ts k tss) → Q (.bl b) H'

theorem fld_look (f : Str) (v : V) : (putF f v []).lookup f = some v := by rw [lookup_putF, if_pos rfl]
theorem fld_no {f g : Str} (v : V) (h : ¬ g = f) : (putF f v []).lookup g = none := by
  rw [lookup_putF, if_neg h]
  rfl

end
end Jp
end
section
set_option Elab.async false
set_option linter.all false
set_option pp.maxSteps 1200
set_option pp.deepTerms false
set_option maxRecDepth 100000
set_option maxHeartbeats 4000000
namespace Jp
open PySem L2

theorem fits_ints (t : List Int) (h : t.length ≤ 100000) : (intsD t).fits63 := by
  show (((t.map PyData.int).length : Nat) : Int) < 2 ^ 63
  rw [List.length_map]
  omega
theorem all_truthy (l : List (List Int)) : (intssD l).all PyData.truthy = true ↔ ∀ g ∈ l, g ≠ [] := by
  unfold intssD
  rw [List.all_map, List.all_eq_true]
  refine forall_congr' fun g => forall_congr' fun _ => ?_
  show (intsD g).truthy = true ↔ _
  rw [truthy_ints]
  cases g <;> simp

/-- where v was told last -/
def LookIs (kvs : List (Key × V)) (gs : List (List Int)) : Prop := ∀ v : Int, v ∈ gs.flatten → ∃ (i : Nat) (g : List Int), gs[i]? = some g ∧ v ∈ g ∧ valV kvs (Sum.inl v) = some (.int (i : Int))

theorem home_int {gs : List (List Int)} (nd : gs.flatten.Nodup) (hpos : ∀ v ∈ gs.flatten, 0 ≤ v) {i v : Nat} {g : List Int} (hg : gs[i]? = some g) (hv : (v : Int) ∈ g) : homeOf (gs.map natOf) v = i := by
  have hfl : (gs.map natOf).flatten = natOf gs.flatten := by
    unfold natOf
    rw [List.map_flatten]
  refine home_of_mem ?_ (g := natOf g) (by rw [List.getElem?_map, hg]; rfl) ?_
  · rw [hfl]
    unfold natOf
    show List.Pairwise (· ≠ ·) _
    rw [List.pairwise_map]
    have nd' : List.Pairwise (· ≠ ·) gs.flatten := nd
    refine nd'.imp_of_mem fun {a b} ha hb hab e => hab ?_
    have := hpos a ha
    have := hpos b hb
    omega
  · exact List.mem_map.mpr ⟨_, hv, by omega⟩

section
variable {P : Program} {w : World} {K : PySem.W.Frag} {mg : Str → Option Value} {base : Heap}

def Parted (n : Nat) (gs : List (List Int)) : Prop := (∀ g ∈ gs, g ≠ []) ∧ gs.flatten.Perm (natI (List.range n))
def spParted (K : PySem.W.Frag) : Sp := fun vs H Q _ => ∃ (n : Nat) (l : Addr) (cs : List Addr) (gs : List (List Int)), vs = [.int (n : Int), .ref l] ∧ LM H l cs (gs.map intsV) ∧ n ≤ 10 ∧ gs.length ≤ 100 ∧ (∀ g ∈ gs, g.length ≤ 1000) ∧
  ∀ H' b, Same H H' → (b = true ↔ Parted n gs) → Q (.bl b) H'
theorem flat_len {l : List (List Int)} {c : Nat} (h : ∀ g ∈ l, g.length ≤ c) : l.flatten.length ≤ l.length * c := by
  induction l with
  | nil => simp
  | cons g l ih =>
    have h1 := ih fun g hg => h g (List.mem_cons_of_mem _ hg)
    have h2 := h g List.mem_cons_self
    rw [List.flatten_cons, List.length_append, List.length_cons, Nat.succ_mul]
    omega

def spPartsShow (K : PySem.W.Frag) (C : Addr) : Sp := fun vs H Q _ => ∃ (self dx l a : Addr) (cs : List Addr) (gs : List (List Int)) (n : Nat) (ts : List Tie) (k : Int), vs = [.ref self, .int (n : Int), .ref a, .int k] ∧
  H self = some (.ins C dx (putF "groups" (.ref l) [])) ∧ LM H l cs (gs.map intsV) ∧ TiesAt K H a ts ∧ Web n ts ∧ n ≤ 10 ∧ ts.length ≤ 60 ∧ gs.length ≤ 100 ∧ (∀ g ∈ gs, g.length ≤ 1000) ∧ -1000 ≤ k ∧ k ≤ 1000 ∧
  ∀ H' b, Same H H' → (b = true ↔ PartsP n ts k gs) → Q (.bl b) H'
theorem putK_len (kvs : List (Key × V)) (k : Key) (v : V) : (putK kvs k v).length ≤ kvs.length + 1 := by
  unfold putK
  split
  · rw [List.length_map]
    omega
  · rw [List.length_append]
    exact Nat.le_refl _
/-- the ties between, by home -/
theorem between_take {ts : List Tie} {gs : List (List Nat)} {i : Nat} {t : Tie} (ht : ts[i]? = some t) : crossing (ts.take (i + 1)) gs = crossing (ts.take i) gs ++ (if homeOf gs t.1 ≠ homeOf gs t.2 then [t] else []) := by
  unfold crossing
  rw [take_snoc ht, List.filter_append, List.filter_cons]
  congr 1
  by_cases h : homeOf gs t.1 ≠ homeOf gs t.2
  · rw [if_pos h, if_pos (decide_eq_true h)]
    rfl
  · rw [if_neg h, if_neg (by rw [decide_eq_false h]; decide)]
    rfl

end
end Jp
end
section
set_option Elab.async false
set_option linter.all false
set_option pp.maxSteps 1200
set_option pp.deepTerms false
set_option maxRecDepth 100000
set_option maxHeartbeats 4000000
namespace Jp
open PySem L2

theorem nb_add {i c : Int} {N : Nat} (h : i.natAbs < 2 ^ N) (hc : c.natAbs < 2 ^ N) : (i + c).natAbs < 2 ^ (N + 1) := by
  rw [Nat.pow_succ]
  generalize 2 ^ N = B at h hc ⊢
  omega
theorem nb_up {i : Int} {M N : Nat} (h : i.natAbs < 2 ^ M) (hN : M ≤ N) : i.natAbs < 2 ^ N := Nat.lt_of_lt_of_le h (Nat.pow_le_pow_right (by decide) hN)
theorem fmod_bd (i : Int) {j : Int} (h : 0 < j) : 0 ≤ i.fmod j ∧ i.fmod j < j := by
  rw [Int.fmod_eq_emod_of_nonneg _ (by omega)]
  exact ⟨Int.emod_nonneg _ (by omega), Int.emod_lt_of_pos _ h⟩
theorem fdiv_nn {i j : Int} (hi : 0 ≤ i) (h : 0 < j) : 0 ≤ i.fdiv j := by
  rw [Int.fdiv_eq_ediv_of_nonneg _ (by omega)]
  exact Int.ediv_nonneg hi (by omega)

section
variable {P : Program} {w : World} {K : PySem.W.Frag} {mg : Str → Option Value} {base : Heap}

theorem sum_bits : ∀ (l : List Int) (B : Nat), (∀ z ∈ l, z.natAbs < B) → l.sum.natAbs ≤ l.length * B
  | [], B, _ => by simp
  | x :: l, B, h => by
    have h1 := sum_bits l B fun z hz => h z (List.mem_cons_of_mem _ hz)
    have h2 := h x List.mem_cons_self
    rw [List.sum_cons, List.length_cons, Nat.succ_mul]
    omega
theorem cut_head (xs : List V) (k : Nat) : cutV xs none (some (k : Int)) = xs.take k := by
  unfold cutV
  rw [HT.sIx_none, HT.sIx_nat, List.drop_zero, Nat.sub_zero]
  by_cases h : k ≤ xs.length
  · rw [Nat.min_eq_left h]
  · rw [Nat.min_eq_right (by omega), List.take_of_length_le (Nat.le_refl _), List.take_of_length_le (by omega)]

theorem inV_12 {x : Int} : inV (.int x) [.int 1, .int 2] = decide (x = 1 ∨ x = 2) := inV_int2 x 1 2

end
end Jp
end
section
set_option Elab.async false
set_option linter.all false
set_option pp.maxSteps 1200
set_option pp.deepTerms false
set_option maxRecDepth 100000
set_option maxHeartbeats 4000000
namespace Jp
open PySem L2
section
variable {P : Program} {w : World} {K : PySem.W.Frag} {mg : Str → Option Value} {base : Heap}
end
end Jp
end
section
set_option Elab.async false
set_option linter.all false
set_option pp.maxSteps 1200
set_option pp.deepTerms false
set_option maxRecDepth 100000
set_option maxHeartbeats 4000000
namespace Jp
open PySem L2

theorem pe_or2 {X : Cx} {e : Expr} {t1 t2 : TE} (h1 : PE X e t1) (h2 : PE X e t2) : PE X e (fun σ H Q => t1 σ H Q ∨ t2 σ H Q) :=
  ⟨fun pins s σ H Q I h => h.elim (h1.run pins s σ H Q I) (h2.run pins s σ H Q I)⟩

inductive Ans where
  | tr (l : List (List Int))
  | pa (l : List (List Int))
def Ans.ls : Ans → List (List Int)
  | .tr l => l
  | .pa l => l
def Ans.isTr : Ans → Bool
  | .tr _ => true
  | .pa _ => false
def Ans.fld : Ans → Str
  | .tr _ => "trees"
  | .pa _ => "groups"
def Ans.with : Ans → List (List Int) → Ans
  | .tr _, l => .tr l
  | .pa _, l => .pa l
def DueP (n : Nat) (ts : List Tie) (k : Int) : Ans → Prop
  | .tr l => TreesP n ts k l
  | .pa l => PartsP n ts k l

theorem good_TreesP {n k : Nat} {ts : List Tie} {tss : List (List Nat)} (h : GoodTrees n ts k tss) (hn : 1 ≤ n) : TreesP n ts (k : Int) (tss.map natI) := by
  refine ⟨fun t ht => ?_, by rw [List.length_map, h.len], ?_⟩
  · obtain ⟨t0, ht0, rfl⟩ := List.mem_map.mp ht
    obtain ⟨h1, h2, h3⟩ := h.one t0 ht0
    refine ⟨?_, fun z hz => ?_, by rw [natOf_natI]; exact h3⟩
    · unfold natI
      rw [List.length_map, h1]
      omega
    · obtain ⟨i, hi, rfl⟩ := List.mem_map.mp hz
      have := h2 i hi
      omega
  · have e : (tss.map natI).flatten = natI tss.flatten := by
      unfold natI
      rw [List.map_flatten]
    rw [e]
    unfold natI
    show List.Pairwise (· ≠ ·) _
    rw [List.pairwise_map]
    have nd : List.Pairwise (· ≠ ·) tss.flatten := h.nd
    exact nd.imp fun {a b} h e => h (by omega)
theorem good_PartsP {n k : Nat} {ts : List Tie} {gs : List (List Nat)} (h : GoodParts n ts k gs) : PartsP n ts (k : Int) (gs.map natI) := by
  refine ⟨fun g hg e => ?_, ?_, ?_⟩
  · obtain ⟨g0, hg0, rfl⟩ := List.mem_map.mp hg
    unfold natI at e
    exact h.ne g0 hg0 (List.map_eq_nil_iff.mp e)
  · have e : (gs.map natI).flatten = natI gs.flatten := by
      unfold natI
      rw [List.map_flatten]
    rw [e]
    exact h.perm.map _
  · have e : (gs.map natI).map natOf = gs := by
      rw [List.map_map]
      exact List.map_id'' (fun l => natOf_natI l) gs
    rw [e, List.length_map]
    have h1 := h.few
    have h2 : 1 ≤ gs.length := by
      apply Classical.byContradiction
      intro h0
      have : gs.length - 1 = 0 := by omega
      rw [this] at h1
      omega
    have h3 : (((crossing ts gs).length : Nat) : Int) < ((k * (gs.length - 1) : Nat) : Int) := by omega
    rw [Int.natCast_mul] at h3
    have h4 : ((gs.length - 1 : Nat) : Int) = (gs.length : Int) - 1 := by omega
    rw [h4] at h3
    exact h3

section
variable {P : Program} {w : World} {K : PySem.W.Frag} {mg : Str → Option Value} {base : Heap}
def Ans.C (T : Tx K mg) : Ans → Addr
  | .tr _ => T.c_Trees
  | .pa _ => T.c_Parts
/-- an answer stands at x, its field's list at l -/
def AnsAt (T : Tx K mg) (H : Hp) (x dx l : Addr) (cs : List Addr) (a : Ans) : Prop := H x = some (.ins (a.C T) dx (putF a.fld (.ref l) [])) ∧ LM H l cs (a.ls.map intsV)
theorem AnsAt.same {T : Tx K mg} {H H' : Hp} {x dx l : Addr} {cs : List Addr} {a : Ans} (h : AnsAt T H x dx l cs a) (e : Same H H') : AnsAt T H' x dx l cs a := ⟨e _ _ h.1, h.2.same e⟩
theorem AnsAt.ty {T : Tx K mg} {H : Hp} {x dx l : Addr} {cs : List Addr} {a : Ans} (h : AnsAt T H x dx l cs a) : TyX K H (.ref x) (.ref (a.C T)) := by
  cases a with
  | tr _ => exact .base (.ins h.1 T.cl_Trees T.ha_Trees T.hn0 T.htk0 T.hm_Trees)
  | pa _ => exact .base (.ins h.1 T.cl_Parts T.ha_Parts T.hn0 T.htk0 T.hm_Parts)
theorem Ans.kiA (T : Tx K mg) (a : Ans) : PySem.W.kitOne K (.ref (a.C T)) (.ref T.c_Answer) = some true := by
  cases a
  · exact T.ki_Trees_Answer
  · exact T.ki_Parts_Answer
theorem Ans.kiT (T : Tx K mg) (a : Ans) : PySem.W.kitOne K (.ref (a.C T)) (.ref T.c_Trees) = some a.isTr := by
  cases a
  · exact T.ki_Trees_Trees
  · exact T.ki_Parts_Trees
theorem Ans.kiP (T : Tx K mg) (a : Ans) : PySem.W.kitOne K (.ref (a.C T)) (.ref T.c_Parts) = some (!a.isTr) := by
  cases a
  · exact T.ki_Trees_Parts
  · exact T.ki_Parts_Parts

/-- what told has told, as an answer -/
structure ToldA (T : Tx K mg) (n : Nat) (ts : List Tie) (k : Nat) (H H' : Hp) (x dx l : Addr) (ps : List Addr) (an : Ans) : Prop where
  nx : H x = none
  nl : H l = none
  nps : ∀ c ∈ ps, H c = none
  at_ : AnsAt T H' x dx l ps an
  ll : LL H' l ps (an.ls.map intsV)
  due : DueP n ts k an
  has : an.isTr = true ↔ Has n ts k
  ne : an.ls ≠ []
  len : an.ls.length ≤ 100
  lens : ∀ g ∈ an.ls, g.length ≤ 60
  len2 : an.ls.length ≤ k + n
theorem natI_intsV (tss : List (List Nat)) : tss.map natV = (tss.map natI).map intsV := by
  rw [List.map_map]
  exact List.map_congr_left fun t _ => natV_natI t
theorem ToldIs.ans {T : Tx K mg} {n : Nat} {ts : List Tie} {k : Nat} {H H' : Hp} {x : Addr} (h : ToldIs T.c_Trees T.c_Parts n ts k H H' x) (hW : Web n ts) (hn : 1 ≤ n) (hn2 : n ≤ 10) (hk : 1 ≤ k) (hk2 : k ≤ 100) : ∃ dx l ps an, ToldA T n ts k H H' x dx l ps an := by
  obtain ⟨dx, l, ps, nx, nl, nps, h⟩ := h
  rcases h with ⟨tss, hG, hx, hLL⟩ | ⟨gs, hG, hx, hLL⟩
  · rw [natI_intsV] at hLL
    refine ⟨dx, l, ps, .tr (tss.map natI), nx, nl, nps, ⟨hx, hLL.m⟩, hLL, good_TreesP hG hn, ⟨fun _ => ⟨tss, hG⟩, fun _ => rfl⟩, fun e => ?_, ?_, fun g hg => ?_, ?_⟩
    · have := congrArg List.length (show tss.map natI = [] from e)
      rw [List.length_map, hG.len] at this
      simp at this
      omega
    · show (tss.map natI).length ≤ 100
      rw [List.length_map, hG.len]
      exact hk2
    · obtain ⟨t, ht, rfl⟩ := List.mem_map.mp hg
      unfold natI
      rw [List.length_map, (hG.one t ht).1]
      omega
    · show (tss.map natI).length ≤ k + n
      rw [List.length_map, hG.len]
      omega
  · rw [natI_intsV] at hLL
    have hlen : gs.flatten.length = n := by
      rw [hG.perm.length_eq, List.length_range]
    have hpos := hG.ne
    have hgl : gs.length ≤ gs.flatten.length := by
      clear hlen hG hx hLL nx nl nps
      induction gs with
      | nil => simp
      | cons g gs ih =>
        have h1 := ih fun g' hg' => hpos g' (List.mem_cons_of_mem _ hg')
        have h2 : 1 ≤ g.length := by
          have := hpos g List.mem_cons_self
          cases g with
          | nil => exact absurd rfl this
          | cons _ _ => simp
        rw [List.flatten_cons, List.length_append, List.length_cons]
        omega
    refine ⟨dx, l, ps, .pa (gs.map natI), nx, nl, nps, ⟨hx, hLL.m⟩, hLL, good_PartsP hG, ⟨fun h => (by cases h), fun ⟨tss, hG'⟩ => (not_both hW hn hG' hG).elim⟩, fun e => ?_, (by show (gs.map natI).length ≤ 100; rw [List.length_map]; omega), fun g hg => ?_, (by show (gs.map natI).length ≤ k + n; rw [List.length_map]; omega)⟩
    · have e' : gs = [] := List.map_eq_nil_iff.mp (show gs.map natI = [] from e)
      rw [e'] at hlen
      simp at hlen
      omega
    · obtain ⟨g0, hg0, rfl⟩ := List.mem_map.mp hg
      unfold natI
      rw [List.length_map]
      have : g0.length ≤ gs.flatten.length := by
        clear hlen hG hx hLL nx nl nps hpos hg hgl
        induction gs with
        | nil => cases hg0
        | cons g gs ih =>
          rw [List.flatten_cons, List.length_append]
          rcases List.mem_cons.mp hg0 with rfl | h
          · omega
          · have := ih h
            omega
      omega

def tieD (t : Tie) : PyData := .tuple [.int (t.1 : Int), .int (t.2 : Int)]
def tiesD (ts : List Tie) : PyData := .list (ts.map tieD)
theorem shaped_ties (ts : List Tie) : SeqAt.shaped (tiesD ts) = true := by
  have h1 : ∀ ts : List Tie, PyData.canLayAll0 (ts.map tieD) = true ∧ PyData.depthAll (ts.map tieD) ≤ 3 := by
    intro ts
    induction ts with
    | nil => exact ⟨by simp [PyData.canLayAll0], by simp [PyData.depthAll]⟩
    | cons t ts ih =>
      refine ⟨by simp [PyData.canLayAll0, PyData.canLay0, tieD, ih.1], ?_⟩
      have := ih.2
      simp [PyData.depthAll, PyData.depth, tieD]
      omega
  unfold SeqAt.shaped tiesD
  have := (h1 ts).2
  simp [PyData.canLay0, PyData.depth, (h1 ts).1]
  omega
theorem eqv_ties (ts : List Tie) : PyData.eqv (tiesD ts) (tiesD ts) = true := SeqAt.eqv_refl _ (SeqAt.canLay_of_shaped (shaped_ties ts))
theorem TiesAt.dp {H : Hp} {a : Addr} {ts : List Tie} (h : TiesAt K H a ts) : Dp K H (.ref a) (tiesD ts) := by
  obtain ⟨cs, h1, h2, h3⟩ := h
  refine .lst h1 ?_
  clear h1
  induction cs generalizing ts with
  | nil =>
    cases ts with
    | nil => exact .nil
    | cons _ _ => simp at h2
  | cons c cs ih =>
    cases ts with
    | nil => simp at h2
    | cons t ts => exact .cons (.tup (h3 0 t c rfl rfl) (.cons (.int _) (.cons (.int _) .nil))) (ih (by simpa using h2) fun i t' c' a b => h3 (i + 1) t' c' a b)
theorem shaped_intss (l : List (List Int)) : SeqAt.shaped (.list (intssD l)) = true := by
  have h1 : ∀ l : List (List Int), PyData.canLayAll0 (intssD l) = true ∧ PyData.depthAll (intssD l) ≤ 3 := by
    intro l
    induction l with
    | nil => exact ⟨by simp [intssD, PyData.canLayAll0], by simp [intssD, PyData.depthAll]⟩
    | cons t l ih =>
      have h2 := ih.1
      have h3 := ih.2
      have h4 := depth_ints t
      unfold intssD at h2 h3 ⊢
      refine ⟨?_, ?_⟩
      · simp only [List.map_cons, PyData.canLayAll0, h2, Bool.and_true]
        unfold intsD
        simp [PyData.canLay0, canLay_ints t]
      · show max (PyData.depth (intsD t)) (PyData.depthAll (List.map intsD l)) ≤ 3
        have : PyData.depth (intsD t) ≤ 2 := by
          unfold intsD
          simp only [PyData.depth]
          omega
        omega
  unfold SeqAt.shaped
  have := (h1 l).2
  simp [PyData.canLay0, PyData.depth, (h1 l).1]
  omega
theorem eqv_intss (l : List (List Int)) : PyData.eqv (.list (intssD l)) (.list (intssD l)) = true := SeqAt.eqv_refl _ (SeqAt.canLay_of_shaped (shaped_intss l))

theorem fld_any (T : Tx K mg) {σ : L2.St} {H : Hp} {Q : VK} {ta : TE} {x dx l : Addr} {cs : List Addr} {an : Ans} (hx : ∀ Q' : VK, Q' (.ref x) H → ta σ H Q') (hA : AnsAt T H x dx l cs an) (q : Q (.ref l) H) :
    if an.isTr = true then tFld K ta "trees" σ H Q else tFld K ta "groups" σ H Q := by
  cases an with
  | tr tss => exact iteT (hx _ ⟨x, T.c_Trees, dx, _, _, rfl, hA.1, T.cl_Trees, T.na_Trees_trees, fld_look _ _, q⟩)
  | pa gs => exact iteF (hx _ ⟨x, T.c_Parts, dx, _, _, rfl, hA.1, T.cl_Parts, T.na_Parts_groups, fld_look _ _, q⟩)

theorem all_rep (i : Nat) : (List.replicate i true).all id = true := by
  rw [List.all_eq_true]
  intro b hb
  exact (List.mem_replicate.mp hb).2
theorem rep_snoc (i : Nat) : (List.replicate (i + 1) true).map V.bl = (List.replicate i true).map V.bl ++ [.bl true] := by
  rw [List.replicate_succ', List.map_append]
  rfl
theorem bl_same {b c : Bool} {p : Prop} (h1 : b = true ↔ p) (h2 : c = true ↔ p) : b = c := Bool.eq_iff_iff.mpr (h1.trans h2.symm)
theorem intsV_at {l : List Int} {i : Nat} {x : V} (h : (intsV l)[i]? = some x) : ∃ z, l[i]? = some z ∧ x = .int z := by
  unfold intsV at h
  rw [List.getElem?_map] at h
  cases e : l[i]? with
  | none => rw [e] at h; cases h
  | some z => rw [e] at h; exact ⟨z, rfl, (Option.some.inj h).symm⟩
theorem cut_tail (xs : List V) : cutV xs (some 1) none = xs.drop 1 := by
  unfold cutV
  rw [show HT.sIx xs.length 0 (some 1) = min 1 xs.length from HT.sIx_nat xs.length 0 1, HT.sIx_none]
  cases xs with
  | nil => rfl
  | cons x r =>
    have : min 1 (x :: r).length = 1 := by rw [List.length_cons]; omega
    rw [this]
    show List.take ((x :: r).length - 1) r = r
    rw [List.length_cons, Nat.add_sub_cancel]
    exact List.take_length
end
end Jp
end
section
set_option Elab.async false
set_option linter.all false
set_option pp.maxSteps 1200
set_option pp.deepTerms false
set_option maxRecDepth 100000
set_option maxHeartbeats 4000000
namespace Jp
open PySem L2

theorem sort2 {ns : List Int} {a b : Nat} (h : ns.Perm [(a : Int), (b : Int)]) (hs : ns.Pairwise (· ≤ ·)) : ns = [((min a b : Nat) : Int), ((max a b : Nat) : Int)] := by
  refine List.Perm.eq_of_pairwise (le := fun (x y : Int) => x ≤ y) (fun x y _ _ h1 h2 => Int.le_antisymm h1 h2) hs ?_ (h.trans ?_)
  · refine List.pairwise_cons.mpr ⟨fun y hy => ?_, List.pairwise_singleton _ _⟩
    rw [List.mem_singleton] at hy
    subst hy
    omega
  · rcases Nat.le_total a b with e | e
    · rw [Nat.min_eq_left e, Nat.max_eq_right e]
    · rw [Nat.min_eq_right e, Nat.max_eq_left e]
      exact List.Perm.swap _ _ _
theorem eqV_int (a b : Int) : eqV (.int a) (.int b) = decide (a = b) := rfl
/-- the counts by i -/
def cnt (n : Nat) (ts : List Tie) (F X : List Nat) (i : Nat) : List Nat := (List.range i).filter fun i => decide (i ∉ F) && (decide (i ∉ X) && decide ((marksBy n ts F).getD (ts.getD i (0, 0)).1 0 ≠ (marksBy n ts F).getD (ts.getD i (0, 0)).2 0))
theorem cnt_succ {n : Nat} {ts : List Tie} {F X : List Nat} {i : Nat} : cnt n ts F X (i + 1) = cnt n ts F X i ++ (if (decide (i ∉ F) && (decide (i ∉ X) && decide ((marksBy n ts F).getD (ts.getD i (0, 0)).1 0 ≠ (marksBy n ts F).getD (ts.getD i (0, 0)).2 0))) = true then [i] else []) := by
  unfold cnt
  rw [List.range_succ, List.filter_append]
  congr 1
  rw [List.filter_cons]
  split <;> rfl
theorem cnt_len {n : Nat} {ts : List Tie} {F X : List Nat} {i : Nat} : (cnt n ts F X i).length ≤ i := by
  have := List.length_filter_le (fun i => decide (i ∉ F) && (decide (i ∉ X) && decide ((marksBy n ts F).getD (ts.getD i (0, 0)).1 0 ≠ (marksBy n ts F).getD (ts.getD i (0, 0)).2 0))) (List.range i)
  rw [List.length_range] at this
  exact this
theorem natI_mem {i : Nat} {l : List Nat} : ((i : Nat) : Int) ∈ natI l ↔ i ∈ l := by
  unfold natI
  rw [List.mem_map]
  exact ⟨fun ⟨j, hj, e⟩ => by rwa [show i = j by omega], fun h => ⟨i, h, rfl⟩⟩
theorem natV_app (a b : List Nat) : natV a ++ natV b = natV (a ++ b) := by
  unfold natV
  rw [List.map_append]

section
variable {P : Program} {w : World} {K : PySem.W.Frag} {mg : Str → Option Value} {base : Heap}

/-- a play: a web, fast and cut ones -/
structure PlayAt (K : PySem.W.Frag) (H : Hp) (a f x : Addr) (n : Nat) (ts : List Tie) (F X : List Nat) : Prop where
  ties : TiesAt K H a ts
  web : Web n ts
  n2 : 2 ≤ n
  n10 : n ≤ 10
  t40 : ts.length ≤ 40
  fast0 : H f = some (.lst (natV F))
  cut0 : H x = some (.lst (natV X))
  nd : (F ++ X).Nodup
  Flt : ∀ i ∈ F, i < ts.length
  Xlt : ∀ i ∈ X, i < ts.length
theorem PlayAt.same {H H' : Hp} {a f x : Addr} {n : Nat} {ts : List Tie} {F X : List Nat} (h : PlayAt K H a f x n ts F X) (e : Same H H') : PlayAt K H' a f x n ts F X := { h with ties := h.ties.same e, fast0 := e _ _ h.fast0, cut0 := e _ _ h.cut0 }
theorem PlayAt.fast {H : Hp} {a f x : Addr} {n : Nat} {ts : List Tie} {F X : List Nat} (h : PlayAt K H a f x n ts F X) : SqL K H f (natV F) := SqL.of h.fast0
theorem PlayAt.cut {H : Hp} {a f x : Addr} {n : Nat} {ts : List Tie} {F X : List Nat} (h : PlayAt K H a f x n ts F X) : SqL K H x (natV X) := SqL.of h.cut0
theorem nodup_len {n : Nat} {l : List Nat} (nd : l.Nodup) (h : ∀ i ∈ l, i < n) : l.length ≤ n := by
  have := len_le_of_sub (ys := List.range n) nd fun i hi => List.mem_range.mpr (h i hi)
  rwa [List.length_range] at this
theorem PlayAt.len {H : Hp} {a f x : Addr} {n : Nat} {ts : List Tie} {F X : List Nat} (h : PlayAt K H a f x n ts F X) : F.length + X.length ≤ ts.length := by
  have := nodup_len h.nd (n := ts.length) fun i hi => (List.mem_append.mp hi).elim (h.Flt i) (h.Xlt i)
  rwa [List.length_append] at this

def spMoves (K : PySem.W.Frag) : Sp := fun vs H Q _ => ∃ (n : Nat) (a f x : Addr) (ts : List Tie) (F X : List Nat), vs = [.int (n : Int), .ref a, .ref f, .ref x] ∧ PlayAt K H a f x n ts F X ∧ ∀ H', Same H H' → Q .non H'
abbrev N_asked_moves : List Str := ["people", "ties", "fast", "cut", "some", "at"]
theorem sc_asked_moves : FnScope N_asked_moves ["people", "ties", "fast", "cut"] (defScope s_asked_moves) := ⟨rfl, rfl, rfl, by decide +kernel, rfl, by decide +kernel, by decide +kernel⟩
-- slots: people 0, ties 1, fast 2, cut 3, some 4, at 5
theorem ok_asked_moves (T : Tx K mg) : FnOk P w K mg base CX0 4 T.f_asked_moves T.d_asked_moves ["people", "ties", "fast", "cut"] (spMoves K) := by
  refine T.F_asked_moves.ok sc_asked_moves (fun vs H Q E h => ?_) (fun cdv A outer s H vs Q E hr h => ?_)
  · obtain ⟨n, a, f, x, ts, F, X, rfl, _⟩ := h
    rfl
  · obtain ⟨n, a, f, x, ts, F, X, rfl, Y, q⟩ := h
    have nd := sc_asked_moves.nd
    refine ⟨_, (pss_cons (ps_expr (pe_call (ok_asked_web T) (hr.mono (by decide)) (by rfl) T.g_asked_web T.F_asked_web.kp T.b_asked_web .nil pass0 (pa_cons (pv 0) (pa_cons (pv 1) pa_nil))))
      (pss_cons (ps_for PassesOwn.never rfl (pi_tup (pe_tup (pa_cons (pv 2) (pa_cons (pv 3) pa_nil)))) (pg_name (i := 4) nd rfl (.inl rfl)) 
        (pss_one (ps_if (PW.pt (pw_or (pt_not (pt_val (pe_callB call_isi (by rfl) T.z_isinstance (by decide +kernel) (pa_cons (pv 4) (pa_cons (pe_bltn (v := .ty "list") (by rfl) T.z_list (by decide +kernel) rfl) pa_nil))))) (pw_or1 (pt_not (pt_val (pe_callB (cr_all rfl) (by rfl) T.z_all (by decide +kernel) (pa_cons (pe_lc (own := [("at", 5)]) (g := (gName 5)) (tt := tYes) (te := (tAndV (tCall (spNumber K) [] E0 (tCons (tVar 5) tNil)) (tChain _ _ _ (tVar 5) (tCB (Evl.rLenS K) (tCons (tVar 1) tNil))))) rfl nd (pi_list (pv 4)) (blkOk_by (own := [("at", 5)]) (N := N_asked_moves) (sc := (defScope s_asked_moves)) (by decide +kernel)) (fun _ _ _ _ _ => (pg_name (i := 5) nd rfl (.inl rfl))) (fun _ _ _ _ _ => pts_nil) (fun _ _ _ _ _ => (pe_and (pe_call (ok_is_number T) (hr.mono (by decide)) (by rfl) T.g_is_number T.F_is_number.kp T.b_is_number .nil pass0 (pa_cons (pv 5) pa_nil)) (pe_one (pe_chain op_le op_lt pe_int (pv 5) (pe_callB call_len_seq (by rfl) T.z_len PySem.boot_len (pa_cons (pv 1) pa_nil))))))) pa_nil))))))) 
          (pss_one ps_never) pss_nil)))
      (pss_one (ps_if (pt_cmpR op_ne (pe_callB cr_lenS (by rfl) T.z_len PySem.boot_len (pa_cons (pe_callTy (cr_setL rfl) (by rfl) T.z_set (by decide +kernel) (pa_cons (pe_op op_cat (pv 2) (pv 3)) pa_nil)) pa_nil)) (pe_op op_add (pe_callB call_len_seq (by rfl) T.z_len PySem.boot_len (pa_cons (pv 2) pa_nil)) (pe_callB call_len_seq (by rfl) T.z_len PySem.boot_len (pa_cons (pv 3) pa_nil))) (nomark _)) 
        (pss_one ps_never) pss_nil)))), ?_⟩
    have hlen := Y.len
    have ht40 := Y.t40
    refine ⟨_, rfl, _, rfl, n, a, ts, rfl, Y.ties, Y.web, Y.n2, Y.n10, Y.t40, fun H1 s1 => ?_⟩
    -- for some in (fast, cut)
    refine ⟨_, rfl, _, rfl, sml (by show 2 ≤ 100000; decide), fun t nt => ?_⟩
    generalize e2 : upd H1 t _ = H2
    have s2 : Same H1 H2 := by
      rw [← e2]
      exact same_new nt
    have ht2 : SqT K H2 t [.ref f, .ref x] := SqT.of (by rw [← e2]; exact upd_same)
    have s12 := s1.trans s2
    refine ⟨t, rfl, ⟨_, ht2⟩, for_tup (K := K) (a := t) (xs := [.ref f, .ref x]) (fun i σ H3 => ∃ y4, σ = [some (.int n), some (.ref a), some (.ref f), some (.ref x), y4, none] ∧ Same H2 H3)
      ⟨_, rfl, Same.refl _⟩ (fun i σ H3 _ ⟨_, _, h⟩ => same_tup h ht2) ?_ ?_⟩
    · rintro i z σ H3 hi ⟨y4, rfl, s3⟩
      obtain ⟨c, L, rfl, hcL, hLl, hLlen⟩ : ∃ (c : Addr) (L : List Nat), z = .ref c ∧ SqL K H c (natV L) ∧ (∀ j ∈ L, j < ts.length) ∧ L.length ≤ 40 := by
        match i, hi with
        | 0, hi => exact ⟨f, F, (Option.some.inj hi).symm, Y.fast, Y.Flt, by omega⟩
        | 1, hi => exact ⟨x, X, (Option.some.inj hi).symm, Y.cut, Y.Xlt, by omega⟩
        | i + 2, hi => simp at hi
      have hc3 := (s12.trans s3).seq hcL
      obtain ⟨txs, htx, htl, _⟩ := Y.ties.seq
      refine ⟨_, rfl, .ref c, .ty "list", _, _, true, rfl, .ty "list", tyL hc3, kit_ty (by decide +kernel), true, rfl, iteF ?_⟩
      refine ⟨_, rfl, c, rfl, ⟨_, hc3⟩, fun D hD => lc_list (K := K) (a := c) (xs := natV L) (fun j H4 => Same H3 H4 ∧ H3 D = none ∧ H4 D = some (.lst ((List.replicate j true).map V.bl)))
        ⟨same_new hD, hD, by rw [upd_same]; rfl⟩ (fun j H4 _ h => h.1.seq hc3) ?_ ?_⟩
      · rintro j z H4 hj ⟨s4, nD, h4⟩
        obtain ⟨m, hm, rfl⟩ := natV_at hj
        have hml := hLl m (List.mem_of_getElem? hm)
        have hjl := (List.getElem?_eq_some_iff.mp hm).1
        refine ⟨rfl, _, rfl, _, "int", true, false, rfl, .base (.int (m : Int)), ki1, ki2, true, rfl, iteT ?_⟩
        refine ⟨_, rfl, 0, _, rfl, rfl, _, rfl, ?_⟩
        rw [decide_eq_true (by omega)]
        refine iteT ?_
        refine ⟨_, rfl, a, txs, rfl, .inl (((s12.trans s3).trans s4).seq htx), _, _, rfl, rfl, ?_⟩
        dsimp only
        rw [htl, decide_eq_true (by omega)]
        refine ⟨_, h4, sml1 ?_, same_mut s4 nD, nD, ?_⟩
        · rw [List.length_map, List.length_replicate]
          omega
        · rw [upd_same, rep_snoc]
      · rintro H4 ⟨s4, nD, h4⟩
        refine ⟨D, _, rfl, SqL.of h4, _, rfl, ?_⟩
        rw [all_rep]
        refine iteF ?_
        exact ⟨_, rfl, s3.trans s4⟩
    rintro σ H3 ⟨y4, rfl, s3⟩
    have s13 := s12.trans s3
    -- if len(set(fast + cut)) != len(fast) + len(cut)
    refine ⟨_, rfl, _, rfl, f, x, _, _, rfl, rfl, s13 _ _ Y.fast0, s13 _ _ Y.cut0, sml (by rw [natV_len, natV_len]; omega), fun p np => ?_⟩
    rw [natV_app, natV_natI]
    generalize e4 : upd H3 p _ = H4
    have s4 : Same H3 H4 := by
      rw [← e4]
      exact same_new np
    have hp4 : H4 p = some (.lst ((natI (F ++ X)).map V.int)) := by
      rw [← e4]
      exact upd_same
    refine ⟨p, natI (F ++ X), rfl, SqL.of hp4, (by unfold natI; rw [List.length_map, List.length_append]; omega), fun z ks nd2 hks nz => ?_⟩
    generalize e5 : upd H4 z _ = H5
    have s5 : Same H4 H5 := by
      rw [← e5]
      exact same_new nz
    have hz5 : H5 z = some (SetO w z (fun j => decide (j ∈ natI (F ++ X))) ks.length) := by
      rw [← e5]
      exact upd_same
    have ndI : (natI (F ++ X)).Nodup := by
      unfold natI
      show List.Pairwise (· ≠ ·) _
      rw [List.pairwise_map]
      have nd : List.Pairwise (· ≠ ·) (F ++ X) := Y.nd
      exact nd.imp fun {a b} h e => h (by omega)
    have hkl := (set_len_iff nd2 hks).mpr ndI
    have hkl' : ks.length = F.length + X.length := by
      rw [hkl]
      unfold natI
      rw [List.length_map, List.length_append]
    have s15 := s13.trans (s4.trans s5)
    refine ⟨z, _, _, rfl, hz5, by omega, _, rfl, f, _, rfl, .inl (s15.seq Y.fast), _, rfl, x, _, rfl, .inl (s15.seq Y.cut), _, _, rfl, rfl, rfl, _, rfl, ?_⟩
    rw [natV_len, natV_len, hkl']
    rw [show (!decide (V.int ((F.length + X.length : Nat) : Int) = V.int ((F.length : Int) + (X.length : Int)))) = false by rw [decide_eq_true (by congr 1)]; rfl]
    refine iteF ?_
    exact q H5 s15

def spRest (K : PySem.W.Frag) : Sp := fun vs H Q _ => ∃ (n : Nat) (a f x : Addr) (ts : List Tie) (F X : List Nat), vs = [.int (n : Int), .ref a, .ref f, .ref x] ∧ PlayAt K H a f x n ts F X ∧
  ∀ H' p fr ct, Same H H' → SqT K H' p [.int ((names n ts F).length : Int), .ref fr, .ref ct] → TiesAt K H' fr (freeOf n ts F X) → H' ct = some (.lst (natV (countsOf n ts F X))) → Q (.ref p) H'
abbrev N_rest : List Str := ["people", "ties", "fast", "cut", "marks", "names", "free", "counts", "at", "one", "other", "pair"]
theorem sc_rest : FnScope N_rest ["people", "ties", "fast", "cut"] (defScope s_rest) := ⟨rfl, rfl, rfl, by decide +kernel, rfl, by decide +kernel, by decide +kernel⟩
-- slots: people 0, ties 1, fast 2, cut 3, marks 4, names 5, free 6, counts 7, at 8, one 9, other 10, pair 11
theorem ok_rest (T : Tx K mg) : FnOk P w K mg base CX0 2 T.f_rest T.d_rest ["people", "ties", "fast", "cut"] (spRest K) := by
  refine T.F_rest.ok sc_rest (fun vs H Q E h => ?_) (fun cdv A outer s H vs Q E hr h => ?_)
  · obtain ⟨n, a, f, x, ts, F, X, rfl, _⟩ := h
    rfl
  · obtain ⟨n, a, f, x, ts, F, X, rfl, Y, q⟩ := h
    have nd := sc_rest.nd
    refine ⟨_, (pss_cons (ps_set (i := 4) nd rfl (.inl rfl) (pe_call (ok_marks_by T) (hr.mono (by decide)) (by rfl) T.g_marks_by T.F_marks_by.kp T.b_marks_by .nil pass0 (pa_cons (pv 0) (pa_cons (pv 1) (pa_cons (pv 2) pa_nil)))))
      (pss_cons (ps_set (i := 5) nd rfl (.inl rfl) (pe_callB (cr_sortedSet rfl) (by rfl) T.z_sorted (by decide +kernel) (pa_cons (pe_callTy (cr_setL rfl) (by rfl) T.z_set (by decide +kernel) (pa_cons (pv 4) pa_nil)) pa_nil)))
      (pss_cons (ps_set (i := 6) nd rfl (.inl rfl) (pe_lst pa_nil))
      (pss_cons (ps_set (i := 7) nd rfl (.inl rfl) (pe_lst pa_nil))
      (pss_cons (ps_for PassesOwn.never rfl (pi_enum (by rfl) T.z_enumerate (pa_cons (pv 1) pa_nil)) (pg_tup rfl (pgs_cons (pg_name (i := 8) nd rfl (.inl rfl)) (pgs_cons (pg_tup rfl (pgs_cons (pg_name (i := 9) nd rfl (.inl rfl)) (pgs_cons (pg_name (i := 10) nd rfl (.inl rfl)) pgs_nil))) pgs_nil))) 
        (pss_one (ps_if (PW.pt (pw_and (pt_cmpR op_notIn_seq (pv 8) (pv 2) (by rfl)) (pw_and (pt_cmpR op_notIn_seq (pv 8) (pv 3) (by rfl)) (pw_and1 (pt_cmpR op_ne (pe_ix ix_list (pv 4) (pv 9) (fun _ _ => rfl)) (pe_ix ix_list (pv 4) (pv 10) (fun _ _ => rfl)) (nomark _)))))) 
          (pss_cons (ps_set (i := 11) nd rfl (.inl rfl) (pe_callB cr_sortedI (by rfl) T.z_sorted (by decide +kernel) (pa_cons (pe_lst (pa_cons (pe_bm PySem.F.plainAttrs_list PySem.F.slot_list_index PySem.F.type_list_index mt_index (pv 5) (pa_cons (pe_ix ix_list (pv 4) (pv 9) (fun _ _ => rfl)) pa_nil)) (pa_cons (pe_bm PySem.F.plainAttrs_list PySem.F.slot_list_index PySem.F.type_list_index mt_index (pv 5) (pa_cons (pe_ix ix_list (pv 4) (pv 10) (fun _ _ => rfl)) pa_nil)) pa_nil))) pa_nil)))
          (pss_cons (ps_expr (pe_bm PySem.F.plainAttrs_list PySem.F.slot_list_append PySem.F.type_list_append mt_append (pv 6) (pa_cons (pe_tup (pa_cons (pe_ix ix_list (pv 11) pe_int (fun _ _ => rfl)) (pa_cons (pe_ix ix_list (pv 11) pe_int (fun _ _ => rfl)) pa_nil))) pa_nil)))
          (pss_one (ps_expr (pe_bm PySem.F.plainAttrs_list PySem.F.slot_list_append PySem.F.type_list_append mt_append (pv 7) (pa_cons (pv 8) pa_nil)))))) pss_nil)))
      (pss_one (ps_ret (pe_tup (pa_cons (pe_callB call_len_seq (by rfl) T.z_len PySem.boot_len (pa_cons (pv 5) pa_nil)) (pa_cons (pv 6) (pa_cons (pv 7) pa_nil))))))))))), ?_⟩
    have ht40 := Y.t40
    have hn10 := Y.n10
    have hn2 := Y.n2
    have hok := marksBy_ok Y.web F Y.Flt
    -- marks
    refine ⟨_, rfl, _, rfl, _, rfl, n, a, f, ts, F, rfl, Y.ties, Y.fast, Y.web, Y.Flt, Y.n10, fun H1 p s1 np hp => ?_⟩
    -- names = sorted(set(marks))
    refine ⟨_, rfl, p, natI (marksBy n ts F), rfl, SqL.of (by rw [← natV_natI]; exact hp), (by unfold natI; rw [List.length_map, hok.len]; omega), fun z ks nd2 hks nz => ?_⟩
    generalize e2 : upd H1 z _ = H2
    have s2 : Same H1 H2 := by
      rw [← e2]
      exact same_new nz
    have hz2 : H2 z = some (SetO w z (fun j => decide (j ∈ natI (marksBy n ts F))) ks.length) := by
      rw [← e2]
      exact upd_same
    have hkl : ks.length ≤ 10 := by
      have h1 := len_le_of_sub (ys := natI (marksBy n ts F)) nd2 fun k hk => (hks k).mp hk
      unfold natI at h1
      rw [List.length_map, hok.len] at h1
      omega
    refine ⟨z, _, _, rfl, hz2, (by omega), fun ns l hns hmem _ nl => ?_⟩
    have ens : ns = natI (names n ts F) := sortedSet_eq (M := marksBy n ts F) hns hmem (List.pairwise_lt_range.filter _) fun m => hok.mem_roots
    subst ens
    generalize e3 : upd H2 l _ = H3
    have s3 : Same H2 H3 := by
      rw [← e3]
      exact same_new nl
    have hl3 : H3 l = some (.lst (natV (names n ts F))) := by
      rw [← e3, natV_natI]
      exact upd_same
    -- free = [], counts = []
    refine ⟨Nat.zero_le _, fun fr nfr => ?_⟩
    generalize e4 : upd H3 fr _ = H4
    have s4 : Same H3 H4 := by
      rw [← e4]
      exact same_new nfr
    have hfr4 : H4 fr = some (.lst []) := by
      rw [← e4]
      exact upd_same
    refine ⟨Nat.zero_le _, fun ct nct => ?_⟩
    generalize e5 : upd H4 ct _ = H5
    have s5 : Same H4 H5 := by
      rw [← e5]
      exact same_new nct
    have hct5 : H5 ct = some (.lst []) := by
      rw [← e5]
      exact upd_same
    have s35 := s4.trans s5
    have s03 := s1.trans (s2.trans s3)
    have s05 := s03.trans s35
    have hfc : fr ≠ ct := ne_of_none hfr4 nct
    have nct3 : H3 ct = none := s4.free nct
    obtain ⟨txs, htx, htl, htt⟩ := Y.ties.seq
    have ndN : (names n ts F).Nodup := roots_nodup
    -- for at, (one, other) in enumerate(ties)
    refine ⟨_, rfl, a, _, rfl, s05.seq htx, for_it (walk_enum (K := K) (a := a) (xs := txs)) (fun i σ H6 => ∃ (fcs : List Addr) (y8 y9 y10 y11 : Option V), σ = [some (.int n), some (.ref a), some (.ref f), some (.ref x), some (.ref p), some (.ref l), some (.ref fr), some (.ref ct), y8, y9, y10, y11] ∧ Same H3 H6 ∧
        H6 fr = some (.lst (fcs.map V.ref)) ∧ H6 ct = some (.lst (natV (cnt n ts F X i))) ∧ fcs.length = (cnt n ts F X i).length ∧ (∀ c ∈ fcs, c ≠ fr ∧ c ≠ ct) ∧
        ∀ (j k : Nat) (c : Addr), fcs[j]? = some c → (cnt n ts F X i)[j]? = some k → SqT K H6 c [.int ((pairOf n ts F (ts.getD k (0, 0))).1 : Int), .int ((pairOf n ts F (ts.getD k (0, 0))).2 : Int)])
      ⟨[], _, _, _, _, rfl, s35, s5 _ _ hfr4, hct5, rfl, by simp, by simp⟩ (fun i σ H6 _ ⟨_, _, _, _, _, _, h, _⟩ => (s03.trans h).seq htx) ?_ ?_⟩
    · rintro i z' σ H6 H7 hi ⟨fcs, y8, y9, y10, y11, rfl, s6, hfr6, hct6, hfl, hfne, hfat⟩ ⟨tp, x1, x2, rfl, ntp, rfl, f1, f2⟩
      cases f1
      obtain ⟨t, c, ht, rfl, hct⟩ := htt i x2 f2
      have hil : i < ts.length := (List.getElem?_eq_some_iff.mp ht).1
      have hw := Y.web.at ht
      have hgt : ts.getD i (0, 0) = t := by
        rw [List.getD_eq_getElem?_getD, ht]
        rfl
      have s7 : Same H6 (upd H6 tp (.tup [.int (i : Int), .ref c])) := same_new ntp
      refine ⟨tp, _, rfl, SqT.of upd_same, rfl, _, _, rfl, _, _, rfl, c, _, rfl, same_tup ((s03.trans s6).trans s7) hct, rfl, _, _, rfl, _, _, rfl, rfl, rfl, ?_⟩
      generalize upd H6 tp _ = H7 at s7
      have s37 := s6.trans s7
      have s07 := s03.trans s37
      have hfr7 := s7 _ _ hfr6
      have hct7 := s7 _ _ hct6
      have hl7 := s37 _ _ hl3
      have hp7 := s37 _ _ (s3 _ _ (s2 _ _ hp))
      have hcl : (cnt n ts F X i).length ≤ i := cnt_len
      have skip : ∀ (H8 : Hp) (y11 : Option V), Same H7 H8 → (decide (i ∉ F) && (decide (i ∉ X) && decide ((marksBy n ts F).getD (ts.getD i (0, 0)).1 0 ≠ (marksBy n ts F).getD (ts.getD i (0, 0)).2 0))) = false →
          ∃ (fcs : List Addr) (y8' y9' y10' y11' : Option V), ([some (.int n), some (.ref a), some (.ref f), some (.ref x), some (.ref p), some (.ref l), some (.ref fr), some (.ref ct), some (.int (i : Int)), some (.int (t.1 : Int)), some (.int (t.2 : Int)), y11] : L2.St) = [some (.int n), some (.ref a), some (.ref f), some (.ref x), some (.ref p), some (.ref l), some (.ref fr), some (.ref ct), y8', y9', y10', y11'] ∧ Same H3 H8 ∧
          H8 fr = some (.lst (fcs.map V.ref)) ∧ H8 ct = some (.lst (natV (cnt n ts F X (i + 1)))) ∧ fcs.length = (cnt n ts F X (i + 1)).length ∧ (∀ c ∈ fcs, c ≠ fr ∧ c ≠ ct) ∧
          ∀ (j k : Nat) (c : Addr), fcs[j]? = some c → (cnt n ts F X (i + 1))[j]? = some k → SqT K H8 c [.int ((pairOf n ts F (ts.getD k (0, 0))).1 : Int), .int ((pairOf n ts F (ts.getD k (0, 0))).2 : Int)] := by
        intro H8 y11 s8 hp
        have e : cnt n ts F X (i + 1) = cnt n ts F X i := by rw [cnt_succ, hp, if_neg Bool.false_ne_true, List.append_nil]
        rw [e]
        exact ⟨fcs, _, _, _, _, rfl, s37.trans s8, s8 _ _ hfr7, s8 _ _ hct7, hfl, hfne, fun j k c hj hk => same_tup (s7.trans s8) (hfat j k c hj hk)⟩
      -- if at not in fast and ..
      refine ⟨_, rfl, _, rfl, f, _, rfl, .inl (s07.seq Y.fast), rfl, flat_nats F, _, rfl, ?_⟩
      rw [inV_nats]
      by_cases hF : i ∈ F
      · rw [decide_eq_true (natI_mem.mpr hF)]
        refine iteF ?_
        exact skip H7 y11 (Same.refl _) (by simp [hF])
      rw [decide_eq_false (fun h => hF (natI_mem.mp h))]
      refine iteT ?_
      refine ⟨_, rfl, _, rfl, x, _, rfl, .inl (s07.seq Y.cut), rfl, flat_nats X, _, rfl, ?_⟩
      rw [inV_nats]
      by_cases hX : i ∈ X
      · rw [decide_eq_true (natI_mem.mpr hX)]
        refine iteF ?_
        exact skip H7 y11 (Same.refl _) (by simp [hX])
      rw [decide_eq_false (fun h => hX (natI_mem.mp h))]
      refine iteT ?_
      have hm1 := mk_getD Y.web Y.Flt hw.1
      have hm2 := mk_getD Y.web Y.Flt hw.2.1
      have hpS : SqL K H7 p (natV (marksBy n ts F)) := SqL.of hp7
      refine ⟨_, rfl, _, rfl, p, _, _, _, rfl, rfl, hpS, atI_nat (natV_get hm1), _, rfl, _, rfl, p, _, _, _, rfl, rfl, hpS, atI_nat (natV_get hm2), rfl, _, rfl, ?_⟩
      by_cases hM : (marksBy n ts F).getD t.1 0 = (marksBy n ts F).getD t.2 0
      · rw [show (!decide (V.int (((marksBy n ts F).getD t.1 0 : Nat) : Int) = V.int (((marksBy n ts F).getD t.2 0 : Nat) : Int))) = false by rw [hM, decide_eq_true rfl]; rfl]
        refine iteF ?_
        exact skip H7 y11 (Same.refl _) (by rw [hgt, decide_eq_false (fun (h : ¬ _) => h hM), Bool.and_false, Bool.and_false])
      rw [show (!decide (V.int (((marksBy n ts F).getD t.1 0 : Nat) : Int) = V.int (((marksBy n ts F).getD t.2 0 : Nat) : Int))) = true by rw [decide_eq_false (fun e => hM (by have := V.int.inj e; omega))]; rfl]
      refine iteT ?_
      -- pair = sorted([..])
      have ix : ∀ v, v < n → (natV (names n ts F))[rho n ts F v]? = some (.int (((marksBy n ts F).getD v 0 : Nat) : Int)) ∧ eqV (.int (((marksBy n ts F).getD v 0 : Nat) : Int)) (.int (((marksBy n ts F).getD v 0 : Nat) : Int)) = true ∧
          ∀ (m : Nat) (z' : V), m < rho n ts F v → (natV (names n ts F))[m]? = some z' → eqV z' (.int (((marksBy n ts F).getD v 0 : Nat) : Int)) = false := by
        intro v hv
        have hmem := mark_name Y.web Y.Flt hv
        have hlt : rho n ts F v < (names n ts F).length := rho_lt Y.web Y.Flt hv
        have hg : (names n ts F)[rho n ts F v]? = some ((marksBy n ts F).getD v 0) := by
          rw [List.getElem?_eq_getElem hlt]
          congr 1
          exact List.getElem_idxOf hlt
        refine ⟨natV_get hg, by rw [eqV_int, decide_eq_true rfl], fun m z' hm hz' => ?_⟩
        obtain ⟨k, hk, rfl⟩ := natV_at hz'
        rw [eqV_int]
        refine decide_eq_false fun e => ?_
        have e' : k = (marksBy n ts F).getD v 0 := by omega
        rw [e'] at hk
        have hml := (List.getElem?_eq_some_iff.mp hk).1
        have := (List.getElem?_inj hml ndN).mp (hk.trans hg.symm)
        omega
      obtain ⟨i1, i2, i3⟩ := ix t.1 hw.1
      obtain ⟨k1, k2, k3⟩ := ix t.2 hw.2.1
      have hlS : SqL K H7 l (natV (names n ts F)) := SqL.of hl7
      refine ⟨_, rfl, .inl ⟨rfl, _, hlS⟩, _, rfl, _, rfl, p, _, _, _, rfl, rfl, hpS, atI_nat (natV_get hm1), l, _, _, rho n ts F t.1, _, rfl, rfl, hlS, rfl, flat_nats _, i1, i2, i3, ?_⟩
      refine ⟨_, rfl, .inl ⟨rfl, _, hlS⟩, _, rfl, _, rfl, p, _, _, _, rfl, rfl, hpS, atI_nat (natV_get hm2), l, _, _, rho n ts F t.2, _, rfl, rfl, hlS, rfl, flat_nats _, k1, k2, k3, ?_⟩
      refine ⟨sml (by show 2 ≤ 100000; decide), fun q1 nq1 => ?_⟩
      generalize e8 : upd H7 q1 _ = H8
      have s8 : Same H7 H8 := by
        rw [← e8]
        exact same_new nq1
      have hq1 : H8 q1 = some (.lst ([((rho n ts F t.1 : Nat) : Int), ((rho n ts F t.2 : Nat) : Int)].map V.int)) := by
        rw [← e8]
        exact upd_same
      refine ⟨q1, _, rfl, SqL.of hq1, fun ns' pr hpm hps npr => ?_⟩
      obtain rfl := sort2 hpm hps
      generalize e9 : upd H8 pr _ = H9
      have s9 : Same H8 H9 := by
        rw [← e9]
        exact same_new npr
      have hpr : SqL K H9 pr [.int ((min (rho n ts F t.1) (rho n ts F t.2) : Nat) : Int), .int ((max (rho n ts F t.1) (rho n ts F t.2) : Nat) : Int)] := SqL.of (by rw [← e9]; exact upd_same)
      have s79 := s8.trans s9
      have hfr9 := s79 _ _ hfr7
      have hct9 := s79 _ _ hct7
      -- free.append((pair[0], pair[1]))
      refine ⟨_, rfl, .inl ⟨rfl, _, SqL.of hfr9⟩, _, rfl, pr, _, 0, _, rfl, rfl, hpr, atI_nat (j := 0) rfl, _, rfl, pr, _, 1, _, rfl, rfl, hpr, atI_nat (j := 1) rfl, sml (by show 2 ≤ 100000; decide), fun tt ntt => ?_⟩
      generalize e10 : upd H9 tt _ = H10
      have s10 : Same H9 H10 := by
        rw [← e10]
        exact same_new ntt
      have htt10 : H10 tt = some (.tup [.int ((min (rho n ts F t.1) (rho n ts F t.2) : Nat) : Int), .int ((max (rho n ts F t.1) (rho n ts F t.2) : Nat) : Int)]) := by
        rw [← e10]
        exact upd_same
      have s710 := s79.trans s10
      have tfr : tt ≠ fr := fun e => by
        rw [e, hfr9] at ntt
        cases ntt
      have tct : tt ≠ ct := fun e => by
        rw [e, hct9] at ntt
        cases ntt
      refine ⟨fr, _, _, rfl, rfl, s10 _ _ hfr9, sml1 (by rw [List.length_map]; omega), ?_⟩
      generalize e11 : upd H10 fr _ = H11
      have k11 : ∀ b o, H10 b = some o → b ≠ fr → H11 b = some o := fun b o hb hne => by
        rw [← e11, upd_ne hne]
        exact hb
      have hct11 : H11 ct = some (.lst (natV (cnt n ts F X i))) := k11 _ _ (s10 _ _ hct9) (Ne.symm hfc)
      -- counts.append(at)
      refine ⟨_, rfl, .inl ⟨rfl, _, SqL.of hct11⟩, _, rfl, ct, _, _, rfl, rfl, hct11, sml1 (by rw [natV_len]; omega), ?_⟩
      rw [← natV_snoc]
      generalize e12 : upd H11 ct _ = H12
      have e : cnt n ts F X (i + 1) = cnt n ts F X i ++ [i] := by
        rw [cnt_succ, if_pos]
        rw [hgt, decide_eq_true hF, decide_eq_true hX, decide_eq_true hM]
        rfl
      have s3_12 : Same H3 H12 := by
        rw [← e12, ← e11]
        exact same_mut (same_mut (s37.trans s710) nfr) nct3
      have k12 : ∀ b o, H10 b = some o → b ≠ fr → b ≠ ct → H12 b = some o := fun b o hb h1 h2 => by
        rw [← e12, upd_ne h2]
        exact k11 b o hb h1
      refine ⟨fcs ++ [tt], _, _, _, _, rfl, s3_12, ?_, ?_, ?_, fun c' hc' => ?_, fun j k c' hj hk => ?_⟩
      · rw [← e12, upd_ne hfc, ← e11, upd_same, List.map_append]
        rfl
      · rw [← e12, upd_same, e]
      · rw [e, List.length_append, List.length_append, hfl]
        rfl
      · rcases List.mem_append.mp hc' with h | h
        · exact hfne c' h
        · rw [List.mem_singleton] at h
          rw [h]
          exact ⟨tfr, tct⟩
      · rw [e] at hk
        by_cases hjl : j < fcs.length
        · rw [List.getElem?_append_left hjl] at hj
          rw [List.getElem?_append_left (by omega)] at hk
          have hne := hfne c' (List.mem_of_getElem? hj)
          have h6 := hfat j k c' hj hk
          rcases same_tup (s7.trans s710) h6 with (h | ⟨o, h⟩) | ⟨o, its, m, h1, h2, h3⟩
          · exact SqT.of (k12 _ _ h hne.1 hne.2)
          · exact .inl (.inr ⟨o, k12 _ _ h hne.1 hne.2⟩)
          · exact .inr ⟨o, its, m, h1, h2, h3⟩
        · have hj2 : j = fcs.length := by
            have := (List.getElem?_eq_some_iff.mp hj).1
            rw [List.length_append] at this
            simp at this
            omega
          rw [hj2, List.getElem?_append_right (Nat.le_refl _), Nat.sub_self] at hj
          rw [hj2, hfl, List.getElem?_append_right (Nat.le_refl _), Nat.sub_self] at hk
          cases hj
          cases hk
          rw [hgt]
          exact SqT.of (k12 _ _ htt10 tfr tct)
    · rintro σ H6 ⟨fcs, y8, y9, y10, y11, rfl, s6, hfr6, hct6, hfl, hfne, hfat⟩
      rw [htl] at hct6 hfl hfat
      have s06 := s03.trans s6
      -- return (len(names), free, counts)
      refine ⟨_, rfl, l, _, rfl, .inl (SqL.of (s6 _ _ hl3)), _, rfl, _, rfl, sml (by show 3 ≤ 100000; decide), fun t nt => ?_⟩
      rw [natV_len]
      have s7 : Same H6 (upd H6 t (.tup [.int ((names n ts F).length : Int), .ref fr, .ref ct])) := same_new nt
      refine q _ t fr ct (s06.trans s7) (SqT.of upd_same) ⟨fcs, SqL.of (s7 _ _ hfr6), by rw [free_len]; exact hfl, fun j p c hj hc => ?_⟩ (s7 _ _ hct6)
      unfold freeOf at hj
      rw [List.getElem?_map] at hj
      cases ek : (countsOf n ts F X)[j]? with
      | none => rw [ek] at hj; cases hj
      | some k =>
        rw [ek] at hj
        cases hj
        exact same_tup s7 (hfat j k c hc ek)


def spHeld (K : PySem.W.Frag) : Sp := fun vs H Q _ => ∃ (n : Nat) (a f x : Addr) (ts : List Tie) (F X : List Nat), vs = [.int (n : Int), .ref a, .ref f, .ref x] ∧ PlayAt K H a f x n ts F X ∧ ∀ H' b, Same H H' → (b = true ↔ HeldP n ts F X) → (b = false → Parted' n ts F X 0) → Q (.bl b) H'
theorem PlayAt.namesB {H : Hp} {a f x : Addr} {n : Nat} {ts : List Tie} {F X : List Nat} (Y : PlayAt K H a f x n ts F X) : 1 ≤ (names n ts F).length ∧ (names n ts F).length ≤ 10 ∧ (freeOf n ts F X).length ≤ 40 := by
  have h1 := names_pos Y.web (by have := Y.n2; omega) Y.Flt
  have h2 := names_le Y.web Y.Flt
  have h3 := counts_len (n := n) (ts := ts) (F := F) (X := X)
  have h4 := Y.t40
  have h5 := Y.n10
  rw [free_len]
  omega
abbrev N_is_held : List Str := ["people", "ties", "fast", "cut", "groups", "free", "counts"]
theorem sc_is_held : FnScope N_is_held ["people", "ties", "fast", "cut"] (defScope s_is_held) := ⟨rfl, rfl, rfl, by decide +kernel, rfl, by decide +kernel, by decide +kernel⟩
-- slots: people 0, ties 1, fast 2, cut 3, groups 4, free 5, counts 6
theorem ok_is_held (T : Tx K mg) : FnOk P w K mg base CX0 5 T.f_is_held T.d_is_held ["people", "ties", "fast", "cut"] (spHeld K) := by
  refine T.F_is_held.ok sc_is_held (fun vs H Q E h => ?_) (fun cdv A outer s H vs Q E hr h => ?_)
  · obtain ⟨n, a, f, x, ts, F, X, rfl, _⟩ := h
    rfl
  · obtain ⟨n, a, f, x, ts, F, X, rfl, Y, q⟩ := h
    have nd := sc_is_held.nd
    refine ⟨_, (pss_cons (ps_asg (pe_call (ok_rest T) (hr.mono (by decide)) (by rfl) T.g_rest T.F_rest.kp T.b_rest .nil pass0 (pa_cons (pv 0) (pa_cons (pv 1) (pa_cons (pv 2) (pa_cons (pv 3) pa_nil))))) (pg_tup rfl (pgs_cons (pg_name (i := 4) nd rfl (.inl rfl)) (pgs_cons (pg_name (i := 5) nd rfl (.inl rfl)) (pgs_cons (pg_name (i := 6) nd rfl (.inl rfl)) pgs_nil)))))
      (pss_one (ps_ret (pe_or (pe_cmpR op_eq (pv 4) pe_int (nomark _)) (pe_one (pe_callB call_isi (by rfl) T.z_isinstance (by decide +kernel) (pa_cons (pe_call (ok_told T) (hr.mono (by decide)) (by rfl) T.g_told T.F_told.kp T.b_told .nil pass0 (pa_cons (pv 4) (pa_cons (pv 5) (pa_cons pe_int pa_nil)))) (pa_cons (pe_glob (v := .ref T.c_Trees) (by rfl) T.g_Trees rfl) pa_nil)))))))), ?_⟩
    have hn := Y.n2
    obtain ⟨hg1, hg10, hfl⟩ := Y.namesB
    have W2 := free_web (X := X) Y.web Y.Flt
    refine ⟨_, rfl, _, rfl, _, rfl, _, rfl, n, a, f, x, ts, F, X, rfl, Y, fun H1 p fr ct s1 hp hfr hct => ?_⟩
    refine ⟨p, _, rfl, hp, rfl, _, _, rfl, _, _, rfl, _, _, rfl, rfl, ?_⟩
    refine ⟨_, rfl, rfl, _, rfl, ?_⟩
    by_cases h1 : (names n ts F).length = 1
    · rw [decide_eq_true (by rw [h1]; rfl)]
      refine iteT ?_
      exact q H1 true s1 ⟨fun _ => .all ((one_group Y.web (by omega) Y.Flt).mp h1), fun _ => rfl⟩ (fun h => by cases h)
    · rw [decide_eq_false (fun e => h1 (by have := V.int.inj e; omega))]
      refine iteF ?_
      refine ⟨_, rfl, _, rfl, (names n ts F).length, fr, 2, freeOf n ts F X, rfl, hfr, W2, hg1, hg10, by omega, by omega, fun H2 y s2 hy => ?_⟩
      obtain ⟨dx, l, ps, nx, nl, nps, h4⟩ := hy
      rcases h4 with ⟨tss, hG, hx, hLL⟩ | ⟨gs, hG, hx, hLL⟩
      · refine ⟨_, .ref T.c_Trees, _, _, true, rfl, .own _, ty_Trees T hx, T.ki_Trees_Trees, ?_⟩
        exact q H2 true (s1.trans s2) ⟨fun _ => held_of_trees Y.web (by omega) Y.Flt ⟨tss, hG⟩, fun _ => rfl⟩ (fun h => by cases h)
      · refine ⟨_, .ref T.c_Trees, _, _, false, rfl, .own _, ty_Parts T hx, T.ki_Parts_Trees, ?_⟩
        exact q H2 false (s1.trans s2) ⟨fun h => (by cases h), fun h => ((parted_of_parts Y.web Y.Flt hG).not Y.web (by omega) Y.Flt h).elim⟩ fun _ => parted_of_parts Y.web Y.Flt hG
abbrev N_held : List Str := ["people", "ties", "fast", "cut"]
theorem sc_held : FnScope N_held ["people", "ties", "fast", "cut"] (defScope s_held) := ⟨rfl, rfl, rfl, by decide +kernel, rfl, by decide +kernel, by decide +kernel⟩
-- slots: people 0, ties 1, fast 2, cut 3
theorem ok_held (T : Tx K mg) : FnOk P w K mg base CX0 6 T.f_held T.d_held ["people", "ties", "fast", "cut"] (spHeld K) := by
  refine T.F_held.ok sc_held (fun vs H Q E h => ?_) (fun cdv A outer s H vs Q E hr h => ?_)
  · obtain ⟨n, a, f, x, ts, F, X, rfl, _⟩ := h
    rfl
  · obtain ⟨n, a, f, x, ts, F, X, rfl, Y, q⟩ := h
    have nd := sc_held.nd
    refine ⟨_, (pss_cons (ps_expr (pe_call (ok_asked_moves T) (hr.mono (by decide)) (by rfl) T.g_asked_moves T.F_asked_moves.kp T.b_asked_moves .nil pass0 (pa_cons (pv 0) (pa_cons (pv 1) (pa_cons (pv 2) (pa_cons (pv 3) pa_nil))))))
      (pss_one (ps_ret (pe_call (ok_is_held T) (hr.mono (by decide)) (by rfl) T.g_is_held T.F_is_held.kp T.b_is_held .nil pass0 (pa_cons (pv 0) (pa_cons (pv 1) (pa_cons (pv 2) (pa_cons (pv 3) pa_nil)))))))), ?_⟩
    refine ⟨_, rfl, _, rfl, _, rfl, _, rfl, n, a, f, x, ts, F, X, rfl, Y, fun H1 s1 => ?_⟩
    exact ⟨_, rfl, _, rfl, _, rfl, _, rfl, n, a, f, x, ts, F, X, rfl, Y.same s1, fun H2 b s2 hb hp => q H2 b (s1.trans s2) hb hp⟩
end
end Jp
end
section
set_option Elab.async false
set_option linter.all false
set_option pp.maxSteps 1200
set_option pp.deepTerms false
set_option maxRecDepth 100000
set_option maxHeartbeats 4000000
namespace Jp
open PySem L2

theorem _root_.L2.TyX.same {K : PySem.W.Frag} {H H' : Hp} {x : V} {t : Value} (e : Same H H') (h : TyX K H x t) : TyX K H' x t := by
  cases h with
  | base h =>
    refine .base ?_
    cases h with
    | non => exact .non
    | bl x => exact .bl x
    | int i => exact .int i
    | str x => exact .str x
    | flt x => exact .flt x
    | lst h => exact .lst (e _ _ h)
    | frz h => exact .frz (e _ _ h)
    | tup h => exact .tup (e _ _ h)
    | dK h => exact .dK (e _ _ h)
    | dT h => exact .dT (e _ _ h)
    | ins h a b c d f => exact .ins (e _ _ h) a b c d f
  | byt b => exact .byt b
  | set h => exact .set (e _ _ h)
  | kList a b => exact .kList a b
  | kTuple a b => exact .kTuple a b
  | kDict a b => exact .kDict a b
  | fTuple h => exact .fTuple (e _ _ h)
  | fDict h => exact .fDict (e _ _ h)
/-- a value of a built-in kind -/
def OfT (K : PySem.W.Frag) (H : Hp) (x : V) (t : String) : Prop := TyX K H x (.type t)
/-- whether it is a whole number -/
def NumT (K : PySem.W.Frag) (H : Hp) (x : V) (b : Bool) : Prop := ∃ t b1 b2, TyX K H x (.type t) ∧ kitB t "int" = some b1 ∧ kitB t "bool" = some b2 ∧ b = (b1 && !b2)
/-- no list -/
def NoL (K : PySem.W.Frag) (H : Hp) (x : V) : Prop := ∃ t, TyX K H x (.type t) ∧ kitB t "list" = some false
def NoT (K : PySem.W.Frag) (H : Hp) (x : V) : Prop := ∃ t, TyX K H x (.type t) ∧ kitB t "tuple" = some false
section
variable {K : PySem.W.Frag} {H H' : Hp}
theorem NumT.same {x : V} {b : Bool} (h : NumT K H x b) (e : Same H H') : NumT K H' x b := by
  obtain ⟨t, b1, b2, h1, h2⟩ := h
  exact ⟨t, b1, b2, h1.same e, h2⟩
theorem NoL.same {x : V} (h : NoL K H x) (e : Same H H') : NoL K H' x := by
  obtain ⟨t, h1, h2⟩ := h
  exact ⟨t, h1.same e, h2⟩
theorem NoT.same {x : V} (h : NoT K H x) (e : Same H H') : NoT K H' x := by
  obtain ⟨t, h1, h2⟩ := h
  exact ⟨t, h1.same e, h2⟩
theorem NumT.int {i : Int} : NumT K H (.int i) true := ⟨"int", true, false, .base (.int i), by decide +kernel, by decide +kernel, rfl⟩
theorem NumT.bl {b : Bool} : NumT K H (.bl b) false := ⟨"bool", true, true, .base (.bl b), by decide +kernel, by decide +kernel, rfl⟩
theorem NumT.non : NumT K H .non false := ⟨"NoneType", false, false, .base .non, by decide +kernel, by decide +kernel, rfl⟩
theorem NumT.str {s : Str} : NumT K H (.str s) false := ⟨"str", false, false, .base (.str s), by decide +kernel, by decide +kernel, rfl⟩
theorem NumT.lst {a : Addr} {xs : List V} (h : H a = some (.lst xs)) : NumT K H (.ref a) false := ⟨"list", false, false, .base (.lst h), by decide +kernel, by decide +kernel, rfl⟩
theorem NumT.tup {a : Addr} {xs : List V} (h : H a = some (.tup xs)) : NumT K H (.ref a) false := ⟨"tuple", false, false, .base (.tup h), by decide +kernel, by decide +kernel, rfl⟩
theorem NumT.dT {a : Addr} {xs : List (List Key × V)} (h : H a = some (.dT xs)) : NumT K H (.ref a) false := ⟨"dict", false, false, .base (.dT h), by decide +kernel, by decide +kernel, rfl⟩
theorem NoL.non : NoL K H .non := ⟨"NoneType", .base .non, by decide +kernel⟩
theorem NoL.int {i : Int} : NoL K H (.int i) := ⟨"int", .base (.int i), by decide +kernel⟩
theorem NoL.str {s : Str} : NoL K H (.str s) := ⟨"str", .base (.str s), by decide +kernel⟩
theorem NoL.tup {a : Addr} {xs : List V} (h : H a = some (.tup xs)) : NoL K H (.ref a) := ⟨"tuple", .base (.tup h), by decide +kernel⟩
theorem NoL.dT {a : Addr} {xs : List (List Key × V)} (h : H a = some (.dT xs)) : NoL K H (.ref a) := ⟨"dict", .base (.dT h), by decide +kernel⟩
theorem NoT.non : NoT K H .non := ⟨"NoneType", .base .non, by decide +kernel⟩
theorem NoT.int {i : Int} : NoT K H (.int i) := ⟨"int", .base (.int i), by decide +kernel⟩
theorem NoT.lst {a : Addr} {xs : List V} (h : H a = some (.lst xs)) : NoT K H (.ref a) := ⟨"list", .base (.lst h), by decide +kernel⟩
/-- whether a value is a tie of n people -/
def TieT (K : PySem.W.Frag) (H : Hp) (n : Nat) (x : V) (b : Bool) : Prop :=
  (NoT K H x ∧ b = false) ∨ ∃ c ys, x = .ref c ∧ SqT K H c ys ∧ ((ys.length ≠ 2 ∧ ys.length ≤ 1000 ∧ b = false) ∨ (∃ y z b1 b2, ys = [y, z] ∧ NumT K H y b1 ∧ NumT K H z b2 ∧ (b1 && b2) = false ∧ b = false) ∨
    ∃ i j : Int, ys = [.int i, .int j] ∧ b = decide (0 ≤ i ∧ i < j ∧ j < (n : Int)))
theorem TieT.same {n : Nat} {x : V} {b : Bool} (h : TieT K H n x b) (e : Same H H') : TieT K H' n x b := by
  rcases h with ⟨h, rfl⟩ | ⟨c, ys, rfl, h1, h2⟩
  · exact .inl ⟨h.same e, rfl⟩
  · refine .inr ⟨c, ys, rfl, same_tup e h1, ?_⟩
    rcases h2 with h2 | ⟨y, z, b1, b2, h3, h4, h5, h6⟩ | h2
    · exact .inl h2
    · exact .inr (.inl ⟨y, z, b1, b2, h3, h4.same e, h5.same e, h6⟩)
    · exact .inr (.inr h2)
/-- a list of what may be ties -/
structure TiesL (K : PySem.W.Frag) (H : Hp) (n : Nat) (a : Addr) (xs : List V) (bs : List Bool) : Prop where
  seq : SqL K H a xs
  len : xs.length ≤ 40
  bl : bs.length = xs.length
  tie : ∀ (i : Nat) (x : V) (b : Bool), xs[i]? = some x → bs[i]? = some b → TieT K H n x b
theorem TiesL.same {n : Nat} {a : Addr} {xs : List V} {bs : List Bool} (h : TiesL K H n a xs bs) (e : Same H H') : TiesL K H' n a xs bs := { h with seq := e.seq h.seq, tie := fun i x b h1 h2 => (h.tie i x b h1 h2).same e }
def PplBad (K : PySem.W.Frag) (H : Hp) (p : V) : Prop := NumT K H p false ∨ ∃ z : Int, p = .int z ∧ ¬ (2 ≤ z ∧ z ≤ 10)
theorem PplBad.same {p : V} (h : PplBad K H p) (e : Same H H') : PplBad K H' p := h.imp (fun h => h.same e) id
def TiesBad (K : PySem.W.Frag) (H : Hp) (n : Nat) (t : V) : Prop := NoL K H t ∨ ∃ a xs, t = .ref a ∧ ((SqL K H a xs ∧ 40 < xs.length ∧ xs.length ≤ 1000) ∨ ∃ bs, TiesL K H n a xs bs ∧ false ∈ bs)
theorem TiesBad.same {n : Nat} {t : V} (h : TiesBad K H n t) (e : Same H H') : TiesBad K H' n t := by
  rcases h with h | ⟨a, xs, rfl, ⟨h1, h2⟩ | ⟨bs, h1, h2⟩⟩
  · exact .inl (h.same e)
  · exact .inr ⟨a, xs, rfl, .inl ⟨e.seq h1, h2⟩⟩
  · exact .inr ⟨a, xs, rfl, .inr ⟨bs, h1.same e, h2⟩⟩
/-- no web -/
def WebBad (K : PySem.W.Frag) (H : Hp) (p t : V) : Prop := PplBad K H p ∨ ∃ n : Nat, p = .int (n : Int) ∧ 2 ≤ n ∧ n ≤ 10 ∧ TiesBad K H n t
end

section
variable {P : Program} {w : World} {K : PySem.W.Frag} {mg : Str → Option Value} {base : Heap}
theorem num_any {H : Hp} {x : V} {b : Bool} {Q : VK} {E : XK} (h : NumT K H x b) (q : Q (.bl b) H) : spNumber K [x] H Q E := by
  obtain ⟨t, b1, b2, h1, h2, h3, rfl⟩ := h
  exact ⟨x, t, b1, b2, rfl, h1, h2, h3, q⟩
def spTieX (K : PySem.W.Frag) : Sp := fun vs H Q _ => ∃ (x : V) (n : Nat) (b : Bool), vs = [x, .int (n : Int)] ∧ TieT K H n x b ∧ ∀ H', Same H H' → Q (.bl b) H'
theorem okx_is_tie (T : Tx K mg) : FnOk P w K mg base CX0 2 T.f_is_tie T.d_is_tie ["thing", "people"] (spTieX K) := by
  refine T.F_is_tie.ok sc_is_tie (fun vs H Q E h => ?_) (fun cdv A outer s H vs Q E hr h => ?_)
  · obtain ⟨x, n, b, rfl, _⟩ := h
    rfl
  · obtain ⟨x, n, b, rfl, hx, q⟩ := h
    have nd := sc_is_tie.nd
    refine ⟨_, (pss_cons (ps_if (PW.pt (pw_or (pt_not (pt_val (pe_callB call_isi (by rfl) T.z_isinstance (by decide +kernel) (pa_cons (pv 0) (pa_cons (pe_bltn (v := .ty "tuple") (by rfl) T.z_tuple (by decide +kernel) rfl) pa_nil))))) (pw_or (pt_cmpR op_ne (pe_callB call_len_seq (by rfl) T.z_len PySem.boot_len (pa_cons (pv 0) pa_nil)) pe_int (nomark _)) (pw_or1 (pt_not (pt_val (pe_callB (cr_all rfl) (by rfl) T.z_all (by decide +kernel) (pa_cons (pe_lc (own := [("one", 2)]) (g := (gName 2)) (tt := tYes) (te := (tCall (spNumber K) [] E0 (tCons (tVar 2) tNil))) rfl nd (pi_tup (pv 0)) (blkOk_by (own := [("one", 2)]) (N := N_is_tie) (sc := (defScope s_is_tie)) (by decide +kernel)) (fun _ _ _ _ _ => (pg_name (i := 2) nd rfl (.inl rfl))) (fun _ _ _ _ _ => pts_nil) (fun _ _ _ _ _ => (pe_call (ok_is_number T) (hr.mono (by decide)) (by rfl) T.g_is_number T.F_is_number.kp T.b_is_number .nil pass0 (pa_cons (pv 2) pa_nil)))) pa_nil)))))))) 
        (pss_one (ps_ret pe_bl)) pss_nil)
      (pss_one (ps_ret (pe_chain3 op_le op_lt op_lt pe_int (pe_ix ix_tup (pv 0) pe_int (fun _ _ => rfl)) (pe_ix ix_tup (pv 0) pe_int (fun _ _ => rfl)) (pv 1) )))), ?_⟩
    rcases hx with ⟨⟨t, ht, hk⟩, rfl⟩ | ⟨c, ys, rfl, hc, hx⟩
    · refine ⟨_, rfl, x, .ty "tuple", _, _, false, rfl, .ty "tuple", ht, kit_ty hk, false, rfl, iteT ?_⟩
      exact q H (Same.refl _)
    refine ⟨_, rfl, .ref c, .ty "tuple", _, _, true, rfl, .ty "tuple", tyT hc, kit_ty (by decide +kernel), true, rfl, iteF ?_⟩
    refine ⟨_, rfl, c, _, rfl, .inr hc, rfl, _, rfl, ?_⟩
    by_cases h2 : ys.length = 2
    · rw [h2]
      refine iteF ?_
      obtain ⟨y, z, b1, b2, rfl, hy, hz⟩ : ∃ y z b1 b2, ys = [y, z] ∧ NumT K H y b1 ∧ NumT K H z b2 ∧ (((b1 && b2) = false ∧ b = false) ∨ ((b1 && b2) = true ∧ ∃ i j : Int, y = .int i ∧ z = .int j ∧ b = decide (0 ≤ i ∧ i < j ∧ j < (n : Int)))) := by
        rcases hx with ⟨h, _⟩ | ⟨y, z, b1, b2, rfl, h1, h2, h3, h4⟩ | ⟨i, j, rfl, h⟩
        · exact absurd h2 h
        · exact ⟨y, z, b1, b2, rfl, h1, h2, .inl ⟨h3, h4⟩⟩
        · exact ⟨_, _, true, true, rfl, .int, .int, .inr ⟨rfl, i, j, rfl, rfl, h⟩⟩
      obtain ⟨hz, hb⟩ := hz
      refine ⟨_, rfl, c, rfl, ⟨_, hc⟩, fun D hD => lc_tup (K := K) (a := c) (xs := [y, z]) (fun i H2 => Same H H2 ∧ H D = none ∧ H2 D = some (.lst (([b1, b2].take i).map V.bl)))
        ⟨same_new hD, hD, by rw [upd_same]; rfl⟩ (fun i H2 _ h => same_tup h.1 hc) ?_ ?_⟩
      · rintro i x H2 hi ⟨s2, nD, h2⟩
        have hi2 : i < 2 := (List.getElem?_eq_some_iff.mp hi).1
        obtain ⟨bi, hbi, hxi⟩ : ∃ bi, [b1, b2][i]? = some bi ∧ NumT K H x bi := by
          match i, hi with
          | 0, hi =>
            cases hi
            exact ⟨b1, rfl, hy⟩
          | 1, hi =>
            cases hi
            exact ⟨b2, rfl, hz⟩
          | i + 2, hi => simp at hi
        obtain ⟨t, c1, c2, k1, k2, k3, rfl⟩ := hxi.same s2
        refine ⟨rfl, _, rfl, _, t, c1, c2, rfl, k1, k2, k3, ?_⟩
        refine ⟨_, h2, sml1 ?_, same_mut s2 nD, nD, ?_⟩
        · rw [List.length_map, List.length_take]
          show min i 2 < 100000
          omega
        · rw [upd_same, take_snoc hbi, List.map_append]
          rfl
      · rintro H2 ⟨s2, nD, h2⟩
        refine ⟨D, _, rfl, SqL.of h2, _, rfl, ?_⟩
        have hall : ([b1, b2].take ([y, z] : List V).length).all id = (b1 && b2) := by
          show (b1 && (b2 && true)) = _
          rw [Bool.and_true]
        rw [hall]
        rcases hb with ⟨h3, rfl⟩ | ⟨h3, i, j, rfl, rfl, rfl⟩
        · rw [h3]
          refine iteT ?_
          exact q H2 s2
        · rw [h3]
          refine iteF ?_
          have hc2 := same_tup s2 hc
          refine ⟨_, rfl, c, _, 0, _, rfl, rfl, hc2, atI_nat (j := 0) rfl, 0, _, rfl, rfl, _, rfl, ?_⟩
          by_cases h0 : 0 ≤ i
          · rw [decide_eq_true h0]
            refine iteT ?_
            refine ⟨_, rfl, c, _, 1, _, rfl, rfl, hc2, atI_nat (j := 1) rfl, _, _, rfl, rfl, _, rfl, ?_⟩
            by_cases h1 : i < j
            · rw [decide_eq_true h1]
              refine iteT ?_
              refine ⟨_, rfl, _, _, rfl, rfl, ?_⟩
              have := q H2 s2
              rw [show decide (0 ≤ i ∧ i < j ∧ j < (n : Int)) = decide (j < (n : Int)) from decide_eq_decide.mpr ⟨fun h => h.2.2, fun h => ⟨h0, h1, h⟩⟩] at this
              exact this
            · rw [decide_eq_false h1]
              refine iteF ?_
              have := q H2 s2
              rw [decide_eq_false (fun h => h1 h.2.1)] at this
              exact this
          · rw [decide_eq_false h0]
            refine iteF ?_
            have := q H2 s2
            rw [decide_eq_false (fun h => h0 h.1)] at this
            exact this
    · rcases hx with ⟨_, _, rfl⟩ | ⟨y, z, b1, b2, rfl, _⟩ | ⟨i, j, rfl, _⟩
      · rw [show (!decide (V.int ((ys.length : Nat) : Int) = V.int 2)) = true by rw [decide_eq_false (fun e => h2 (by have := V.int.inj e; omega))]; rfl]
        refine iteT ?_
        exact q H (Same.refl _)
      · exact absurd rfl h2
      · exact absurd rfl h2
end
end Jp
end
section
set_option Elab.async false
set_option linter.all false
set_option pp.maxSteps 1200
set_option pp.deepTerms false
set_option maxRecDepth 100000
set_option maxHeartbeats 4000000
namespace Jp
open PySem L2
section
variable {P : Program} {w : World} {K : PySem.W.Frag} {mg : Str → Option Value} {base : Heap}

def spAskX (T : Tx K mg) : Sp := fun vs H Q E => ∃ (p t : V), vs = [p, t] ∧ ((PplBad K H p ∧ ∀ H', Same H H' → E (.ref T.c_BadPeople) none H') ∨
  ∃ n : Nat, p = .int (n : Int) ∧ 2 ≤ n ∧ n ≤ 10 ∧ ((TiesBad K H n t ∧ ∀ H', Same H H' → E (.ref T.c_BadTies) none H') ∨ ∃ a xs bs, t = .ref a ∧ TiesL K H n a xs bs ∧ bs.all id = true ∧ ∀ H', Same H H' → Q .non H'))
theorem okx_asked_web (T : Tx K mg) : FnOk P w K mg base (L2N.CX P w) 3 T.f_asked_web T.d_asked_web ["people", "ties"] (spAskX T) := by
  refine T.F_asked_web.okN sc_asked_web (fun vs H Q E h => ?_) (fun cdv A outer s H vs Q E hr h => ?_)
  · obtain ⟨p, t, rfl, _⟩ := h
    rfl
  · obtain ⟨p, t, rfl, h⟩ := h
    have nd := sc_asked_web.nd
    refine ⟨_, (pss_cons (ps_if (PW.pt (pw_or (pt_not (pt_val (pe_call (ok_is_number T) (hr.mono (by decide)) (by rfl) T.g_is_number T.F_is_number.kp T.b_is_number .nil pass0 (pa_cons (pv 0) pa_nil)))) (pw_or1 (pt_not (pt_chain op_le op_le pe_int (pv 0) (pe_glob (v := .int 10) (by rfl) T.k_MOST ⟨_, rfl⟩)))))) 
        (pss_one (L2N.ps_raise rfl (L2N.takes_of rfl rfl rfl rfl) (L2N.pmk_own PySem.F.excBase_ValueError T.x_BadPeople T.g_BadPeople T.kp_BadPeople (raises_own T.sb_BadPeople T.tp_BadPeople) (by rfl)))) pss_nil)
      (pss_one (ps_if (PW.pt (pw_or (pt_not (pt_val (pe_callB call_isi (by rfl) T.z_isinstance (by decide +kernel) (pa_cons (pv 1) (pa_cons (pe_bltn (v := .ty "list") (by rfl) T.z_list (by decide +kernel) rfl) pa_nil))))) (pw_or (pt_cmpR op_gt (pe_callB call_len_seq (by rfl) T.z_len PySem.boot_len (pa_cons (pv 1) pa_nil)) (pe_glob (v := .int 40) (by rfl) T.k_MOST_TIES ⟨_, rfl⟩) (nomark _)) (pw_or1 (pt_not (pt_val (pe_callB (cr_all rfl) (by rfl) T.z_all (by decide +kernel) (pa_cons (pe_lc (own := [("tie", 2)]) (g := (gName 2)) (tt := tYes) (te := (tCall (spTieX K) [] E0 (tCons (tVar 2) (tCons (tVar 0) tNil)))) rfl nd (pi_list (pv 1)) (blkOk_by (own := [("tie", 2)]) (N := N_asked_web) (sc := (defScope s_asked_web)) (by decide +kernel)) (fun _ _ _ _ _ => (pg_name (i := 2) nd rfl (.inl rfl))) (fun _ _ _ _ _ => pts_nil) (fun _ _ _ _ _ => (pe_call (okx_is_tie T) (hr.mono (by decide)) (by rfl) T.g_is_tie T.F_is_tie.kp T.b_is_tie .nil pass0 (pa_cons (pv 2) (pa_cons (pv 0) pa_nil))))) pa_nil)))))))) 
        (pss_one (L2N.ps_raise rfl (L2N.takes_of rfl rfl rfl rfl) (L2N.pmk_own PySem.F.excBase_ValueError T.x_BadTies T.g_BadTies T.kp_BadTies (raises_own T.sb_BadTies T.tp_BadTies) (by rfl)))) pss_nil))), ?_⟩
    rcases h with ⟨hp, qE⟩ | ⟨n, rfl, hn2, hn10, h⟩
    · rcases hp with ⟨ty, b1, b2, h1, h2, h3, h4⟩ | ⟨z, rfl, hz⟩
      · refine ⟨_, rfl, _, ty, b1, b2, rfl, h1, h2, h3, _, rfl, ?_⟩
        rw [← h4]
        refine iteT ?_
        exact qE H (Same.refl _)
      · refine ⟨_, rfl, _, "int", true, false, rfl, .base (.int z), ki1, ki2, true, rfl, iteF ?_⟩
        refine ⟨_, rfl, 2, _, rfl, rfl, _, rfl, ?_⟩
        by_cases h2 : 2 ≤ z
        · rw [decide_eq_true h2]
          refine iteT ?_
          refine ⟨_, _, rfl, rfl, _, rfl, ?_⟩
          rw [decide_eq_false (fun h => hz ⟨h2, h⟩)]
          refine iteT ?_
          exact qE H (Same.refl _)
        · rw [decide_eq_false h2]
          refine iteF ?_
          refine ⟨_, rfl, iteT ?_⟩
          exact qE H (Same.refl _)
    refine ⟨_, rfl, _, "int", true, false, rfl, .base (.int (n : Int)), ki1, ki2, true, rfl, iteF ?_⟩
    refine ⟨_, rfl, 2, _, rfl, rfl, _, rfl, ?_⟩
    rw [decide_eq_true (by omega)]
    refine iteT ?_
    refine ⟨_, _, rfl, rfl, _, rfl, ?_⟩
    rw [decide_eq_true (by omega)]
    refine iteF ?_
    -- the ties
    have key : (NoL K H t ∧ ∀ H', Same H H' → E (.ref T.c_BadTies) none H') ∨ (∃ a xs, t = .ref a ∧ SqL K H a xs ∧ 40 < xs.length ∧ xs.length ≤ 1000 ∧ ∀ H', Same H H' → E (.ref T.c_BadTies) none H') ∨
        ∃ a xs bs, t = .ref a ∧ TiesL K H n a xs bs ∧ (bs.all id = true → ∀ H', Same H H' → Q .non H') ∧ (bs.all id = false → ∀ H', Same H H' → E (.ref T.c_BadTies) none H') := by
      rcases h with ⟨hb, qE⟩ | ⟨a, xs, bs, rfl, hL, hall, q⟩
      · rcases hb with h | ⟨a, xs, rfl, ⟨hxs, h40, h1000⟩ | ⟨bs, hL, hf⟩⟩
        · exact .inl ⟨h, qE⟩
        · exact .inr (.inl ⟨a, xs, rfl, hxs, h40, h1000, qE⟩)
        · refine .inr (.inr ⟨a, xs, bs, rfl, hL, fun h => ?_, fun _ => qE⟩)
          have := List.all_eq_true.mp h false hf
          cases this
      · refine .inr (.inr ⟨a, xs, bs, rfl, hL, fun _ => q, fun h => ?_⟩)
        rw [hall] at h
        cases h
    rcases key with ⟨⟨ty, h1, h2⟩, qE⟩ | ⟨a, xs, rfl, hxs, h40, h1000, qE⟩ | ⟨a, xs, bs, rfl, hL, q1, q2⟩
    · refine ⟨_, rfl, t, .ty "list", _, _, false, rfl, .ty "list", h1, kit_ty h2, false, rfl, iteT ?_⟩
      exact qE H (Same.refl _)
    · refine ⟨_, rfl, .ref a, .ty "list", _, _, true, rfl, .ty "list", tyL hxs, kit_ty (by decide +kernel), true, rfl, ?_⟩
      refine iteF ?_
      refine ⟨_, rfl, a, _, rfl, .inl hxs, _, _, rfl, rfl, _, rfl, ?_⟩
      rw [decide_eq_true (by omega)]
      refine iteT ?_
      exact qE H (Same.refl _)
    · have hxs := hL.seq
      have h40 := hL.len
      refine ⟨_, rfl, .ref a, .ty "list", _, _, true, rfl, .ty "list", tyL hxs, kit_ty (by decide +kernel), true, rfl, ?_⟩
      refine iteF ?_
      refine ⟨_, rfl, a, _, rfl, .inl hxs, _, _, rfl, rfl, _, rfl, ?_⟩
      rw [decide_eq_false (by omega)]
      refine iteF ?_
      refine ⟨_, rfl, a, rfl, ⟨_, hxs⟩, fun D hD => lc_list (K := K) (a := a) (xs := xs) (fun i H2 => Same H H2 ∧ H D = none ∧ H2 D = some (.lst ((bs.take i).map V.bl)))
        ⟨same_new hD, hD, by rw [upd_same]; rfl⟩ (fun i H2 _ h => h.1.seq hxs) ?_ ?_⟩
      · rintro i x H2 hi ⟨s2, nD, h2⟩
        have hil := (List.getElem?_eq_some_iff.mp hi).1
        have hbi : bs[i]? = some (bs[i]'(by rw [hL.bl]; exact hil)) := List.getElem?_eq_getElem _
        have ht := (hL.same s2).tie i x _ hi hbi
        refine ⟨rfl, _, rfl, _, rfl, x, n, _, rfl, ht, fun H3 s3 => ⟨_, s3 _ _ h2, sml1 ?_, same_mut (s2.trans s3) nD, nD, ?_⟩⟩
        · rw [List.length_map, List.length_take]
          omega
        · rw [upd_same, take_snoc hbi, List.map_append]
          rfl
      · rintro H2 ⟨s2, nD, h2⟩
        refine ⟨D, _, rfl, SqL.of h2, _, rfl, ?_⟩
        rw [show bs.take xs.length = bs by rw [← hL.bl, List.take_length]]
        cases e : bs.all id with
        | true =>
          refine iteF ?_
          exact q1 e H2 s2
        | false =>
          refine iteT ?_
          exact q2 e H2 s2
end
end Jp
end
section
set_option Elab.async false
set_option linter.all false
set_option pp.maxSteps 1200
set_option pp.deepTerms false
set_option maxRecDepth 100000
set_option maxHeartbeats 4000000
namespace Jp
open PySem L2
section
variable {P : Program} {w : World} {K : PySem.W.Frag} {mg : Str → Option Value} {base : Heap}

def AskBad (T : Tx K mg) (H : Hp) (p t : V) (E : XK) : Prop := (PplBad K H p ∧ ∀ H', Same H H' → E (.ref T.c_BadPeople) none H') ∨ ∃ n : Nat, p = .int (n : Int) ∧ 2 ≤ n ∧ n ≤ 10 ∧ TiesBad K H n t ∧ ∀ H', Same H H' → E (.ref T.c_BadTies) none H'
theorem ask_bad {T : Tx K mg} {H : Hp} {p t : V} {E : XK} {R : Nat → Prop} (h : AskBad T H p t E) : (PplBad K H p ∧ ∀ H', Same H H' → E (.ref T.c_BadPeople) none H') ∨ ∃ n : Nat, p = .int (n : Int) ∧ 2 ≤ n ∧ n ≤ 10 ∧ ((TiesBad K H n t ∧ ∀ H', Same H H' → E (.ref T.c_BadTies) none H') ∨ R n) := by
  rcases h with h | ⟨n, rfl, h2, h10, h⟩
  · exact .inl h
  · exact .inr ⟨n, rfl, h2, h10, .inl h⟩
/-- a web that is one -/
def GoodW (K : PySem.W.Frag) (H : Hp) (p t : V) (L : Nat) : Prop := ∃ (n : Nat) (a : Addr) (xs : List V) (bs : List Bool), p = .int (n : Int) ∧ 2 ≤ n ∧ n ≤ 10 ∧ t = .ref a ∧ TiesL K H n a xs bs ∧ bs.all id = true ∧ xs.length = L
theorem GoodW.same {H H' : Hp} {p t : V} {L : Nat} (h : GoodW K H p t L) (e : Same H H') : GoodW K H' p t L := by
  obtain ⟨n, a, xs, bs, h1, h2, h3, h4, h5, h6⟩ := h
  exact ⟨n, a, xs, bs, h1, h2, h3, h4, h5.same e, h6⟩
def ManyBad (K : PySem.W.Frag) (H : Hp) (m : V) : Prop := NumT K H m false ∨ ∃ z : Int, m = .int z ∧ ¬ (1 ≤ z ∧ z ≤ 10)
theorem ManyBad.same {H H' : Hp} {p : V} (h : ManyBad K H p) (e : Same H H') : ManyBad K H' p := h.imp (fun h => h.same e) id
def spTreesX (T : Tx K mg) : Sp := fun vs H Q E => ∃ (p t m : V), vs = [p, t, m] ∧ (AskBad T H p t E ∨ ∃ L, GoodW K H p t L ∧ ManyBad K H m ∧ ∀ H', Same H H' → E (.ref T.c_BadMany) none H')
theorem okx_trees (T : Tx K mg) : FnOk P w K mg base (L2N.CX P w) 5 T.f_trees T.d_trees ["people", "ties", "many"] (spTreesX T) := by
  refine T.F_trees.okN sc_trees (fun vs H Q E h => ?_) (fun cdv A outer s H vs Q E hr h => ?_)
  · obtain ⟨p, t, m, rfl, _⟩ := h
    rfl
  · obtain ⟨p, t, m, rfl, h⟩ := h
    have nd := sc_trees.nd
    refine ⟨_, (pss_cons (ps_expr (pe_callS (okx_asked_web T) (hr.mono (by decide)) (by rfl) T.g_asked_web T.F_asked_web.kp T.b_asked_web (fun σ => L2N.passAt (L2N.takes_of rfl rfl rfl rfl) σ) (pa_cons (pv 0) (pa_cons (pv 1) pa_nil))))
      (pss_cons (ps_if (PW.pt (pw_or (pt_not (pt_val (pe_call (ok_is_number T) (hr.mono (by decide)) (by rfl) T.g_is_number T.F_is_number.kp T.b_is_number .nil pass0 (pa_cons (pv 2) pa_nil)))) (pw_or1 (pt_not (pt_chain op_le op_le pe_int (pv 2) (pe_glob (v := .int 10) (by rfl) T.k_MOST ⟨_, rfl⟩)))))) 
        (pss_one (L2N.ps_raise rfl (L2N.takes_of rfl rfl rfl rfl) (L2N.pmk_own PySem.F.excBase_ValueError T.x_BadMany T.g_BadMany T.kp_BadMany (raises_own T.sb_BadMany T.tp_BadMany) (by rfl)))) pss_nil)
      (pss_one (ps_ret (pe_call (ok_told T) (hr.mono (by decide)) (by rfl) T.g_told T.F_told.kp T.b_told .nil pass0 (pa_cons (pv 0) (pa_cons (pv 1) (pa_cons (pv 2) pa_nil)))))))), ?_⟩
    rcases h with h | ⟨L, hG, hm, qE⟩
    · exact ⟨_, rfl, _, rfl, p, t, rfl, ask_bad h⟩
    · obtain ⟨n, a, ts, tb, rfl, hn2, hn10, rfl, hTL, hta, hLn⟩ := hG
      refine ⟨_, rfl, _, rfl, _, _, rfl, .inr ⟨n, rfl, hn2, hn10, .inr ⟨a, ts, tb, rfl, hTL, hta, fun H1 s1 => ?_⟩⟩⟩
      rcases hm with hm | ⟨z, rfl, hz⟩
      · obtain ⟨ty, b1, b2, h1, h2, h3, h4⟩ := hm.same s1
        refine ⟨_, rfl, _, ty, b1, b2, rfl, h1, h2, h3, _, rfl, ?_⟩
        rw [← h4]
        refine iteT ?_
        exact qE H1 s1
      · refine ⟨_, rfl, _, "int", true, false, rfl, .base (.int z), ki1, ki2, true, rfl, iteF ?_⟩
        refine ⟨_, rfl, 1, _, rfl, rfl, _, rfl, ?_⟩
        by_cases h2 : 1 ≤ z
        · rw [decide_eq_true h2]
          refine iteT ?_
          refine ⟨_, _, rfl, rfl, _, rfl, ?_⟩
          rw [decide_eq_false (fun h => hz ⟨h2, h⟩)]
          refine iteT ?_
          exact qE H1 s1
        · rw [decide_eq_false h2]
          refine iteF ?_
          refine ⟨_, rfl, iteT ?_⟩
          exact qE H1 s1
def spMostX (T : Tx K mg) : Sp := fun vs H Q E => ∃ (p t : V), vs = [p, t] ∧ AskBad T H p t E
theorem okx_most (T : Tx K mg) : FnOk P w K mg base (L2N.CX P w) 5 T.f_most T.d_most ["people", "ties"] (spMostX T) := by
  refine T.F_most.okN sc_most (fun vs H Q E h => ?_) (fun cdv A outer s H vs Q E hr h => ?_)
  · obtain ⟨p, t, rfl, _⟩ := h
    rfl
  · obtain ⟨p, t, rfl, h⟩ := h
    have nd := sc_most.nd
    refine ⟨_, (pss_cons (ps_expr (pe_callS (okx_asked_web T) (hr.mono (by decide)) (by rfl) T.g_asked_web T.F_asked_web.kp T.b_asked_web (fun σ => L2N.passAt (L2N.takes_of rfl rfl rfl rfl) σ) (pa_cons (pv 0) (pa_cons (pv 1) pa_nil)))) (PSs.nox 
      (pss_cons (ps_set (i := 2) nd rfl (.inl rfl) pe_int)
      (pss_cons (ps_while PassesOwn.never (pt_val (pe_callB call_isi (by rfl) T.z_isinstance (by decide +kernel) (pa_cons (pe_call (ok_told T) (hr.mono (by decide)) (by rfl) T.g_told T.F_told.kp T.b_told .nil pass0 (pa_cons (pv 0) (pa_cons (pv 1) (pa_cons (pe_op op_add (pv 2) pe_int) pa_nil)))) (pa_cons (pe_glob (v := .ref T.c_Trees) (by rfl) T.g_Trees rfl) pa_nil)))) 
        (pss_one (ps_set (i := 2) nd rfl (.inl rfl) (pe_op op_add (pv 2) pe_int))))
      (pss_one (ps_ret (pv 2))))))), ?_⟩
    exact ⟨_, rfl, _, rfl, p, t, rfl, ask_bad h⟩

/-- whether a value is the count of a tie -/
def MovT (K : PySem.W.Frag) (H : Hp) (L : Nat) (x : V) (b : Bool) : Prop := (NumT K H x false ∧ b = false) ∨ ∃ z : Int, x = .int z ∧ b = decide (0 ≤ z ∧ z < (L : Int))
theorem MovT.same {H H' : Hp} {L : Nat} {x : V} {b : Bool} (h : MovT K H L x b) (e : Same H H') : MovT K H' L x b := h.imp (fun h => ⟨h.1.same e, h.2⟩) id
structure MovL (K : PySem.W.Frag) (H : Hp) (L : Nat) (a : Addr) (xs : List V) (bs : List Bool) : Prop where
  seq : SqL K H a xs
  len : xs.length ≤ 40
  bl : bs.length = xs.length
  mov : ∀ (i : Nat) (x : V) (b : Bool), xs[i]? = some x → bs[i]? = some b → MovT K H L x b
theorem MovL.same {H H' : Hp} {L : Nat} {a : Addr} {xs : List V} {bs : List Bool} (h : MovL K H L a xs bs) (e : Same H H') : MovL K H' L a xs bs := { h with seq := e.seq h.seq, mov := fun i x b h1 h2 => (h.mov i x b h1 h2).same e }
/-- what is asked of one list of moves: fine or not -/
def SomeX (K : PySem.W.Frag) (H : Hp) (L : Nat) (f : V) (g : Bool) : Prop := (NoL K H f ∧ g = false) ∨ ∃ a xs bs, f = .ref a ∧ MovL K H L a xs bs ∧ g = bs.all id
theorem SomeX.same {H H' : Hp} {L : Nat} {f : V} {g : Bool} (h : SomeX K H L f g) (e : Same H H') : SomeX K H' L f g := by
  rcases h with ⟨h, rfl⟩ | ⟨a, xs, bs, rfl, h, rfl⟩
  · exact .inl ⟨h.same e, rfl⟩
  · exact .inr ⟨a, xs, bs, rfl, h.same e, rfl⟩
def MovBad (K : PySem.W.Frag) (H : Hp) (L : Nat) (f x : V) : Prop := ∃ g1 g2, SomeX K H L f g1 ∧ SomeX K H L x g2 ∧ ((g1 && g2) = false ∨ ∃ a b F X, f = .ref a ∧ x = .ref b ∧ H a = some (.lst (natV F)) ∧ H b = some (.lst (natV X)) ∧ F.length + X.length ≤ 100 ∧ ¬ (F ++ X).Nodup)
theorem MovBad.same {H H' : Hp} {L : Nat} {f x : V} (h : MovBad K H L f x) (e : Same H H') : MovBad K H' L f x := by
  obtain ⟨g1, g2, h1, h2, h3⟩ := h
  refine ⟨g1, g2, h1.same e, h2.same e, h3.imp id ?_⟩
  rintro ⟨a, b, F, X, rfl, rfl, h4, h5, h6⟩
  exact ⟨a, b, F, X, rfl, rfl, e _ _ h4, e _ _ h5, h6⟩
def spMovX (T : Tx K mg) : Sp := fun vs H Q E => ∃ (p t f x : V), vs = [p, t, f, x] ∧ (AskBad T H p t E ∨ ∃ L, GoodW K H p t L ∧ MovBad K H L f x ∧ ∀ H', Same H H' → E (.ref T.c_BadMoves) none H')
theorem okx_asked_moves (T : Tx K mg) : FnOk P w K mg base (L2N.CX P w) 4 T.f_asked_moves T.d_asked_moves ["people", "ties", "fast", "cut"] (spMovX T) := by
  refine T.F_asked_moves.okN sc_asked_moves (fun vs H Q E h => ?_) (fun cdv A outer s H vs Q E hr h => ?_)
  · obtain ⟨p, t, f, x, rfl, _⟩ := h
    rfl
  · obtain ⟨p, t, f, x, rfl, h⟩ := h
    have nd := sc_asked_moves.nd
    refine ⟨_, (pss_cons (ps_expr (pe_callS (okx_asked_web T) (hr.mono (by decide)) (by rfl) T.g_asked_web T.F_asked_web.kp T.b_asked_web (fun σ => L2N.passAt (L2N.takes_of rfl rfl rfl rfl) σ) (pa_cons (pv 0) (pa_cons (pv 1) pa_nil))))
      (pss_cons (ps_for (passes_of rfl) rfl (pi_tup (pe_tup (pa_cons (pv 2) (pa_cons (pv 3) pa_nil)))) (pg_name (i := 4) nd rfl (.inl rfl)) 
        (pss_one (ps_if (PW.pt (pw_or (pt_not (pt_val (pe_callB call_isi (by rfl) T.z_isinstance (by decide +kernel) (pa_cons (pv 4) (pa_cons (pe_bltn (v := .ty "list") (by rfl) T.z_list (by decide +kernel) rfl) pa_nil))))) (pw_or1 (pt_not (pt_val (pe_callB (cr_all rfl) (by rfl) T.z_all (by decide +kernel) (pa_cons (pe_lc (own := [("at", 5)]) (g := (gName 5)) (tt := tYes) (te := (tAndV (tCall (spNumber K) [] E0 (tCons (tVar 5) tNil)) (tChain _ _ _ (tVar 5) (tCB (Evl.rLenS K) (tCons (tVar 1) tNil))))) rfl nd (pi_list (pv 4)) (blkOk_by (own := [("at", 5)]) (N := N_asked_moves) (sc := (defScope s_asked_moves)) (by decide +kernel)) (fun _ _ _ _ _ => (pg_name (i := 5) nd rfl (.inl rfl))) (fun _ _ _ _ _ => pts_nil) (fun _ _ _ _ _ => (pe_and (pe_call (ok_is_number T) (hr.mono (by decide)) (by rfl) T.g_is_number T.F_is_number.kp T.b_is_number .nil pass0 (pa_cons (pv 5) pa_nil)) (pe_one (pe_chain op_le op_lt pe_int (pv 5) (pe_callB call_len_seq (by rfl) T.z_len PySem.boot_len (pa_cons (pv 1) pa_nil))))))) pa_nil))))))) 
          (pss_one (L2N.ps_raise rfl (L2N.takes_of rfl rfl rfl rfl) (L2N.pmk_own PySem.F.excBase_ValueError T.x_BadMoves T.g_BadMoves T.kp_BadMoves (raises_own T.sb_BadMoves T.tp_BadMoves) (by rfl)))) pss_nil)))
      (pss_one (ps_if (pt_cmpR op_ne (pe_callB cr_lenS (by rfl) T.z_len PySem.boot_len (pa_cons (pe_callTy (cr_setL rfl) (by rfl) T.z_set (by decide +kernel) (pa_cons (pe_op op_cat (pv 2) (pv 3)) pa_nil)) pa_nil)) (pe_op op_add (pe_callB call_len_seq (by rfl) T.z_len PySem.boot_len (pa_cons (pv 2) pa_nil)) (pe_callB call_len_seq (by rfl) T.z_len PySem.boot_len (pa_cons (pv 3) pa_nil))) (nomark _)) 
        (pss_one (L2N.ps_raise rfl (L2N.takes_of rfl rfl rfl rfl) (L2N.pmk_own PySem.F.excBase_ValueError T.x_BadMoves T.g_BadMoves T.kp_BadMoves (raises_own T.sb_BadMoves T.tp_BadMoves) (by rfl)))) pss_nil)))), ?_⟩
    rcases h with h | ⟨L, hG, hm, qE⟩
    · exact ⟨_, rfl, _, rfl, p, t, rfl, ask_bad h⟩
    · obtain ⟨n, a, ts, tb, rfl, hn2, hn10, rfl, hTL, hta, hLn⟩ := hG
      refine ⟨_, rfl, _, rfl, _, _, rfl, .inr ⟨n, rfl, hn2, hn10, .inr ⟨a, ts, tb, rfl, hTL, hta, fun H1 s1 => ?_⟩⟩⟩
      have htx := hTL.seq
      have ht40 := hTL.len
      obtain ⟨g1, g2, hS1, hS2, hbad⟩ := hm
      -- for some in (fast, cut)
      refine ⟨_, rfl, _, rfl, sml (by show 2 ≤ 100000; decide), fun tp nt => ?_⟩
      generalize e2 : upd H1 tp _ = H2
      have s2 : Same H1 H2 := by
        rw [← e2]
        exact same_new nt
      have ht2 : SqT K H2 tp [f, x] := SqT.of (by rw [← e2]; exact upd_same)
      have s12 := s1.trans s2
      refine ⟨tp, rfl, ⟨_, ht2⟩, for_tup (K := K) (a := tp) (xs := [f, x]) (fun i σ H3 => ∃ y4, σ = [some (.int n), some (.ref a), some f, some x, y4, none] ∧ Same H2 H3 ∧ (0 < i → g1 = true) ∧ (1 < i → g2 = true))
        ⟨_, rfl, Same.refl _, fun h => absurd h (by decide), fun h => absurd h (by decide)⟩ (fun i σ H3 _ ⟨_, _, h, _⟩ => same_tup h ht2) ?_ ?_⟩
      · rintro i z σ H3 hi ⟨y4, rfl, s3, hg1, hg2⟩
        have s13 := s12.trans s3
        obtain ⟨g, hz, hgi⟩ : ∃ g, SomeX K H L z g ∧ (g = true → (0 < i + 1 → g1 = true) ∧ (1 < i + 1 → g2 = true)) := by
          match i, hi with
          | 0, hi =>
            cases hi
            exact ⟨g1, hS1, fun h => ⟨fun _ => h, fun h => absurd h (by decide)⟩⟩
          | 1, hi =>
            cases hi
            exact ⟨g2, hS2, fun h => ⟨fun _ => hg1 (by decide), fun _ => h⟩⟩
          | i + 2, hi => simp at hi
        rcases hz.same s13 with ⟨⟨ty, h1, h2⟩, rfl⟩ | ⟨c, xs, bs, rfl, hM, rfl⟩
        · refine ⟨_, rfl, z, .ty "list", _, _, false, rfl, .ty "list", h1, kit_ty h2, false, rfl, iteT ?_⟩
          exact qE H3 s13
        · have hc3 := hM.seq
          have h40 := hM.len
          refine ⟨_, rfl, .ref c, .ty "list", _, _, true, rfl, .ty "list", tyL hc3, kit_ty (by decide +kernel), true, rfl, iteF ?_⟩
          refine ⟨_, rfl, c, rfl, ⟨_, hc3⟩, fun D hD => lc_list (K := K) (a := c) (xs := xs) (fun j H4 => Same H3 H4 ∧ H3 D = none ∧ H4 D = some (.lst ((bs.take j).map V.bl)))
            ⟨same_new hD, hD, by rw [upd_same]; rfl⟩ (fun j H4 _ h => h.1.seq hc3) ?_ ?_⟩
          · rintro j z H4 hj ⟨s4, nD, h4⟩
            have hjl := (List.getElem?_eq_some_iff.mp hj).1
            have hbj : bs[j]? = some (bs[j]'(by rw [hM.bl]; exact hjl)) := List.getElem?_eq_getElem _
            have hmv := (hM.same s4).mov j z _ hj hbj
            have fin : ∀ b, b = (bs[j]'(by rw [hM.bl]; exact hjl)) → ∃ acc, H4 D = some (.lst acc) ∧ acc.length < sizeLine ∧ Same H3 (upd H4 D (.lst (acc ++ [.bl b]))) ∧ H3 D = none ∧ upd H4 D (.lst (acc ++ [.bl b])) D = some (.lst ((bs.take (j + 1)).map V.bl)) := fun b hb => by
              refine ⟨_, h4, sml1 ?_, same_mut s4 nD, nD, ?_⟩
              · rw [List.length_map, List.length_take]
                omega
              · rw [upd_same, take_snoc hbj, List.map_append, hb]
                rfl
            refine ⟨rfl, ?_⟩
            rcases hmv with ⟨⟨ty, b1, b2, k1, k2, k3, k4⟩, hb⟩ | ⟨v, rfl, hb⟩
            · refine ⟨_, rfl, _, ty, b1, b2, rfl, k1, k2, k3, _, rfl, ?_⟩
              rw [← k4]
              refine iteF ?_
              exact fin _ hb.symm
            · refine ⟨_, rfl, _, "int", true, false, rfl, .base (.int v), ki1, ki2, true, rfl, iteT ?_⟩
              refine ⟨_, rfl, 0, _, rfl, rfl, _, rfl, ?_⟩
              by_cases h0 : 0 ≤ v
              · rw [decide_eq_true h0]
                refine iteT ?_
                refine ⟨_, rfl, a, ts, rfl, .inl ((s13.trans s4).seq htx), _, _, rfl, rfl, ?_⟩
                refine fin _ ?_
                rw [hb, hLn]
                exact decide_eq_decide.mpr ⟨fun h => ⟨h0, h⟩, fun h => h.2⟩
              · rw [decide_eq_false h0]
                refine iteF ?_
                refine fin _ ?_
                rw [hb]
                exact (decide_eq_false fun h => h0 h.1).symm
          · rintro H4 ⟨s4, nD, h4⟩
            refine ⟨D, _, rfl, SqL.of h4, _, rfl, ?_⟩
            rw [show bs.take xs.length = bs by rw [← hM.bl, List.take_length]]
            cases e : bs.all id with
            | true =>
              refine iteF ?_
              exact ⟨_, rfl, s3.trans s4, (hgi e).1, (hgi e).2⟩
            | false =>
              refine iteT ?_
              exact qE H4 (s13.trans s4)
      · rintro σ H3 ⟨y4, rfl, s3, hg1, hg2⟩
        have s13 := s12.trans s3
        have h1 := hg1 (by show 0 < 2; decide)
        have h2 := hg2 (by show 1 < 2; decide)
        subst h1
        subst h2
        rcases hbad with h | ⟨fa, xa, F, X, rfl, rfl, hF, hX, hlen, hnd⟩
        · cases h
        -- if len(set(fast + cut)) != len(fast) + len(cut)
        refine ⟨_, rfl, _, rfl, fa, xa, _, _, rfl, rfl, s13 _ _ hF, s13 _ _ hX, sml (by rw [natV_len, natV_len]; omega), fun q0 np => ?_⟩
        rw [natV_app, natV_natI]
        generalize e4 : upd H3 q0 _ = H4
        have s4 : Same H3 H4 := by
          rw [← e4]
          exact same_new np
        have hp4 : H4 q0 = some (.lst ((natI (F ++ X)).map V.int)) := by
          rw [← e4]
          exact upd_same
        refine ⟨q0, natI (F ++ X), rfl, SqL.of hp4, (by unfold natI; rw [List.length_map, List.length_append]; omega), fun z ks nd2 hks nz => ?_⟩
        generalize e5 : upd H4 z _ = H5
        have s5 : Same H4 H5 := by
          rw [← e5]
          exact same_new nz
        have hz5 : H5 z = some (SetO w z (fun j => decide (j ∈ natI (F ++ X))) ks.length) := by
          rw [← e5]
          exact upd_same
        have ndI : ¬ (natI (F ++ X)).Nodup := fun h => hnd (by
          unfold natI at h
          have h' : List.Pairwise (· ≠ ·) ((F ++ X).map fun (v : Nat) => (v : Int)) := h
          rw [List.pairwise_map] at h'
          exact h'.imp fun {a b} h e => h (by rw [e]))
        have hkl : ks.length ≠ F.length + X.length := fun h => ndI ((set_len_iff nd2 hks).mp (by
          rw [h]
          unfold natI
          rw [List.length_map, List.length_append]))
        have hkb : ks.length ≤ 100 := by
          have h1 := len_le_of_sub (ys := natI (F ++ X)) nd2 fun k hk => (hks k).mp hk
          unfold natI at h1
          rw [List.length_map, List.length_append] at h1
          omega
        have s15 := s13.trans (s4.trans s5)
        refine ⟨z, _, _, rfl, hz5, by omega, _, rfl, fa, _, rfl, .inl (SqL.of (s15 _ _ hF)), _, rfl, xa, _, rfl, .inl (SqL.of (s15 _ _ hX)), _, _, rfl, rfl, rfl, _, rfl, ?_⟩
        rw [natV_len, natV_len]
        rw [show (!decide (V.int ((ks.length : Nat) : Int) = V.int ((F.length : Int) + (X.length : Int)))) = true by rw [decide_eq_false (fun e => hkl (by have := V.int.inj e; omega))]; rfl]
        refine iteT ?_
        exact qE H5 s15
theorem okx_held (T : Tx K mg) : FnOk P w K mg base (L2N.CX P w) 6 T.f_held T.d_held ["people", "ties", "fast", "cut"] (spMovX T) := by
  refine T.F_held.okN sc_held (fun vs H Q E h => ?_) (fun cdv A outer s H vs Q E hr h => ?_)
  · obtain ⟨p, t, f, x, rfl, _⟩ := h
    rfl
  · obtain ⟨p, t, f, x, rfl, h⟩ := h
    have nd := sc_held.nd
    refine ⟨_, (pss_cons (ps_expr (pe_callS (okx_asked_moves T) (hr.mono (by decide)) (by rfl) T.g_asked_moves T.F_asked_moves.kp T.b_asked_moves (fun σ => L2N.passAt (L2N.takes_of rfl rfl rfl rfl) σ) (pa_cons (pv 0) (pa_cons (pv 1) (pa_cons (pv 2) (pa_cons (pv 3) pa_nil)))))) (PSs.nox 
      (pss_one (ps_ret (pe_call (ok_is_held T) (hr.mono (by decide)) (by rfl) T.g_is_held T.F_is_held.kp T.b_is_held .nil pass0 (pa_cons (pv 0) (pa_cons (pv 1) (pa_cons (pv 2) (pa_cons (pv 3) pa_nil))))))))), ?_⟩
    exact ⟨_, rfl, _, rfl, _, rfl, _, rfl, p, t, f, x, rfl, h⟩
abbrev N_to_cut : List Str := ["people", "ties", "fast", "cut", "groups", "free", "counts", "home", "at", "group", "who", "between", "count", "tie"]
theorem sc_to_cut : FnScope N_to_cut ["people", "ties", "fast", "cut"] (defScope s_to_cut) := ⟨rfl, rfl, rfl, by decide +kernel, rfl, by decide +kernel, by decide +kernel⟩
-- slots: people 0, ties 1, fast 2, cut 3, groups 4, free 5, counts 6, home 7, at 8, group 9, who 10, between 11, count 12, tie 13
theorem okx_to_cut (T : Tx K mg) : FnOk P w K mg base (L2N.CX P w) 6 T.f_to_cut T.d_to_cut ["people", "ties", "fast", "cut"] (spMovX T) := by
  refine T.F_to_cut.okN sc_to_cut (fun vs H Q E h => ?_) (fun cdv A outer s H vs Q E hr h => ?_)
  · obtain ⟨p, t, f, x, rfl, _⟩ := h
    rfl
  · obtain ⟨p, t, f, x, rfl, h⟩ := h
    have nd := sc_to_cut.nd
    refine ⟨_, (pss_cons (ps_expr (pe_callS (okx_asked_moves T) (hr.mono (by decide)) (by rfl) T.g_asked_moves T.F_asked_moves.kp T.b_asked_moves (fun σ => L2N.passAt (L2N.takes_of rfl rfl rfl rfl) σ) (pa_cons (pv 0) (pa_cons (pv 1) (pa_cons (pv 2) (pa_cons (pv 3) pa_nil)))))) (PSs.nox 
      (pss_cons (ps_if (pt_val (pe_call (ok_is_held T) (hr.mono (by decide)) (by rfl) T.g_is_held T.F_is_held.kp T.b_is_held .nil pass0 (pa_cons (pv 0) (pa_cons (pv 1) (pa_cons (pv 2) (pa_cons (pv 3) pa_nil)))))) 
        (pss_one ps_never) pss_nil)
      (pss_cons (ps_asg (pe_call (ok_rest T) (hr.mono (by decide)) (by rfl) T.g_rest T.F_rest.kp T.b_rest .nil pass0 (pa_cons (pv 0) (pa_cons (pv 1) (pa_cons (pv 2) (pa_cons (pv 3) pa_nil))))) (pg_tup rfl (pgs_cons (pg_name (i := 4) nd rfl (.inl rfl)) (pgs_cons (pg_name (i := 5) nd rfl (.inl rfl)) (pgs_cons (pg_name (i := 6) nd rfl (.inl rfl)) pgs_nil)))))
      (pss_cons (ps_set (i := 7) nd rfl (.inr rfl) pe_dnewK)
      (pss_cons (ps_for PassesOwn.never rfl (pi_enum (by rfl) T.z_enumerate (pa_cons (pe_fld (pe_call (ok_told T) (hr.mono (by decide)) (by rfl) T.g_told T.F_told.kp T.b_told .nil pass0 (pa_cons (pv 4) (pa_cons (pv 5) (pa_cons pe_int pa_nil)))) rfl) pa_nil)) (pg_tup rfl (pgs_cons (pg_name (i := 8) nd rfl (.inl rfl)) (pgs_cons (pg_name (i := 9) nd rfl (.inl rfl)) pgs_nil))) 
        (pss_one (ps_for PassesOwn.never rfl (pi_list (pv 9)) (pg_name (i := 10) nd rfl (.inl rfl)) 
          (pss_one (ps_dput (hu_of hr) (pv 7) (pv 10) (pv 8) rfl)))))
      (pss_cons (ps_setLc (i := 11) (own := [("count", 12), ("tie", 13)]) (g := (gTup K 2 (gCons (gName 12) (gCons (gName 13) gNil)))) (tt := (tTest (tOp rNe (tDGet (tVar 7) (tOp (rIxT K) (tVar 13) _)) (tDGet (tVar 7) (tOp (rIxT K) (tVar 13) _))))) (te := (tVar 12)) rfl nd rfl rfl (sw_true rfl rfl rfl (by decide +kernel)) (pi_zip (by rfl) T.z_zip (pa_cons (pv 6) (pa_cons (pv 5) pa_nil))) (blkOk_by (own := [("count", 12), ("tie", 13)]) (N := N_to_cut) (sc := (defScope s_to_cut)) (by decide +kernel)) (fun _ _ _ _ _ => (pg_tup rfl (pgs_cons (pg_name (i := 12) nd rfl (.inl rfl)) (pgs_cons (pg_name (i := 13) nd rfl (.inl rfl)) pgs_nil)))) (fun _ _ _ _ _ => (pts_one (pt_cmpR op_ne (pe_dget (hu_of hr) (pv 7) (pe_ix ix_tup (pv 13) pe_int (fun _ _ => rfl)) (fun _ _ => rfl)) (pe_dget (hu_of hr) (pv 7) (pe_ix ix_tup (pv 13) pe_int (fun _ _ => rfl)) (fun _ _ => rfl)) (nomark _)))) (fun _ _ _ _ _ => (pv 12)))
      (pss_one (ps_ret (pe_callBK (cr_minD rfl) (by rfl) T.z_min (by decide +kernel) (pa_cons (pv 11) pa_nil) (pk_cons pe_non pk_nil))))))))))), ?_⟩
    exact ⟨_, rfl, _, rfl, _, rfl, _, rfl, p, t, f, x, rfl, h⟩
abbrev N_to_join : List Str := ["people", "ties", "fast", "cut", "groups", "free", "counts", "at"]
theorem sc_to_join : FnScope N_to_join ["people", "ties", "fast", "cut"] (defScope s_to_join) := ⟨rfl, rfl, rfl, by decide +kernel, rfl, by decide +kernel, by decide +kernel⟩
-- slots: people 0, ties 1, fast 2, cut 3, groups 4, free 5, counts 6, at 7
theorem okx_to_join (T : Tx K mg) : FnOk P w K mg base (L2N.CX P w) 6 T.f_to_join T.d_to_join ["people", "ties", "fast", "cut"] (spMovX T) := by
  refine T.F_to_join.okN sc_to_join (fun vs H Q E h => ?_) (fun cdv A outer s H vs Q E hr h => ?_)
  · obtain ⟨p, t, f, x, rfl, _⟩ := h
    rfl
  · obtain ⟨p, t, f, x, rfl, h⟩ := h
    have nd := sc_to_join.nd
    refine ⟨_, (pss_cons (ps_expr (pe_callS (okx_asked_moves T) (hr.mono (by decide)) (by rfl) T.g_asked_moves T.F_asked_moves.kp T.b_asked_moves (fun σ => L2N.passAt (L2N.takes_of rfl rfl rfl rfl) σ) (pa_cons (pv 0) (pa_cons (pv 1) (pa_cons (pv 2) (pa_cons (pv 3) pa_nil)))))) (PSs.nox 
      (pss_cons (ps_asg (pe_call (ok_rest T) (hr.mono (by decide)) (by rfl) T.g_rest T.F_rest.kp T.b_rest .nil pass0 (pa_cons (pv 0) (pa_cons (pv 1) (pa_cons (pv 2) (pa_cons (pv 3) pa_nil))))) (pg_tup rfl (pgs_cons (pg_name (i := 4) nd rfl (.inl rfl)) (pgs_cons (pg_name (i := 5) nd rfl (.inl rfl)) (pgs_cons (pg_name (i := 6) nd rfl (.inl rfl)) pgs_nil)))))
      (pss_cons (ps_if (pt_cmpR op_eq (pv 4) pe_int (nomark _)) 
        (pss_one (ps_ret pe_non)) pss_nil)
      (pss_cons (ps_for PassesOwn.never rfl (pi_list (pv 6)) (pg_name (i := 7) nd rfl (.inl rfl)) 
        (pss_one (ps_if (pt_val (pe_call (ok_is_held T) (hr.mono (by decide)) (by rfl) T.g_is_held T.F_is_held.kp T.b_is_held .nil pass0 (pa_cons (pv 0) (pa_cons (pv 1) (pa_cons (pe_op op_cat (pv 2) (pe_lst (pa_cons (pv 7) pa_nil))) (pa_cons (pv 3) pa_nil)))))) 
          (pss_one (ps_ret (pv 7))) pss_nil)))
      (pss_one ps_never)))))), ?_⟩
    exact ⟨_, rfl, _, rfl, _, rfl, _, rfl, p, t, f, x, rfl, h⟩
end
end Jp
end
section
set_option Elab.async false
set_option linter.all false
set_option pp.maxSteps 1200
set_option pp.deepTerms false
set_option maxRecDepth 100000
set_option maxHeartbeats 4000000
namespace Jp
open PySem L2
theorem NoL.dK {K : PySem.W.Frag} {H : Hp} {a : Addr} {xs : List (Key × V)} (h : H a = some (.dK xs)) : NoL K H (.ref a) := ⟨"dict", .base (.dK h), by decide +kernel⟩
theorem NumT.dK {K : PySem.W.Frag} {H : Hp} {a : Addr} {xs : List (Key × V)} (h : H a = some (.dK xs)) : NumT K H (.ref a) false := ⟨"dict", false, false, .base (.dK h), by decide +kernel, by decide +kernel, rfl⟩
/-- what is so of a value, however the heap grows -/
structure SR where
  r : Hp → V → Prop
  st : ∀ {H H' : Hp} {v : V}, Same H H' → r H v → r H' v
def AllR : List SR → Hp → List V → Prop
  | [], _, [] => True
  | R :: Rs, H, v :: vs => R.r H v ∧ AllR Rs H vs
  | [], _, _ :: _ => False
  | _ :: _, _, [] => False
theorem AllR.same : ∀ {Rs : List SR} {H H' : Hp} {vs : List V}, Same H H' → AllR Rs H vs → AllR Rs H' vs
  | [], _, _, [], _, _ => trivial
  | R :: Rs, _, _, v :: vs, e, h => ⟨R.st e h.1, AllR.same e h.2⟩
  | [], _, _, _ :: _, _, h => h.elim
  | _ :: _, _, _, [], _, h => h.elim
theorem AllR.len : ∀ {Rs : List SR} {H : Hp} {vs : List V}, AllR Rs H vs → vs.length = Rs.length
  | [], _, [], _ => rfl
  | R :: Rs, _, v :: vs, h => by rw [List.length_cons, List.length_cons, AllR.len h.2]
  | [], _, _ :: _, h => h.elim
  | _ :: _, _, [], h => h.elim
theorem AllR.get : ∀ {Rs : List SR} {H : Hp} {vs : List V} {i : Nat} {R : SR}, AllR Rs H vs → Rs[i]? = some R → ∃ v, vs[i]? = some v ∧ R.r H v
  | [], _, [], i, _, _, h => by simp at h
  | R :: Rs, _, v :: vs, 0, _, h, e => by
    cases e
    exact ⟨v, rfl, h.1⟩
  | R :: Rs, _, v :: vs, i + 1, _, h, e => AllR.get (i := i) h.2 e
  | [], _, _ :: _, _, _, h, _ => h.elim
  | _ :: _, _, [], _, _, h, _ => h.elim
theorem AllR.app : ∀ {Rs Ss : List SR} {H : Hp} {vs ws : List V}, AllR Rs H vs → AllR Ss H ws → AllR (Rs ++ Ss) H (vs ++ ws)
  | [], _, _, [], _, _, h => h
  | R :: Rs, _, _, v :: vs, _, h, g => ⟨h.1, AllR.app h.2 g⟩
  | [], _, _, _ :: _, _, h, _ => h.elim
  | _ :: _, _, _, [], _, h, _ => h.elim
theorem AllR.zero {H : Hp} {vs : List V} (h : AllR [] H vs) : vs = [] := List.eq_nil_of_length_eq_zero h.len
theorem AllR.one {R : SR} {H : Hp} {vs : List V} (h : AllR [R] H vs) : ∃ v, vs = [v] ∧ R.r H v := by
  match vs, h with
  | [v], h => exact ⟨v, rfl, h.1⟩
  | [], h => exact h.elim
  | _ :: _ :: _, h => exact h.2.elim
theorem AllR.two {R S : SR} {H : Hp} {vs : List V} (h : AllR [R, S] H vs) : ∃ v w, vs = [v, w] ∧ R.r H v ∧ S.r H w := by
  match vs, h with
  | [v, w], h => exact ⟨v, w, rfl, h.1, h.2.1⟩
  | [], h => exact h.elim
  | [_], h => exact h.2.elim
  | _ :: _ :: _ :: _, h => exact h.2.2.elim
def eqR (x : V) : SR := ⟨fun _ v => v = x, fun _ h => h⟩
def lstR (Rs : List SR) : SR := ⟨fun H v => ∃ p vs, v = .ref p ∧ H p = some (.lst vs) ∧ AllR Rs H vs, fun e ⟨p, vs, h1, h2, h3⟩ => ⟨p, vs, h1, e _ _ h2, h3.same e⟩⟩
def tupR (Rs : List SR) : SR := ⟨fun H v => ∃ p vs, v = .ref p ∧ H p = some (.tup vs) ∧ AllR Rs H vs, fun e ⟨p, vs, h1, h2, h3⟩ => ⟨p, vs, h1, e _ _ h2, h3.same e⟩⟩
def dkR : SR := ⟨fun H v => ∃ p, v = .ref p ∧ H p = some (.dK []), fun e ⟨p, h1, h2⟩ => ⟨p, h1, e _ _ h2⟩⟩
/-- the value that t makes is such -/
def Mk (t : TE) (σ : L2.St) (R : SR) : Prop := ∀ (H : Hp) (Q : VK), (∀ H' v, Same H H' → R.r H' v → Q v H') → t σ H Q
def MkA (t : TA) (σ : L2.St) (Rs : List SR) : Prop := ∀ (H : Hp) (Q : List V → Hp → Prop), (∀ H' vs, Same H H' → AllR Rs H' vs → Q vs H') → t σ H Q
section
variable {σ : L2.St} {R : SR} {Rs : List SR} {t : TE} {ts : TA}
theorem MkA.nil : MkA tNil σ [] := fun H Q q => q H [] (Same.refl _) trivial
theorem MkA.cons (h : Mk t σ R) (hs : MkA ts σ Rs) : MkA (tCons t ts) σ (R :: Rs) := fun H Q q => h H _ fun H1 v s1 hv => hs H1 _ fun H2 vs s2 hvs => q H2 (v :: vs) (s1.trans s2) ⟨R.st s2 hv, hvs⟩
theorem Mk.of {v : V} (h : ∀ (H : Hp) (Q : VK), Q v H → t σ H Q) : Mk t σ (eqR v) := fun H Q q => h H Q (q H v (Same.refl _) rfl)
theorem Mk.c {v : V} : Mk (tC v) σ (eqR v) := .of fun H Q q => q
theorem Mk.dk : Mk tDNewK σ dkR := fun H Q q p np => q _ _ (same_new np) ⟨p, rfl, upd_same⟩
theorem Mk.lst (h : MkA ts σ Rs) (hl : Rs.length ≤ 1000 := by simp) : Mk (tLst ts) σ (lstR Rs) := fun H Q q => h H _ fun H1 vs s1 hvs => ⟨sml (by rw [hvs.len]; omega), fun p np => q _ _ (s1.trans (same_new np)) ⟨p, vs, rfl, upd_same, hvs.same (same_new np)⟩⟩
theorem Mk.tup (h : MkA ts σ Rs) (hl : Rs.length ≤ 1000 := by simp) : Mk (tTup ts) σ (tupR Rs) := fun H Q q => h H _ fun H1 vs s1 hvs => ⟨sml (by rw [hvs.len]; omega), fun p np => q _ _ (s1.trans (same_new np)) ⟨p, vs, rfl, upd_same, hvs.same (same_new np)⟩⟩
theorem Mk.neg {i : Int} : Mk (tUn (rU fun i => V.int (-i)) (tC (.int i))) σ (eqR (.int (-i))) := .of fun H Q q => ⟨i, rfl, q⟩
/-- a list of forty-one -/
def rep41 : SR := ⟨fun H v => ∃ p vs, v = .ref p ∧ H p = some (.lst vs) ∧ vs.length = 41, fun e ⟨p, vs, h1, h2, h3⟩ => ⟨p, vs, h1, e _ _ h2, h3⟩⟩
theorem Mk.rep (h : Mk t σ (lstR [R])) : Mk (tOp rRep t (tC (.int 41))) σ rep41 := fun H Q q => h H _ fun H1 v s1 hv => by
  obtain ⟨p, vs, rfl, hp, ha⟩ := hv
  obtain ⟨x, rfl, _⟩ := ha.one
  exact ⟨p, _, _, rfl, rfl, hp, by decide, by decide, by show 1 * 41 ≤ _; exact sml (by decide), fun z nz => q _ _ (s1.trans (same_new nz)) ⟨z, _, rfl, upd_same, by simp⟩⟩
theorem asg_mk {D : Ends} {H : Hp} {i : Nat} {rest : TS} (h : Mk t σ R) (k : ∀ H' v, Same H H' → R.r H' v → rest D (σ.set i (some v)) H') : tSeq (tAsg t (gName i)) rest D σ H := h H _ fun H' v s hv => k H' v s hv
theorem asg_cat {D : Ends} {H : Hp} {i j : Nat} {rest : TS} {p1 : Addr} {vs1 : List V} {Ss : List SR} (hσ : σ[i]? = some (some (.ref p1))) (hp : H p1 = some (.lst vs1)) (ha : AllR Rs H vs1) (h2 : Mk t σ (lstR Ss)) (hl : Rs.length + Ss.length ≤ 1000)
    (k : ∀ H' p vs, Same H H' → H' p = some (.lst vs) → AllR (Rs ++ Ss) H' vs → rest D (σ.set j (some (.ref p))) H') : tSeq (tAsg (tOp rCat (tVar i) t) (gName j)) rest D σ H := by
  refine ⟨_, hσ, ?_⟩
  refine h2 H _ fun H2 v2 s2 hv2 => ?_
  obtain ⟨p2, vs2, rfl, hp2, ha2⟩ := hv2
  have ha1 := ha.same s2
  refine ⟨p1, p2, _, _, rfl, rfl, s2 _ _ hp, hp2, sml (by have := ha1.len; have := ha2.len; omega), fun p3 np3 => ?_⟩
  exact k _ p3 _ (s2.trans (same_new np3)) upd_same ((ha1.app ha2).same (same_new np3))
theorem asg_ix {K : PySem.W.Frag} {D : Ends} {H : Hp} {i m : Nat} {rest : TS} {ti : TE} (h : Mk t σ (lstR Rs)) (hi : ∀ (H : Hp) (Q : VK), Q (.int (m : Int)) H → ti σ H Q) (hR : Rs[m]? = some R)
    (k : ∀ H' v, Same H H' → R.r H' v → rest D (σ.set i (some v)) H') : tSeq (tAsg (tOp (rIxL K) t ti) (gName i)) rest D σ H := by
  refine h H _ fun H1 v s hv => hi H1 _ ?_
  obtain ⟨p, vs, rfl, hp, ha⟩ := hv
  obtain ⟨v, hv, hr⟩ := ha.get hR
  exact ⟨p, _, _, _, rfl, rfl, SqL.of hp, atI_nat hv, k H1 v s hr⟩
def iR (i : Int) : SR := eqR (.int i)
def bad14 : List SR := [eqR .non, tupR [], tupR [tupR [iR 0, iR 1]], eqR (.str "01"), iR 5, dkR, lstR [eqR .non], lstR [iR 0], lstR [lstR [iR 0, iR 1]], lstR [tupR [iR 0]], lstR [tupR [iR 0, iR 1, iR 2]], lstR [tupR [iR 1, iR 0]], lstR [tupR [iR 1, iR 1]], lstR [tupR [iR 0, iR 4]]]
def bad2 : List SR := [lstR [tupR [iR (-1), iR 0]], rep41]
def strange (m : Nat) : List SR := [eqR .non, tupR [iR 3, iR 0], tupR [iR 2, iR 2], tupR [iR 0, iR (4 + (m : Int))], tupR [eqR (.bl true), iR 2], tupR [iR 0, eqR (.str "1")], tupR [iR 0, eqR (.bl true)], lstR [iR 0, iR 1]]
end
section
variable {K : PySem.W.Frag} {H : Hp}
theorem eq_of {x v : V} (h : (eqR x).r H v) : v = x := h
theorem tie_in {n : Nat} {p : Addr} {x : V} (hp : H p = some (.lst [x])) (h : TieT K H n x false) : TiesBad K H n (.ref p) := by
  refine .inr ⟨p, [x], rfl, .inr ⟨[false], ⟨SqL.of hp, (by show 1 ≤ 40; decide), rfl, fun i y b h1 h2 => ?_⟩, List.mem_cons_self⟩⟩
  match i, h1, h2 with
  | 0, h1, h2 =>
    cases h1
    cases h2
    exact h
  | i + 1, h1, _ => simp at h1
theorem tie2 {n : Nat} {x y v : V} (h : (tupR [eqR x, eqR y]).r H v) (b1 b2 : Bool) (h1 : NumT K H x b1) (h2 : NumT K H y b2) (hb : (b1 && b2) = false) : TieT K H n v false := by
  obtain ⟨p, vs, rfl, hp, ha⟩ := h
  obtain ⟨v, w, rfl, rfl, rfl⟩ := ha.two
  exact .inr ⟨p, _, rfl, SqT.of hp, .inr (.inl ⟨_, _, b1, b2, rfl, h1, h2, hb, rfl⟩)⟩
theorem tieI {n : Nat} {i j : Int} {v : V} (h : (tupR [eqR (.int i), eqR (.int j)]).r H v) : TieT K H n v (decide (0 ≤ i ∧ i < j ∧ j < (n : Int))) := by
  obtain ⟨p, vs, rfl, hp, ha⟩ := h
  obtain ⟨v, w, rfl, rfl, rfl⟩ := ha.two
  exact .inr ⟨p, _, rfl, SqT.of hp, .inr (.inr ⟨i, j, rfl, rfl⟩)⟩
theorem tieL {n : Nat} {Rs : List SR} {v : V} (h : (tupR Rs).r H v) (h2 : Rs.length ≠ 2) (hl : Rs.length ≤ 1000) : TieT K H n v false := by
  obtain ⟨p, vs, rfl, hp, ha⟩ := h
  exact .inr ⟨p, _, rfl, SqT.of hp, .inl ⟨by rw [ha.len]; exact h2, by rw [ha.len]; exact hl, rfl⟩⟩
theorem ties1 {n : Nat} {R : SR} {v : V} (h : (lstR [R]).r H v) (k : ∀ x, R.r H x → TieT K H n x false) : TiesBad K H n v := by
  obtain ⟨p, vs, rfl, hp, ha⟩ := h
  obtain ⟨x, rfl, hx⟩ := ha.one
  exact tie_in hp (k x hx)
theorem mov1 {L : Nat} {R : SR} {v : V} (h : (lstR [R]).r H v) (k : ∀ x, R.r H x → MovT K H L x false) : SomeX K H L v false := by
  obtain ⟨p, vs, rfl, hp, ha⟩ := h
  obtain ⟨x, rfl, hx⟩ := ha.one
  refine .inr ⟨p, [x], [false], rfl, ⟨SqL.of hp, (by show 1 ≤ 40; decide), rfl, fun i y b h1 h2 => ?_⟩, rfl⟩
  match i, h1, h2 with
  | 0, h1, h2 =>
    cases h1
    cases h2
    exact k x hx
  | i + 1, h1, _ => simp at h1

theorem mut_ne {D a : Addr} {l l' : List V} {o : HO} (hD : H D = some (.lst l)) (h : H a = some o) (n : ∀ l, o ≠ .lst l) : upd H D (.lst l') a = some o := by
  rw [upd_ne (fun e => by rw [e, hD] at h; exact n _ (Option.some.inj h).symm)]
  exact h
theorem _root_.L2.TyX.mutL {D : Addr} {l l' : List V} {x : V} {t : Value} (hD : H D = some (.lst l)) (h : TyX K H x t) : TyX K (upd H D (.lst l')) x t := by
  cases h with
  | base h =>
    refine .base ?_
    cases h with
    | non => exact .non
    | bl x => exact .bl x
    | int i => exact .int i
    | str x => exact .str x
    | flt x => exact .flt x
    | @lst a xs h =>
      by_cases e : a = D
      · subst e
        exact .lst upd_same
      · exact .lst (by rw [upd_ne e]; exact h)
    | frz h => exact .frz (mut_ne hD h fun _ q => by cases q)
    | tup h => exact .tup (mut_ne hD h fun _ q => by cases q)
    | dK h => exact .dK (mut_ne hD h fun _ q => by cases q)
    | dT h => exact .dT (mut_ne hD h fun _ q => by cases q)
    | ins h a b c d f => exact .ins (mut_ne hD h fun _ q => by cases q) a b c d f
  | byt b => exact .byt b
  | set h => exact .set (mut_ne hD h fun _ q => by cases q)
  | kList a b => exact .kList a b
  | kTuple a b => exact .kTuple a b
  | kDict a b => exact .kDict a b
  | fTuple h => exact .fTuple (mut_ne hD h fun _ q => by cases q)
  | fDict h => exact .fDict (mut_ne hD h fun _ q => by cases q)
theorem TieT.mutL {D : Addr} {l l' : List V} {n : Nat} {x : V} {b : Bool} (hD : H D = some (.lst l)) (h : TieT K H n x b) : TieT K (upd H D (.lst l')) n x b := by
  rcases h with ⟨⟨t, h1, h2⟩, rfl⟩ | ⟨c, ys, rfl, h1, h2⟩
  · exact .inl ⟨⟨t, h1.mutL hD, h2⟩, rfl⟩
  · refine .inr ⟨c, ys, rfl, ?_, ?_⟩
    · rcases h1 with (h | ⟨o, h⟩) | h
      · exact .inl (.inl (mut_ne hD h fun _ q => by cases q))
      · exact .inl (.inr ⟨o, mut_ne hD h fun _ q => by cases q⟩)
      · exact .inr h
    · rcases h2 with h2 | ⟨y, z, b1, b2, h3, ⟨t1, c1, c2, h4, h4'⟩, ⟨t2, d1, d2, h5, h5'⟩, h6⟩ | h2
      · exact .inl h2
      · exact .inr (.inl ⟨y, z, b1, b2, h3, ⟨t1, c1, c2, h4.mutL hD, h4'⟩, ⟨t2, d1, d2, h5.mutL hD, h5'⟩, h6⟩)
      · exact .inr (.inr h2)
theorem bad_all : ∀ (k : Nat) (R : SR) (H : Hp) (v : V), (bad14 ++ bad2)[k]? = some R → R.r H v → TiesBad K H 4 v
  | 0, _, H, _, h, g => by
    cases h
    cases eq_of g
    exact .inl .non
  | 1, _, H, _, h, g => by
    cases h
    obtain ⟨p, vs, rfl, hp, _⟩ := g
    exact .inl (.tup hp)
  | 2, _, H, _, h, g => by
    cases h
    obtain ⟨p, vs, rfl, hp, _⟩ := g
    exact .inl (.tup hp)
  | 3, _, H, _, h, g => by
    cases h
    cases eq_of g
    exact .inl .str
  | 4, _, H, _, h, g => by
    cases h
    cases eq_of g
    exact .inl .int
  | 5, _, H, _, h, g => by
    cases h
    obtain ⟨p, rfl, hp⟩ := g
    exact .inl (.dK hp)
  | 6, _, H, _, h, g => by
    cases h
    exact ties1 g fun x hx => by
      cases eq_of hx
      exact .inl ⟨.non, rfl⟩
  | 7, _, H, _, h, g => by
    cases h
    exact ties1 g fun x hx => by
      cases eq_of hx
      exact .inl ⟨.int, rfl⟩
  | 8, _, H, _, h, g => by
    cases h
    exact ties1 g fun x hx => by
      obtain ⟨p, vs, rfl, hp, _⟩ := hx
      exact .inl ⟨.lst hp, rfl⟩
  | 9, _, H, _, h, g => by
    cases h
    exact ties1 g fun x hx => tieL hx (by simp) (by simp)
  | 10, _, H, _, h, g => by
    cases h
    exact ties1 g fun x hx => tieL hx (by simp) (by simp)
  | 11, _, H, _, h, g => by
    cases h
    exact ties1 g fun x hx => tieI hx
  | 12, _, H, _, h, g => by
    cases h
    exact ties1 g fun x hx => tieI hx
  | 13, _, H, _, h, g => by
    cases h
    exact ties1 g fun x hx => tieI hx
  | 14, _, H, _, h, g => by
    cases h
    exact ties1 g fun x hx => tieI hx
  | 15, _, H, _, h, g => by
    cases h
    obtain ⟨p, vs, rfl, hp, hl⟩ := g
    exact .inr ⟨p, vs, rfl, .inl ⟨SqL.of hp, by omega, by omega⟩⟩
  | k + 16, _, _, _, h, _ => by simp [bad14, bad2] at h
theorem strange_all {m : Nat} : ∀ (k : Nat) (R : SR) (H : Hp) (v : V), (strange m)[k]? = some R → R.r H v → TieT K H 4 v false
  | 0, _, H, _, h, g => by
    cases h
    cases eq_of g
    exact .inl ⟨.non, rfl⟩
  | 1, _, H, _, h, g => by
    cases h
    exact tieI g
  | 2, _, H, _, h, g => by
    cases h
    exact tieI g
  | 3, _, H, _, h, g => by
    cases h
    have := tieI (K := K) (n := 4) g
    rw [decide_eq_false (by omega)] at this
    exact this
  | 4, _, H, _, h, g => by
    cases h
    exact tie2 g false true .bl .int rfl
  | 5, _, H, _, h, g => by
    cases h
    exact tie2 g true false .int .str rfl
  | 6, _, H, _, h, g => by
    cases h
    exact tie2 g true false .int .bl rfl
  | 7, _, H, _, h, g => by
    cases h
    obtain ⟨p, vs, rfl, hp, _⟩ := g
    exact .inl ⟨.lst hp, rfl⟩
  | k + 8, _, _, _, h, _ => by simp [strange] at h

def movesR (m : Nat) : List SR := [eqR .non, tupR [iR 0], eqR (.str "0"), dkR, iR 0, lstR [eqR .non], lstR [eqR (.str "0")], lstR [eqR (.bl true)], lstR [iR (-1)], lstR [iR (-1 - (m : Int))], lstR [iR 3], lstR [iR (3 + (m : Int))], lstR [iR 0, iR 0], lstR [lstR [iR 0]]]
theorem movI {L : Nat} {i : Int} {x : V} (h : (iR i).r H x) : MovT K H L x (decide (0 ≤ i ∧ i < (L : Int))) := .inr ⟨i, eq_of h, rfl⟩
def MovX (K : PySem.W.Frag) (H : Hp) (v : V) : Prop := SomeX K H 3 v false ∨ ∃ p, v = .ref p ∧ H p = some (.lst (natV [0, 0]))
theorem moves_all {m : Nat} : ∀ (k : Nat) (R : SR) (H : Hp) (v : V), (movesR m)[k]? = some R → R.r H v → MovX K H v
  | 0, _, H, _, h, g => by
    cases h
    cases eq_of g
    exact .inl (.inl ⟨.non, rfl⟩)
  | 1, _, H, _, h, g => by
    cases h
    obtain ⟨p, vs, rfl, hp, _⟩ := g
    exact .inl (.inl ⟨.tup hp, rfl⟩)
  | 2, _, H, _, h, g => by
    cases h
    cases eq_of g
    exact .inl (.inl ⟨.str, rfl⟩)
  | 3, _, H, _, h, g => by
    cases h
    obtain ⟨p, rfl, hp⟩ := g
    exact .inl (.inl ⟨.dK hp, rfl⟩)
  | 4, _, H, _, h, g => by
    cases h
    cases eq_of g
    exact .inl (.inl ⟨.int, rfl⟩)
  | 5, _, H, _, h, g => by
    cases h
    exact .inl (mov1 g fun x hx => by
      cases eq_of hx
      exact .inl ⟨.non, rfl⟩)
  | 6, _, H, _, h, g => by
    cases h
    exact .inl (mov1 g fun x hx => by
      cases eq_of hx
      exact .inl ⟨.str, rfl⟩)
  | 7, _, H, _, h, g => by
    cases h
    exact .inl (mov1 g fun x hx => by
      cases eq_of hx
      exact .inl ⟨.bl, rfl⟩)
  | 8, _, H, _, h, g => by
    cases h
    exact .inl (mov1 g fun x hx => movI hx)
  | 9, _, H, _, h, g => by
    cases h
    exact .inl (mov1 g fun x hx => by
      have := movI (K := K) (L := 3) hx
      rw [decide_eq_false (by omega)] at this
      exact this)
  | 10, _, H, _, h, g => by
    cases h
    exact .inl (mov1 g fun x hx => movI hx)
  | 11, _, H, _, h, g => by
    cases h
    exact .inl (mov1 g fun x hx => by
      have := movI (K := K) (L := 3) hx
      rw [decide_eq_false (by omega)] at this
      exact this)
  | 12, _, H, _, h, g => by
    cases h
    obtain ⟨p, vs, rfl, hp, ha⟩ := g
    obtain ⟨x, y, rfl, h1, h2⟩ := ha.two
    cases eq_of h1
    cases eq_of h2
    exact .inr ⟨p, rfl, hp⟩
  | 13, _, H, _, h, g => by
    cases h
    exact .inl (mov1 g fun x hx => by
      obtain ⟨p, vs, rfl, hp, _⟩ := hx
      exact .inl ⟨.lst hp, rfl⟩)
  | k + 14, _, _, _, h, _ => by simp [movesR] at h
theorem movL_nats {L : Nat} {p : Addr} {F : List Nat} (hp : H p = some (.lst (natV F))) (hF : ∀ i ∈ F, i < L) (hl : F.length ≤ 40) : SomeX K H L (.ref p) true := by
  refine .inr ⟨p, natV F, List.replicate F.length true, rfl, ⟨SqL.of hp, by rw [natV_len]; exact hl, by rw [natV_len, List.length_replicate], fun i x b h1 h2 => ?_⟩, (all_rep _).symm⟩
  obtain ⟨v, hv, rfl⟩ := natV_at h1
  have hb := List.eq_of_mem_replicate (List.mem_of_getElem? h2)
  subst hb
  have := hF v (List.mem_of_getElem? hv)
  exact .inr ⟨(v : Int), rfl, (decide_eq_true ⟨by omega, by omega⟩).symm⟩
theorem mov_bad {v : V} {p : Addr} (h : MovX K H v) (hp : H p = some (.lst (natV [1]))) : MovBad K H 3 v (.ref p) ∧ MovBad K H 3 (.ref p) v := by
  have h1 := movL_nats (K := K) (L := 3) hp (by decide) (by decide)
  rcases h with h | ⟨q, rfl, hq⟩
  · exact ⟨⟨_, _, h, h1, .inl rfl⟩, ⟨_, _, h1, h, .inl rfl⟩⟩
  · have h2 := movL_nats (K := K) (L := 3) hq (by decide) (by decide)
    exact ⟨⟨_, _, h2, h1, .inr ⟨q, p, [0, 0], [1], rfl, rfl, hq, hp, by decide, by decide⟩⟩, ⟨_, _, h1, h2, .inr ⟨p, q, [1], [0, 0], rfl, rfl, hp, hq, by decide, by decide⟩⟩⟩
/-- three people, three ties -/
def threeR : List SR := [tupR [iR 0, iR 1], tupR [iR 1, iR 2], tupR [iR 0, iR 2]]
theorem three_good {p : Addr} {vs : List V} (hp : H p = some (.lst vs)) (ha : AllR threeR H vs) : GoodW K H (.int ((3 : Nat) : Int)) (.ref p) 3 := by
  refine ⟨3, p, vs, [true, true, true], rfl, by decide, by decide, rfl, ⟨SqL.of hp, by rw [ha.len]; decide, by rw [ha.len]; rfl, fun i x b h1 h2 => ?_⟩, rfl, ha.len⟩
  have hi : i < threeR.length := by
    rw [← ha.len]
    exact (List.getElem?_eq_some_iff.mp h1).1
  have hR : threeR[i]? = some threeR[i] := List.getElem?_eq_getElem hi
  obtain ⟨v, hv, hr⟩ := ha.get hR
  rw [h1] at hv
  cases hv
  match i, hi, h2, hr with
  | 0, _, h2, hr =>
    cases h2
    exact tieI hr
  | 1, _, h2, hr =>
    cases h2
    exact tieI hr
  | 2, _, h2, hr =>
    cases h2
    exact tieI hr
end
end Jp
end
section
set_option Elab.async false
set_option linter.all false
set_option pp.maxSteps 1200
set_option pp.deepTerms false
set_option maxRecDepth 100000
set_option maxHeartbeats 4000000
namespace Jp
open PySem L2
section
variable {P : Program} {w : World} {K : PySem.W.Frag} {mg : Str → Option Value} {base : Heap}
theorem AskBad.from {T : Tx K mg} {H H' : Hp} {p t : V} {E : XK} (h : AskBad T H p t E) (e : Same H H') : AskBad T H' p t E := by
  rcases h with ⟨h, q⟩ | ⟨n, rfl, h2, h10, h, q⟩
  · exact .inl ⟨h.same e, fun H2 s => q H2 (e.trans s)⟩
  · exact .inr ⟨n, rfl, h2, h10, h.same e, fun H2 s => q H2 (e.trans s)⟩
def spWithX (T : Tx K mg) : Sp := fun vs H Q E => ∃ (d : Int) (p t : V), vs = [.int d, p, t] ∧ AskBad T H p t E
abbrev N__law_with_web : List Str := ["_law_door", "_law_people", "_law_ties"]
theorem sc__law_with_web : FnScope N__law_with_web ["_law_door", "_law_people", "_law_ties"] (defScope s__law_with_web) := ⟨rfl, rfl, rfl, by decide +kernel, rfl, by decide +kernel, by decide +kernel⟩
-- slots: _law_door 0, _law_people 1, _law_ties 2
theorem okx__law_with_web (T : Tx K mg) : FnOk P w K mg base (L2N.CX P w) 7 T.f__law_with_web T.d__law_with_web ["_law_door", "_law_people", "_law_ties"] (spWithX T) := by
  refine T.F__law_with_web.okN sc__law_with_web (fun vs H Q E h => ?_) (fun cdv A outer s H vs Q E hr h => ?_)
  · obtain ⟨d, p, t, rfl, _⟩ := h
    rfl
  · obtain ⟨d, p, t, rfl, h⟩ := h
    have nd := sc__law_with_web.nd
    refine ⟨_, (pss_cons (ps_if (pt_cmpR op_lt (pv 0) pe_int (nomark _)) 
        (pss_one (ps_ret (pe_ifExp (pt_cmpR op_eq (pv 0) pe_int (nomark _)) (pe_callS (okx_trees T) (hr.mono (by decide)) (by rfl) T.g_trees T.F_trees.kp T.b_trees (fun σ => L2N.passAt (L2N.takes_of rfl rfl rfl rfl) σ) (pa_cons (pv 1) (pa_cons (pv 2) (pa_cons pe_non pa_nil)))) (pe_callS (okx_most T) (hr.mono (by decide)) (by rfl) T.g_most T.F_most.kp T.b_most (fun σ => L2N.passAt (L2N.takes_of rfl rfl rfl rfl) σ) (pa_cons (pv 1) (pa_cons (pv 2) pa_nil)))))) pss_nil)
      (pss_cons (ps_if (pt_cmpR op_eq (pv 0) pe_int (nomark _)) 
        (pss_one (ps_ret (pe_callS (okx_held T) (hr.mono (by decide)) (by rfl) T.g_held T.F_held.kp T.b_held (fun σ => L2N.passAt (L2N.takes_of rfl rfl rfl rfl) σ) (pa_cons (pv 1) (pa_cons (pv 2) (pa_cons pe_non (pa_cons (pe_lst pa_nil) pa_nil))))))) pss_nil)
      (pss_one (ps_ret (pe_ifExp (pt_cmpR op_eq (pv 0) pe_int (nomark _)) (pe_callS (okx_to_cut T) (hr.mono (by decide)) (by rfl) T.g_to_cut T.F_to_cut.kp T.b_to_cut (fun σ => L2N.passAt (L2N.takes_of rfl rfl rfl rfl) σ) (pa_cons (pv 1) (pa_cons (pv 2) (pa_cons (pe_lst (pa_cons (pe_un un_neg pe_int) pa_nil)) (pa_cons (pe_lst pa_nil) pa_nil))))) (pe_callS (okx_to_join T) (hr.mono (by decide)) (by rfl) T.g_to_join T.F_to_join.kp T.b_to_join (fun σ => L2N.passAt (L2N.takes_of rfl rfl rfl rfl) σ) (pa_cons (pv 1) (pa_cons (pv 2) (pa_cons (pe_lst (pa_cons pe_int (pa_cons pe_int pa_nil))) (pa_cons pe_non pa_nil)))))))))), ?_⟩
    refine ⟨_, rfl, _, _, rfl, rfl, _, rfl, ite2 (fun _ => ?_) (fun _ => ?_)⟩
    · refine ⟨_, rfl, rfl, _, rfl, ite2 (fun _ => ?_) (fun _ => ?_)⟩
      · exact ⟨_, rfl, _, rfl, p, t, .non, rfl, .inl h⟩
      · exact ⟨_, rfl, _, rfl, p, t, rfl, h⟩
    · refine ⟨_, rfl, rfl, _, rfl, ite2 (fun _ => ?_) (fun _ => ?_)⟩
      · refine ⟨_, rfl, _, rfl, Nat.zero_le _, fun l nl => ?_⟩
        exact ⟨p, t, .non, .ref l, rfl, .inl (h.from (same_new nl))⟩
      · refine ⟨_, rfl, rfl, _, rfl, ite2 (fun _ => ?_) (fun _ => ?_)⟩
        · refine ⟨_, rfl, _, rfl, 1, rfl, sml (by show 1 ≤ 100000; decide), fun l nl => ⟨Nat.zero_le _, fun l2 nl2 => ?_⟩⟩
          exact ⟨p, t, .ref l, .ref l2, rfl, .inl (h.from ((same_new nl).trans (same_new nl2)))⟩
        · refine ⟨_, rfl, _, rfl, sml (by show 2 ≤ 100000; decide), fun l nl => ?_⟩
          exact ⟨p, t, .ref l, .non, rfl, .inl (h.from (same_new nl))⟩
def spBadTies (K : PySem.W.Frag) : Sp := fun vs H Q _ => ∃ (z m : Nat), vs = [.int (z : Int), .int (m : Int)] ∧ z ≤ 100000 ∧ m ≤ 1000 ∧ ∀ H' v, Same H H' → TiesBad K H' 4 v → Q v H'
abbrev N__law_bad_ties : List Str := ["_law_which", "_law_more", "_law_bad", "_law_ties", "_law_strange", "_law_at"]
theorem sc__law_bad_ties : FnScope N__law_bad_ties ["_law_which", "_law_more"] (defScope s__law_bad_ties) := ⟨rfl, rfl, rfl, by decide +kernel, rfl, by decide +kernel, by decide +kernel⟩
-- slots: _law_which 0, _law_more 1, _law_bad 2, _law_ties 3, _law_strange 4, _law_at 5
theorem ok__law_bad_ties (T : Tx K mg) : FnOk P w K mg base CX0 1 T.f__law_bad_ties T.d__law_bad_ties ["_law_which", "_law_more"] (spBadTies K) := by
  refine T.F__law_bad_ties.ok sc__law_bad_ties (fun vs H Q E h => ?_) (fun cdv A outer s H vs Q E hr h => ?_)
  · obtain ⟨z, m, rfl, _⟩ := h
    rfl
  · obtain ⟨z, m, rfl, hz, hm, q⟩ := h
    have nd := sc__law_bad_ties.nd
    refine ⟨_, (pss_cons (ps_set (i := 2) nd rfl (.inl rfl) (pe_lst (pa_cons pe_non (pa_cons (pe_tup pa_nil) (pa_cons (pe_tup (pa_cons (pe_tup (pa_cons pe_int (pa_cons pe_int pa_nil))) pa_nil)) (pa_cons pe_str (pa_cons pe_int (pa_cons pe_dnewK (pa_cons (pe_lst (pa_cons pe_non pa_nil)) (pa_cons (pe_lst (pa_cons pe_int pa_nil)) (pa_cons (pe_lst (pa_cons (pe_lst (pa_cons pe_int (pa_cons pe_int pa_nil))) pa_nil)) (pa_cons (pe_lst (pa_cons (pe_tup (pa_cons pe_int pa_nil)) pa_nil)) (pa_cons (pe_lst (pa_cons (pe_tup (pa_cons pe_int (pa_cons pe_int (pa_cons pe_int pa_nil)))) pa_nil)) (pa_cons (pe_lst (pa_cons (pe_tup (pa_cons pe_int (pa_cons pe_int pa_nil))) pa_nil)) (pa_cons (pe_lst (pa_cons (pe_tup (pa_cons pe_int (pa_cons pe_int pa_nil))) pa_nil)) (pa_cons (pe_lst (pa_cons (pe_tup (pa_cons pe_int (pa_cons pe_int pa_nil))) pa_nil)) pa_nil))))))))))))))))
      (pss_cons (ps_set (i := 2) nd rfl (.inl rfl) (pe_op op_cat (pv 2) (pe_lst (pa_cons (pe_lst (pa_cons (pe_tup (pa_cons (pe_un un_neg pe_int) (pa_cons pe_int pa_nil))) pa_nil)) (pa_cons (pe_op op_rep (pe_lst (pa_cons (pe_tup (pa_cons pe_int (pa_cons pe_int pa_nil))) pa_nil)) pe_int) pa_nil)))))
      (pss_cons (ps_if (pt_cmpR op_lt (pe_op op_modN (pv 0) pe_int) pe_int (nomark _)) 
        (pss_one (ps_ret (pe_ix ix_list (pv 2) (pe_op op_modN (pv 0) pe_int) (fun _ _ => rfl)))) pss_nil)
      (pss_cons (ps_setLc (i := 3) (own := [("_law_at", 5)]) (g := (gName 5)) (tt := tYes) (te := (tTup (tCons (tOp _ (tVar 5) _) (tCons _ tNil)))) rfl nd rfl rfl (sw_true rfl rfl rfl (by decide +kernel)) (pi_range1 (by rfl) T.z_range (pa_cons (pe_op op_add pe_int (pe_op op_modN (pv 1) pe_int)) pa_nil)) (blkOk_by (own := [("_law_at", 5)]) (N := N__law_bad_ties) (sc := (defScope s__law_bad_ties)) (by decide +kernel)) (fun _ _ _ _ _ => (pg_name (i := 5) nd rfl (.inl rfl))) (fun _ _ _ _ _ => pts_nil) (fun _ _ _ _ _ => (pe_tup (pa_cons (pe_op op_modN (pv 5) pe_int) (pa_cons pe_int pa_nil)))))
      (pss_cons (ps_set (i := 4) nd rfl (.inl rfl) (pe_ix ix_list (pe_lst (pa_cons pe_non (pa_cons (pe_tup (pa_cons pe_int (pa_cons pe_int pa_nil))) (pa_cons (pe_tup (pa_cons pe_int (pa_cons pe_int pa_nil))) (pa_cons (pe_tup (pa_cons pe_int (pa_cons (pe_op op_add pe_int (pv 1)) pa_nil))) (pa_cons (pe_tup (pa_cons pe_bl (pa_cons pe_int pa_nil))) (pa_cons (pe_tup (pa_cons pe_int (pa_cons pe_str pa_nil))) (pa_cons (pe_tup (pa_cons pe_int (pa_cons pe_bl pa_nil))) (pa_cons (pe_lst (pa_cons pe_int (pa_cons pe_int pa_nil))) pa_nil))))))))) (pe_op op_sub (pe_op op_modN (pv 0) pe_int) pe_int) (fun _ _ => rfl)))
      (pss_cons (ps_asg (pv 4) (pg_sub (pv 3) (pe_op op_modN (pe_op op_fdivN (pv 0) pe_int) (pe_callB call_len_seq (by rfl) T.z_len PySem.boot_len (pa_cons (pv 3) pa_nil))) set_list))
      (pss_one (ps_ret (pv 3))))))))), ?_⟩
    have hk24 := fmod_bd (z : Int) (j := 24) (by decide)
    obtain ⟨k, hk⟩ : ∃ k : Nat, (z : Int).fmod 24 = (k : Int) := ⟨((z : Int).fmod 24).toNat, by omega⟩
    -- bad
    refine asg_mk (R := lstR bad14) (Mk.lst (MkA.cons Mk.c (MkA.cons (Mk.tup MkA.nil) (MkA.cons (Mk.tup (MkA.cons (Mk.tup (MkA.cons Mk.c (MkA.cons Mk.c MkA.nil))) MkA.nil)) (MkA.cons Mk.c (MkA.cons Mk.c (MkA.cons Mk.dk (MkA.cons (Mk.lst (MkA.cons Mk.c MkA.nil)) (MkA.cons (Mk.lst (MkA.cons Mk.c MkA.nil)) (MkA.cons (Mk.lst (MkA.cons (Mk.lst (MkA.cons Mk.c (MkA.cons Mk.c MkA.nil))) MkA.nil)) (MkA.cons (Mk.lst (MkA.cons (Mk.tup (MkA.cons Mk.c MkA.nil)) MkA.nil)) (MkA.cons (Mk.lst (MkA.cons (Mk.tup (MkA.cons Mk.c (MkA.cons Mk.c (MkA.cons Mk.c MkA.nil)))) MkA.nil)) (MkA.cons (Mk.lst (MkA.cons (Mk.tup (MkA.cons Mk.c (MkA.cons Mk.c MkA.nil))) MkA.nil)) (MkA.cons (Mk.lst (MkA.cons (Mk.tup (MkA.cons Mk.c (MkA.cons Mk.c MkA.nil))) MkA.nil)) (MkA.cons (Mk.lst (MkA.cons (Mk.tup (MkA.cons Mk.c (MkA.cons Mk.c MkA.nil))) MkA.nil)) MkA.nil)))))))))))))) (by decide)) fun H1 v1 s1 hv1 => ?_
    obtain ⟨p1, vs1, rfl, hp1, ha1⟩ := hv1
    refine asg_cat (Ss := bad2) rfl hp1 ha1 (Mk.lst (MkA.cons (Mk.lst (MkA.cons (Mk.tup (MkA.cons Mk.neg (MkA.cons Mk.c MkA.nil))) MkA.nil)) (MkA.cons (Mk.rep (Mk.lst (MkA.cons (Mk.tup (MkA.cons Mk.c (MkA.cons Mk.c MkA.nil))) MkA.nil))) MkA.nil)) (by decide)) (by decide) fun H3 p3 vs3 s3 hp3 ha3 => ?_
    have s03 := s1.trans s3
    -- if which % 24 < 16
    refine ⟨_, rfl, _, _, rfl, rfl, (by show (24 : Int) ≠ 0; decide), _, _, rfl, rfl, _, rfl, ?_⟩
    rw [hk]
    by_cases h16 : k < 16
    · rw [decide_eq_true (by omega)]
      refine iteT ?_
      have hkl : k < (bad14 ++ bad2).length := h16
      have hR : (bad14 ++ bad2)[k]? = some (bad14 ++ bad2)[k] := List.getElem?_eq_getElem hkl
      obtain ⟨v, hv, hRv⟩ := ha3.get hR
      refine ⟨_, rfl, _, rfl, _, _, rfl, rfl, (by show (24 : Int) ≠ 0; decide), p3, _, _, _, rfl, (by dsimp only; rw [hk]), SqL.of hp3, atI_nat hv, ?_⟩
      exact q H3 v s03 (bad_all k _ H3 v hR hRv)
    · rw [decide_eq_false (by omega)]
      refine iteF ?_
      have h24 : k < 24 := by omega
      -- ties
      have h30 := fmod_bd (m : Int) (j := 30) (by decide)
      obtain ⟨l, hl⟩ : ∃ l : Nat, 2 + (m : Int).fmod 30 = (l : Int) := ⟨(2 + (m : Int).fmod 30).toNat, by omega⟩
      refine ⟨_, rfl, _, _, rfl, rfl, (by show (30 : Int) ≠ 0; decide), _, _, rfl, rfl, (l : Int), (by dsimp only; rw [hl]), by omega, by omega, fun D hD => lc_range (lo := 0) (n := ((l : Int)).toNat) (fun i H4 => Same H3 H4 ∧ H3 D = none ∧ ∃ cs : List Addr, cs.length = i ∧ H4 D = some (.lst (cs.map V.ref)) ∧ ∀ c ∈ cs, ∃ r : Nat, r ≤ 2 ∧ H4 c = some (.tup [.int (r : Int), .int 3]))
        ⟨same_new hD, hD, [], rfl, upd_same, by simp⟩ ?_ ?_⟩
      · rintro i H4 hi ⟨s4, nD, cs, hcl, hD4, hcs⟩
        rw [Int.zero_add]
        have h3 := fmod_bd (i : Int) (j := 3) (by decide)
        obtain ⟨r, hr⟩ : ∃ r : Nat, (i : Int).fmod 3 = (r : Int) := ⟨((i : Int).fmod 3).toNat, by omega⟩
        refine ⟨rfl, _, rfl, _, _, rfl, rfl, (by show (3 : Int) ≠ 0; decide), sml (by show 2 ≤ 100000; decide), fun c nc => ?_⟩
        dsimp only
        rw [hr]
        have s5 : Same H4 (upd H4 c (.tup [.int (r : Int), .int 3])) := same_new nc
        have hc5 : upd H4 c (.tup [.int (r : Int), .int 3]) c = some (.tup [.int (r : Int), .int 3]) := upd_same
        generalize upd H4 c (.tup [.int (r : Int), .int 3]) = H5 at s5 hc5
        refine ⟨_, s5 _ _ hD4, sml1 (by rw [List.length_map]; omega), same_mut (s4.trans s5) nD, nD, cs ++ [c], ?_, ?_, fun c' hc' => ?_⟩
        · rw [List.length_append, hcl]
          rfl
        · rw [upd_same, List.map_append]
          rfl
        · rcases List.mem_append.mp hc' with h | h
          · obtain ⟨r', h1, h2⟩ := hcs c' h
            refine ⟨r', h1, ?_⟩
            rw [upd_ne (fun e => by rw [e, hD4] at h2; cases h2)]
            exact s5 _ _ h2
          · rw [List.mem_singleton] at h
            rw [h]
            refine ⟨r, by omega, ?_⟩
            rw [upd_ne (fun e => by have h1 := s5 _ _ hD4; rw [← e, hc5] at h1; cases h1)]
            exact hc5
      rintro H4 ⟨s4, nD, cs, hcl, hD4, hcs⟩
      have hcl' : cs.length = l := by omega
      have hl2 : 2 ≤ l := by omega
      have hl31 : l ≤ 31 := by omega
      -- strange
      obtain ⟨k', rfl⟩ : ∃ k', k = k' + 16 := ⟨k - 16, by omega⟩
      have hkl : k' < (strange m).length := by show k' < 8; omega
      have hR : (strange m)[k']? = some (strange m)[k'] := List.getElem?_eq_getElem hkl
      refine asg_ix (Rs := strange m) (m := k') (Mk.lst (MkA.cons Mk.c (MkA.cons (Mk.tup (MkA.cons Mk.c (MkA.cons Mk.c MkA.nil))) (MkA.cons (Mk.tup (MkA.cons Mk.c (MkA.cons Mk.c MkA.nil))) (MkA.cons (Mk.tup (MkA.cons Mk.c (MkA.cons (Mk.of fun H Q q => ⟨_, rfl, _, _, rfl, rfl, q⟩) MkA.nil))) (MkA.cons (Mk.tup (MkA.cons Mk.c (MkA.cons Mk.c MkA.nil))) (MkA.cons (Mk.tup (MkA.cons Mk.c (MkA.cons Mk.c MkA.nil))) (MkA.cons (Mk.tup (MkA.cons Mk.c (MkA.cons Mk.c MkA.nil))) (MkA.cons (Mk.lst (MkA.cons Mk.c (MkA.cons Mk.c MkA.nil))) MkA.nil)))))))) (by show 8 ≤ 1000; decide)) (fun H Q q => ⟨_, rfl, _, _, rfl, rfl, (by show (24 : Int) ≠ 0; decide), _, _, rfl, rfl, (by dsimp only; rw [hk, show (((k' + 16 : Nat) : Int) - 16) = (k' : Int) by omega]; exact q)⟩) hR fun H5 v s5 hRv => ?_
      have hTv := strange_all (K := K) k' _ H5 v hR hRv
      have hD5 := s5 _ _ hD4
      have hel := fmod_bd ((z : Int).fdiv 24) (j := (l : Int)) (by omega)
      obtain ⟨e, he⟩ : ∃ e : Nat, ((z : Int).fdiv 24).fmod (l : Int) = (e : Int) := ⟨(((z : Int).fdiv 24).fmod (l : Int)).toNat, by omega⟩
      have hcm : (cs.map V.ref).length = l := by rw [List.length_map, hcl']
      refine ⟨_, rfl, _, rfl, _, rfl, _, _, rfl, rfl, ⟨by decide, by decide⟩, _, rfl, D, _, rfl, .inl (SqL.of hD5), _, _, rfl, rfl, (by rw [hcm]; omega), D, _, _, e, rfl, (by dsimp only; rw [hcm, he]), hD5, Evl.ixN_nat (by rw [hcm]; omega), ?_⟩
      refine ⟨_, rfl, ?_⟩
      have s05 := s03.trans (s4.trans s5)
      have nDH : H D = none := s03.free nD
      refine q _ _ (same_mut s05 nDH) (.inr ⟨D, _, rfl, .inr ⟨(List.replicate l true).set e false, ⟨SqL.of upd_same, ?_, ?_, fun i x b h1 h2 => ?_⟩, ?_⟩⟩)
      · rw [List.length_set, hcm]
        omega
      · rw [List.length_set, List.length_set, List.length_replicate, hcm]
      · rw [List.getElem?_set] at h1 h2
        by_cases hie : e = i
        · subst hie
          rw [if_pos rfl, if_pos (by rw [hcm]; omega)] at h1
          rw [if_pos rfl, if_pos (by rw [List.length_replicate]; omega)] at h2
          cases h1
          cases h2
          exact hTv.mutL hD5
        · rw [if_neg hie] at h1 h2
          have hb := List.eq_of_mem_replicate (List.mem_of_getElem? h2)
          subst hb
          obtain ⟨c, hc, rfl⟩ := List.mem_map.mp (List.mem_of_getElem? h1)
          obtain ⟨r, hr2, hcr⟩ := hcs c hc
          have hcr5 := s5 _ _ hcr
          refine .inr ⟨c, _, rfl, SqT.of (by rw [upd_ne (fun e => by rw [e, hD5] at hcr5; cases hcr5)]; exact hcr5), .inr (.inr ⟨(r : Int), 3, rfl, ?_⟩)⟩
          exact (decide_eq_true ⟨by omega, by omega, by decide⟩).symm
      · refine List.mem_of_getElem? (i := e) ?_
        rw [List.getElem?_set, if_pos rfl, if_pos (by rw [List.length_replicate]; omega)]
def spBadMoves (T : Tx K mg) : Sp := fun vs H Q E => ∃ (z m : Nat), vs = [.int (z : Int), .int (m : Int)] ∧ z ≤ 100000 ∧ m ≤ 1000 ∧ ∀ H', Same H H' → E (.ref T.c_BadMoves) none H'
abbrev N__law_moves : List Str := ["_law_which", "_law_more", "_law_bad", "_law_door", "_law_fast", "_law_cut", "_law_ties"]
theorem sc__law_moves : FnScope N__law_moves ["_law_which", "_law_more"] (defScope s__law_moves) := ⟨rfl, rfl, rfl, by decide +kernel, rfl, by decide +kernel, by decide +kernel⟩
-- slots: _law_which 0, _law_more 1, _law_bad 2, _law_door 3, _law_fast 4, _law_cut 5, _law_ties 6
theorem okx__law_moves (T : Tx K mg) : FnOk P w K mg base (L2N.CX P w) 7 T.f__law_moves T.d__law_moves ["_law_which", "_law_more"] (spBadMoves T) := by
  refine T.F__law_moves.okN sc__law_moves (fun vs H Q E h => ?_) (fun cdv A outer s H vs Q E hr h => ?_)
  · obtain ⟨z, m, rfl, _⟩ := h
    rfl
  · obtain ⟨z, m, rfl, hz, hm, q⟩ := h
    have nd := sc__law_moves.nd
    refine ⟨_, (pss_cons (ps_set (i := 2) nd rfl (.inl rfl) (pe_ix ix_list (pe_lst (pa_cons pe_non (pa_cons (pe_tup (pa_cons pe_int pa_nil)) (pa_cons pe_str (pa_cons pe_dnewK (pa_cons pe_int (pa_cons (pe_lst (pa_cons pe_non pa_nil)) (pa_cons (pe_lst (pa_cons pe_str pa_nil)) (pa_cons (pe_lst (pa_cons pe_bl pa_nil)) (pa_cons (pe_lst (pa_cons (pe_un un_neg pe_int) pa_nil)) (pa_cons (pe_lst (pa_cons (pe_op op_sub (pe_un un_neg pe_int) (pv 1)) pa_nil)) (pa_cons (pe_lst (pa_cons pe_int pa_nil)) (pa_cons (pe_lst (pa_cons (pe_op op_add pe_int (pv 1)) pa_nil)) (pa_cons (pe_lst (pa_cons pe_int (pa_cons pe_int pa_nil))) (pa_cons (pe_lst (pa_cons (pe_lst (pa_cons pe_int pa_nil)) pa_nil)) pa_nil))))))))))))))) (pe_op op_modN (pv 0) pe_int) (fun _ _ => rfl)))
      (pss_cons (ps_set (i := 3) nd rfl (.inl rfl) (pe_op op_modN (pe_op op_fdivN (pv 0) pe_int) pe_int))
      (Evl.pss_cut (ps_asg (pe_ifExp (pt_cmpR op_lt (pv 3) pe_int (nomark _)) (pe_tup (pa_cons (pv 2) (pa_cons (pe_lst (pa_cons pe_int pa_nil)) pa_nil))) (pe_tup (pa_cons (pe_lst (pa_cons pe_int pa_nil)) (pa_cons (pv 2) pa_nil)))) (pg_tup rfl (pgs_cons (pg_name (i := 4) nd rfl (.inl rfl)) (pgs_cons (pg_name (i := 5) nd rfl (.inl rfl)) pgs_nil))))
      (pss_cons (ps_set (i := 6) nd rfl (.inl rfl) (pe_lst (pa_cons (pe_tup (pa_cons pe_int (pa_cons pe_int pa_nil))) (pa_cons (pe_tup (pa_cons pe_int (pa_cons pe_int pa_nil))) (pa_cons (pe_tup (pa_cons pe_int (pa_cons pe_int pa_nil))) pa_nil)))))
      (pss_cons (ps_if (pt_cmpR op_eq (pe_op op_modN (pv 3) pe_int) pe_int (nomark _)) 
        (pss_one (ps_ret (pe_callS (okx_held T) (hr.mono (by decide)) (by rfl) T.g_held T.F_held.kp T.b_held (fun σ => L2N.passAt (L2N.takes_of rfl rfl rfl rfl) σ) (pa_cons pe_int (pa_cons (pv 6) (pa_cons (pv 4) (pa_cons (pv 5) pa_nil))))))) pss_nil)
      (pss_one (ps_ret (pe_ifExp (pt_cmpR op_eq (pe_op op_modN (pv 3) pe_int) pe_int (nomark _)) (pe_callS (okx_to_cut T) (hr.mono (by decide)) (by rfl) T.g_to_cut T.F_to_cut.kp T.b_to_cut (fun σ => L2N.passAt (L2N.takes_of rfl rfl rfl rfl) σ) (pa_cons pe_int (pa_cons (pv 6) (pa_cons (pv 4) (pa_cons (pv 5) pa_nil))))) (pe_callS (okx_to_join T) (hr.mono (by decide)) (by rfl) T.g_to_join T.F_to_join.kp T.b_to_join (fun σ => L2N.passAt (L2N.takes_of rfl rfl rfl rfl) σ) (pa_cons pe_int (pa_cons (pv 6) (pa_cons (pv 4) (pa_cons (pv 5) pa_nil))))))))))))), ?_⟩
    have hk14 := fmod_bd (z : Int) (j := 14) (by decide)
    obtain ⟨k, hk⟩ : ∃ k : Nat, (z : Int).fmod 14 = (k : Int) := ⟨((z : Int).fmod 14).toNat, by omega⟩
    have hkl : k < (movesR m).length := by show k < 14; omega
    have hR : (movesR m)[k]? = some (movesR m)[k] := List.getElem?_eq_getElem hkl
    -- bad
    refine asg_ix (Rs := movesR m) (m := k) (Mk.lst (MkA.cons Mk.c (MkA.cons (Mk.tup (MkA.cons Mk.c MkA.nil)) (MkA.cons Mk.c (MkA.cons Mk.dk (MkA.cons Mk.c (MkA.cons (Mk.lst (MkA.cons Mk.c MkA.nil)) (MkA.cons (Mk.lst (MkA.cons Mk.c MkA.nil)) (MkA.cons (Mk.lst (MkA.cons Mk.c MkA.nil)) (MkA.cons (Mk.lst (MkA.cons Mk.neg MkA.nil)) (MkA.cons (Mk.lst (MkA.cons (Mk.of fun H Q q => ⟨1, rfl, _, rfl, _, _, rfl, rfl, q⟩) MkA.nil)) (MkA.cons (Mk.lst (MkA.cons Mk.c MkA.nil)) (MkA.cons (Mk.lst (MkA.cons (Mk.of fun H Q q => ⟨_, rfl, _, _, rfl, rfl, q⟩) MkA.nil)) (MkA.cons (Mk.lst (MkA.cons Mk.c (MkA.cons Mk.c MkA.nil))) (MkA.cons (Mk.lst (MkA.cons (Mk.lst (MkA.cons Mk.c MkA.nil)) MkA.nil)) MkA.nil)))))))))))))) (by show 14 ≤ 1000; decide)) (fun H Q q => ⟨_, rfl, _, _, rfl, rfl, (by show (14 : Int) ≠ 0; decide), (by dsimp only; rw [hk]; exact q)⟩) hR fun H1 v s1 hRv => ?_
    have hX := moves_all (K := K) k _ H1 v hR hRv
    -- door
    refine ⟨_, rfl, _, _, rfl, rfl, ⟨by decide, by decide⟩, _, _, rfl, rfl, (by show (6 : Int) ≠ 0; decide), ?_⟩
    dsimp only
    generalize ((z : Int).fdiv 14).fmod 6 = d
    -- fast, cut
    refine ⟨fun σ H2 => ∃ f x : V, σ = [some (.int (z : Int)), some (.int (m : Int)), some v, some (.int d), some f, some x, none] ∧ Same H1 H2 ∧ MovBad K H2 3 f x, ?_, ?_⟩
    · have two : ∀ l tp, H1 l = none → (upd H1 l (.lst [.int 1])) tp = none → ∀ o, Same H1 (upd (upd H1 l (.lst [.int 1])) tp o) ∧ (MovBad K (upd (upd H1 l (.lst [.int 1])) tp o) 3 v (.ref l) ∧ MovBad K (upd (upd H1 l (.lst [.int 1])) tp o) 3 (.ref l) v) := fun l tp nl ntp o => by
        have t1 : Same H1 (upd H1 l (.lst [.int 1])) := same_new nl
        have t2 : Same (upd H1 l (.lst [.int 1])) (upd (upd H1 l (.lst [.int 1])) tp o) := same_new ntp
        have hX2 := moves_all (K := K) k _ _ v hR ((movesR m)[k].st (t1.trans t2) hRv)
        exact ⟨t1.trans t2, mov_bad hX2 (t2 _ _ upd_same)⟩
      refine ⟨_, rfl, _, _, rfl, rfl, _, rfl, ite2 (fun _ => ?_) (fun _ => ?_)⟩
      · refine ⟨_, rfl, sml (by show 1 ≤ 100000; decide), fun l nl => ⟨sml (by show 2 ≤ 100000; decide), fun tp ntp => ?_⟩⟩
        obtain ⟨s2, hb, _⟩ := two l tp nl ntp (.tup [v, .ref l])
        refine ⟨tp, _, rfl, SqT.of upd_same, rfl, _, _, rfl, _, _, rfl, rfl, ?_⟩
        exact ⟨_, _, rfl, s2, hb⟩
      · refine ⟨sml (by show 1 ≤ 100000; decide), fun l nl => ⟨_, rfl, sml (by show 2 ≤ 100000; decide), fun tp ntp => ?_⟩⟩
        obtain ⟨s2, _, hb⟩ := two l tp nl ntp (.tup [.ref l, v])
        refine ⟨tp, _, rfl, SqT.of upd_same, rfl, _, _, rfl, _, _, rfl, rfl, ?_⟩
        exact ⟨_, _, rfl, s2, hb⟩
    rintro σ H2 ⟨f, x, rfl, s2, hb⟩
    -- ties
    refine asg_mk (R := lstR threeR) (Mk.lst (MkA.cons (Mk.tup (MkA.cons Mk.c (MkA.cons Mk.c MkA.nil))) (MkA.cons (Mk.tup (MkA.cons Mk.c (MkA.cons Mk.c MkA.nil))) (MkA.cons (Mk.tup (MkA.cons Mk.c (MkA.cons Mk.c MkA.nil))) MkA.nil))) (by decide)) fun H3 v3 s3 hv3 => ?_
    obtain ⟨p, vs, rfl, hp, ha⟩ := hv3
    have hG := three_good (K := K) hp ha
    have hb3 := hb.same s3
    have s03 := s1.trans (s2.trans s3)
    have qE : ∀ H', Same H3 H' → E (.ref T.c_BadMoves) none H' := fun H' s => q H' (s03.trans s)
    refine ⟨_, rfl, _, _, rfl, rfl, (by show (3 : Int) ≠ 0; decide), rfl, _, rfl, ite2 (fun _ => ?_) (fun _ => ?_)⟩
    · exact ⟨_, rfl, _, rfl, _, rfl, _, .ref p, f, x, rfl, .inr ⟨3, hG, hb3, qE⟩⟩
    · refine ⟨_, rfl, _, _, rfl, rfl, (by show (3 : Int) ≠ 0; decide), rfl, _, rfl, ite2 (fun _ => ?_) (fun _ => ?_)⟩
      · exact ⟨_, rfl, _, rfl, _, rfl, _, .ref p, f, x, rfl, .inr ⟨3, hG, hb3, qE⟩⟩
      · exact ⟨_, rfl, _, rfl, _, rfl, _, .ref p, f, x, rfl, .inr ⟨3, hG, hb3, qE⟩⟩
end
end Jp
end
section
set_option Elab.async false
set_option linter.all false
set_option pp.maxSteps 1200
set_option pp.deepTerms false
set_option maxRecDepth 100000
set_option maxHeartbeats 4000000
namespace Jp
open PySem L2
section
variable {P : Program} {w : World} {K : PySem.W.Frag} {mg : Str → Option Value} {base : Heap}
def toldR (m : Nat) : List SR := [eqR .non, eqR (.str "2"), eqR (.bl true), eqR (.bl false), lstR [iR 2], tupR [iR 2], dkR, iR (-1 - (m : Int)), iR 0, iR (11 + (m : Int))]
/-- neither a count of people nor of trees -/
def OddX (K : PySem.W.Frag) (H : Hp) (v : V) : Prop := NumT K H v false ∨ ∃ z : Int, v = .int z ∧ ¬ (1 ≤ z ∧ z ≤ 10)
theorem odd_all {m : Nat} : ∀ (k : Nat) (R : SR) (H : Hp) (v : V), (toldR m)[k]? = some R → R.r H v → OddX K H v
  | 0, _, H, _, h, g => by
    cases h
    cases eq_of g
    exact .inl .non
  | 1, _, H, _, h, g => by
    cases h
    cases eq_of g
    exact .inl .str
  | 2, _, H, _, h, g => by
    cases h
    cases eq_of g
    exact .inl .bl
  | 3, _, H, _, h, g => by
    cases h
    cases eq_of g
    exact .inl .bl
  | 4, _, H, _, h, g => by
    cases h
    obtain ⟨p, vs, rfl, hp, _⟩ := g
    exact .inl (.lst hp)
  | 5, _, H, _, h, g => by
    cases h
    obtain ⟨p, vs, rfl, hp, _⟩ := g
    exact .inl (.tup hp)
  | 6, _, H, _, h, g => by
    cases h
    obtain ⟨p, rfl, hp⟩ := g
    exact .inl (.dK hp)
  | 7, _, H, _, h, g => by
    cases h
    exact .inr ⟨_, eq_of g, by omega⟩
  | 8, _, H, _, h, g => by
    cases h
    exact .inr ⟨_, eq_of g, by omega⟩
  | 9, _, H, _, h, g => by
    cases h
    exact .inr ⟨_, eq_of g, by omega⟩
  | k + 10, _, _, _, h, _ => by simp [toldR] at h
theorem ppl_all {m : Nat} (k : Nat) (R : SR) (H : Hp) (v : V) (h : (toldR m ++ [iR 1])[k]? = some R) (g : R.r H v) : PplBad K H v := by
  by_cases hk : k < 10
  · rw [List.getElem?_append_left (by exact hk)] at h
    rcases odd_all (K := K) k R H v h g with h | ⟨z, h1, h2⟩
    · exact .inl h
    · exact .inr ⟨z, h1, by omega⟩
  · rw [List.getElem?_append_right (by show 10 ≤ k; omega)] at h
    have h0 : k - (toldR m).length = 0 := by
      have := (List.getElem?_eq_some_iff.mp h).1
      simp at this
      omega
    rw [h0] at h
    cases h
    exact .inr ⟨1, eq_of g, by decide⟩
def spToldX (K : PySem.W.Frag) : Sp := fun vs H Q _ => ∃ (k z m : Nat), vs = [.int (k : Int), .int (z : Int), .int (m : Int)] ∧ k < 4 ∧ z ≤ 100000 ∧ m ≤ 1000 ∧ ∀ H' p, Same H H' → H p = none → H' p = some (.lst ([decide (k = 0), decide (k = 1), decide (k = 2), decide (k = 3), false, false, true].map V.bl)) → Q (.ref p) H'
abbrev N__law_told : List Str := ["_law_kind", "_law_which", "_law_more", "_law_strange", "error", "_law_found"]
theorem sc__law_told : FnScope N__law_told ["_law_kind", "_law_which", "_law_more"] (defScope s__law_told) := ⟨rfl, rfl, rfl, by decide +kernel, rfl, by decide +kernel, by decide +kernel⟩
-- slots: _law_kind 0, _law_which 1, _law_more 2, _law_strange 3, error 4, _law_found 5
theorem ok__law_told (T : Tx K mg) : FnOk P w K mg base CX0 8 T.f__law_told T.d__law_told ["_law_kind", "_law_which", "_law_more"] (spToldX K) := by
  refine T.F__law_told.ok sc__law_told (fun vs H Q E h => ?_) (fun cdv A outer s0 H vs Q E hr h => ?_)
  · obtain ⟨k, z, m, rfl, _⟩ := h
    rfl
  · obtain ⟨k, z, m, rfl, hk4, hz, hm, q⟩ := h
    have nd := sc__law_told.nd
    refine ⟨_, (pss_cons (ps_set (i := 3) nd rfl (.inl rfl) (pe_lst (pa_cons pe_non (pa_cons pe_str (pa_cons pe_bl (pa_cons pe_bl (pa_cons (pe_lst (pa_cons pe_int pa_nil)) (pa_cons (pe_tup (pa_cons pe_int pa_nil)) (pa_cons pe_dnewK (pa_cons (pe_op op_sub (pe_un un_neg pe_int) (pv 2)) (pa_cons pe_int (pa_cons (pe_op op_add pe_int (pv 2)) pa_nil))))))))))))
      (pss_cons (L2N.ps_try_as (i := 4) (tb := fun W => (tIfS (tTest (tOp rEq (tVar 0) (tC (.int 0)))) (tDrop (tCallS (spWithX T) (WE W) (tCons (tOp _ (tOp _ (tVar 1) (tC (.int 11))) (tC (.int 5))) (tCons (tOp (rIxL K) (tOp _ (tVar 3) (tLst (tCons (tC (.int 1)) tNil))) (tOp _ (tVar 1) (tC (.int 11)))) (tCons _ tNil))))) (tIfS (tTest (tOp rEq (tVar 0) (tC (.int 1)))) (tDrop (tCallS (spWithX T) (WE W) (tCons (tOp _ (tOp _ (tVar 1) (tC (.int 24))) (tC (.int 5))) (tCons (tC (.int 4)) (tCons (tCall (spBadTies K) [] E0 (tCons (tVar 1) (tCons (tVar 2) tNil))) tNil))))) (tIfS (tTest (tOp rEq (tVar 0) (tC (.int 2)))) (tDrop (tCallS (spTreesX T) (WE W) (tCons (tC (.int 3)) (tCons (tLst (tCons (tTup (tCons (tC (.int 0)) (tCons (tC (.int 1)) tNil))) tNil)) (tCons (tOp (rIxL K) (tVar 3) (tOp _ (tVar 1) (tC (.int 10)))) tNil))))) (tIfS (tTest (tOp rEq (tOp _ (tVar 1) (tC (.int 3))) (tC (.int 0)))) (tDrop (tCallS (spMovX T) (WE W) (tCons (tC (.int 3)) (tCons (tLst (tCons (tTup (tCons (tC (.int 0)) (tCons (tC (.int 1)) tNil))) (tCons (tTup (tCons (tC (.int 1)) (tCons (tC (.int 2)) tNil))) (tCons (tTup (tCons (tC (.int 0)) (tCons (tC (.int 2)) tNil))) tNil)))) (tCons (tLst (tCons (tC (.int 0)) (tCons (tOp _ (tOp _ (tVar 1) (tC (.int 3))) (tC (.int 3))) tNil))) (tCons (tLst (tCons (tOp _ (tOp _ (tVar 1) (tC (.int 9))) (tC (.int 3))) (tCons (tC (.int 0)) tNil))) tNil)))))) (tDrop (tCallS (spBadMoves T) (WE W) (tCons (tOp _ (tVar 1) (tC (.int 3))) (tCons (tVar 2) tNil))))))))) (ts := fun a cls d => (tSeq (tAsg (tLst (tCons (tCB (rIsEA K cls d a) (tCons (tVar 4) (tCons (tC (.ref T.c_BadPeople)) tNil))) (tCons (tCB (rIsEA K cls d a) (tCons (tVar 4) (tCons (tC (.ref T.c_BadTies)) tNil))) (tCons (tCB (rIsEA K cls d a) (tCons (tVar 4) (tCons (tC (.ref T.c_BadMany)) tNil))) tNil)))) (gName 5)) (tSeq (tAsg (tOp _ (tVar 5) (tLst (tCons (tCB (rIsEA K cls d a) (tCons (tVar 4) (tCons (tC (.ref T.c_BadMoves)) tNil))) (tCons (tCB (rIsEA K cls d a) (tCons (tVar 4) (tCons (tC (.ref T.c_Held)) tNil))) (tCons (tCB (rIsEA K cls d a) (tCons (tVar 4) (tCons (tC (.ref T.c_Lost)) tNil))) tNil))))) (gName 5)) (tRet (tOp _ (tVar 5) (tLst (tCons (tCB (rIsEA K cls d a) (tCons (tVar 4) (tCons (tC (.ty "ValueError")) tNil))) tNil))))))) (Wout := fun _ _ _ _ => False) rfl rfl nd rfl rfl ⟨rfl, by decide, .inl T.g_PlayError⟩ takesN (by exact fun W pn xe tk _ => 
          (pss_one (ps_if (pt_cmpR op_eq (pv 0) pe_int (nomark _)) 
            (pss_one (ps_expr (pe_callS (okx__law_with_web T) (hr.mono (by decide)) (by rfl) T.g__law_with_web T.F__law_with_web.kp T.b__law_with_web (fun σ => L2N.passAt tk σ) (pa_cons (pe_op op_modN (pe_op op_fdivN (pv 1) pe_int) pe_int) (pa_cons (pe_ix ix_list (pe_op op_cat (pv 3) (pe_lst (pa_cons pe_int pa_nil))) (pe_op op_modN (pv 1) pe_int) (fun _ _ => rfl)) (pa_cons pe_non pa_nil)))))) 
            (pss_one (ps_if (pt_cmpR op_eq (pv 0) pe_int (nomark _)) 
              (pss_one (ps_expr (pe_callS (okx__law_with_web T) (hr.mono (by decide)) (by rfl) T.g__law_with_web T.F__law_with_web.kp T.b__law_with_web (fun σ => L2N.passAt tk σ) (pa_cons (pe_op op_modN (pe_op op_fdivN (pv 1) pe_int) pe_int) (pa_cons pe_int (pa_cons (pe_call (ok__law_bad_ties T) (hr.mono (by decide)) (by rfl) T.g__law_bad_ties T.F__law_bad_ties.kp T.b__law_bad_ties .nil pass0 (pa_cons (pv 1) (pa_cons (pv 2) pa_nil))) pa_nil)))))) 
              (pss_one (ps_if (pt_cmpR op_eq (pv 0) pe_int (nomark _)) 
                (pss_one (ps_expr (pe_callS (okx_trees T) (hr.mono (by decide)) (by rfl) T.g_trees T.F_trees.kp T.b_trees (fun σ => L2N.passAt tk σ) (pa_cons pe_int (pa_cons (pe_lst (pa_cons (pe_tup (pa_cons pe_int (pa_cons pe_int pa_nil))) pa_nil)) (pa_cons (pe_ix ix_list (pv 3) (pe_op op_modN (pv 1) pe_int) (fun _ _ => rfl)) pa_nil)))))) 
                (pss_one (ps_if (pt_cmpR op_eq (pe_op op_modN (pv 1) pe_int) pe_int (nomark _)) 
                  (pss_one (ps_expr (pe_callS (okx_held T) (hr.mono (by decide)) (by rfl) T.g_held T.F_held.kp T.b_held (fun σ => L2N.passAt tk σ) (pa_cons pe_int (pa_cons (pe_lst (pa_cons (pe_tup (pa_cons pe_int (pa_cons pe_int pa_nil))) (pa_cons (pe_tup (pa_cons pe_int (pa_cons pe_int pa_nil))) (pa_cons (pe_tup (pa_cons pe_int (pa_cons pe_int pa_nil))) pa_nil)))) (pa_cons (pe_lst (pa_cons pe_int (pa_cons (pe_op op_modN (pe_op op_fdivN (pv 1) pe_int) pe_int) pa_nil))) (pa_cons (pe_lst (pa_cons (pe_op op_modN (pe_op op_fdivN (pv 1) pe_int) pe_int) (pa_cons pe_int pa_nil))) pa_nil))))))) 
                  (pss_one (ps_expr (pe_callS (okx__law_moves T) (hr.mono (by decide)) (by rfl) T.g__law_moves T.F__law_moves.kp T.b__law_moves (fun σ => L2N.passAt tk σ) (pa_cons (pe_op op_fdivN (pv 1) pe_int) (pa_cons (pv 2) pa_nil)))))))))))))) (by exact fun a oe cls d pn hz hf => 
          (pss_cons (ps_set (i := 5) nd rfl (.inl rfl) (pe_lst (pa_cons (pe_callB (call_isEA hz.zc hf) (by rfl) T.z_isinstance (by decide +kernel) (pa_cons (pv 4) (pa_cons (pe_glob (v := .ref T.c_BadPeople) (by rfl) T.g_BadPeople rfl) pa_nil))) (pa_cons (pe_callB (call_isEA hz.zc hf) (by rfl) T.z_isinstance (by decide +kernel) (pa_cons (pv 4) (pa_cons (pe_glob (v := .ref T.c_BadTies) (by rfl) T.g_BadTies rfl) pa_nil))) (pa_cons (pe_callB (call_isEA hz.zc hf) (by rfl) T.z_isinstance (by decide +kernel) (pa_cons (pv 4) (pa_cons (pe_glob (v := .ref T.c_BadMany) (by rfl) T.g_BadMany rfl) pa_nil))) pa_nil)))))
          (pss_cons (ps_set (i := 5) nd rfl (.inl rfl) (pe_op op_cat (pv 5) (pe_lst (pa_cons (pe_callB (call_isEA hz.zc hf) (by rfl) T.z_isinstance (by decide +kernel) (pa_cons (pv 4) (pa_cons (pe_glob (v := .ref T.c_BadMoves) (by rfl) T.g_BadMoves rfl) pa_nil))) (pa_cons (pe_callB (call_isEA hz.zc hf) (by rfl) T.z_isinstance (by decide +kernel) (pa_cons (pv 4) (pa_cons (pe_glob (v := .ref T.c_Held) (by rfl) T.g_Held rfl) pa_nil))) (pa_cons (pe_callB (call_isEA hz.zc hf) (by rfl) T.z_isinstance (by decide +kernel) (pa_cons (pv 4) (pa_cons (pe_glob (v := .ref T.c_Lost) (by rfl) T.g_Lost rfl) pa_nil))) pa_nil))))))
          (pss_one (ps_ret (pe_op op_cat (pv 5) (pe_lst (pa_cons (pe_callB (call_isEA hz.zc hf) (by rfl) T.z_isinstance (by decide +kernel) (pa_cons (pv 4) (pa_cons (pe_bltn (v := .ty "ValueError") (by rfl) T.z_ValueError (by decide +kernel) rfl) pa_nil))) pa_nil)))))))))
      (pss_one (ps_ret (pe_lst pa_nil))))), ?_⟩
    have suite : ∀ (D : Addr) (b0 b1 b2 b3 : Bool) (H1 : Hp) (e0 : Addr) (y3 y5 : Option V), Same H H1 → ExcC K D → PySem.W.kitOne K (.ref D) (.ref T.c_BadPeople) = some b0 → PySem.W.kitOne K (.ref D) (.ref T.c_BadTies) = some b1 → PySem.W.kitOne K (.ref D) (.ref T.c_BadMany) = some b2 →
        PySem.W.kitOne K (.ref D) (.ref T.c_BadMoves) = some b3 → PySem.W.kitOne K (.ref D) (.ref T.c_Held) = some false → PySem.W.kitOne K (.ref D) (.ref T.c_Lost) = some false → PySem.W.kitOne K (.ref D) (.type "ValueError") = some true →
        ∀ D0 : Ends, (∀ H' p, Same H H' → H p = none → H' p = some (.lst ([b0, b1, b2, b3, false, false, true].map V.bl)) → D0.rt (.ref p) H') →
        (tSeq (tAsg (tLst (tCons (tCB (rIsEA K (.ref D) none e0) (tCons (tVar 4) (tCons (tC (.ref T.c_BadPeople)) tNil))) (tCons (tCB (rIsEA K (.ref D) none e0) (tCons (tVar 4) (tCons (tC (.ref T.c_BadTies)) tNil))) (tCons (tCB (rIsEA K (.ref D) none e0) (tCons (tVar 4) (tCons (tC (.ref T.c_BadMany)) tNil))) tNil)))) (gName 5)) (tSeq (tAsg (tOp rCat (tVar 5) (tLst (tCons (tCB (rIsEA K (.ref D) none e0) (tCons (tVar 4) (tCons (tC (.ref T.c_BadMoves)) tNil))) (tCons (tCB (rIsEA K (.ref D) none e0) (tCons (tVar 4) (tCons (tC (.ref T.c_Held)) tNil))) (tCons (tCB (rIsEA K (.ref D) none e0) (tCons (tVar 4) (tCons (tC (.ref T.c_Lost)) tNil))) tNil))))) (gName 5)) (tRet (tOp rCat (tVar 5) (tLst (tCons (tCB (rIsEA K (.ref D) none e0) (tCons (tVar 4) (tCons (tC (.ty "ValueError")) tNil))) tNil))))))
          D0 [some (.int k), some (.int z), some (.int m), y3, some (.ref e0), y5] H1 := by
      intro D b0 b1 b2 b3 H1 e0 y3 y5 s1 C k0 k1 k2 k3 k4 k5 k6 D0 q0
      refine ⟨_, rfl, D, rfl, rfl, C, _, _, b0, rfl, fun u r => r, k0, ?_⟩
      refine ⟨_, rfl, D, rfl, rfl, C, _, _, b1, rfl, fun u r => r, k1, ?_⟩
      refine ⟨_, rfl, D, rfl, rfl, C, _, _, b2, rfl, fun u r => r, k2, ?_⟩
      refine ⟨sml (by show 3 ≤ 100000; decide), fun p np => ?_⟩
      generalize e2 : upd H1 p _ = H2
      have s2 : Same H1 H2 := by
        rw [← e2]
        exact same_new np
      have hp : H2 p = some (.lst [.bl b0, .bl b1, .bl b2]) := by
        rw [← e2]
        exact upd_same
      refine ⟨_, rfl, _, rfl, D, rfl, rfl, C, _, _, b3, rfl, fun u r => r, k3, ?_⟩
      refine ⟨_, rfl, D, rfl, rfl, C, _, _, false, rfl, fun u r => r, k4, ?_⟩
      refine ⟨_, rfl, D, rfl, rfl, C, _, _, false, rfl, fun u r => r, k5, ?_⟩
      refine ⟨sml (by show 3 ≤ 100000; decide), fun p2 np2 => ?_⟩
      have s3 : Same H2 (upd H2 p2 (.lst [.bl b3, .bl false, .bl false])) := same_new np2
      refine ⟨p, p2, _, _, rfl, rfl, s3 _ _ hp, upd_same, sml (by show 6 ≤ 100000; decide), fun p3 np3 => ?_⟩
      generalize e4 : upd (upd H2 p2 _) p3 _ = H4
      have s4 : Same H2 H4 := by
        rw [← e4]
        exact s3.trans (same_new np3)
      have hp3 : H4 p3 = some (.lst [.bl b0, .bl b1, .bl b2, .bl b3, .bl false, .bl false]) := by
        rw [← e4]
        exact upd_same
      refine ⟨_, rfl, _, rfl, D, rfl, rfl, C, _, _, true, rfl, fun u r => r, k6, ?_⟩
      refine ⟨sml (by show 1 ≤ 100000; decide), fun p4 np4 => ?_⟩
      have s5 : Same H4 (upd H4 p4 (.lst [.bl true])) := same_new np4
      refine ⟨p3, p4, _, _, rfl, rfl, s5 _ _ hp3, upd_same, sml (by show 7 ≤ 100000; decide), fun p5 np5 => ?_⟩
      have s15 := s1.trans (s2.trans (s4.trans s5))
      exact q0 _ p5 (s15.trans (same_new np5)) (s15.free np5) upd_same
    have fin : ∀ b0 b1 b2 b3 : Bool, b0 = decide (k = 0) → b1 = decide (k = 1) → b2 = decide (k = 2) → b3 = decide (k = 3) → ∀ H' p, Same H H' → H p = none → H' p = some (.lst ([b0, b1, b2, b3, false, false, true].map V.bl)) → Q (.ref p) H' := by
      intro b0 b1 b2 b3 e0 e1 e2 e3 H' p s1 np hp
      subst e0
      subst e1
      subst e2
      subst e3
      exact q H' p s1 np hp
    -- strange
    refine asg_mk (R := lstR (toldR m)) (Mk.lst (MkA.cons Mk.c (MkA.cons Mk.c (MkA.cons Mk.c (MkA.cons Mk.c (MkA.cons (Mk.lst (MkA.cons Mk.c MkA.nil)) (MkA.cons (Mk.tup (MkA.cons Mk.c MkA.nil)) (MkA.cons Mk.dk (MkA.cons (Mk.of fun H Q q => ⟨1, rfl, _, rfl, _, _, rfl, rfl, q⟩) (MkA.cons Mk.c (MkA.cons (Mk.of fun H Q q => ⟨_, rfl, _, _, rfl, rfl, q⟩) MkA.nil)))))))))) (by show 10 ≤ 1000; decide)) fun H1 v1 s1 hv1 => ?_
    obtain ⟨p1, vs1, rfl, hp1, ha1⟩ := hv1
    match k, hk4, suite, fin with
    | 0, _, suite, fin =>
      refine ⟨_, rfl, rfl, _, rfl, iteT ?_⟩
      have hi11 := fmod_bd (z : Int) (j := 11) (by decide)
      obtain ⟨i, hi⟩ : ∃ i : Nat, (z : Int).fmod 11 = (i : Int) := ⟨((z : Int).fmod 11).toNat, by omega⟩
      refine ⟨_, rfl, _, _, rfl, rfl, ⟨by decide, by decide⟩, _, _, rfl, rfl, (by show (5 : Int) ≠ 0; decide), ?_⟩
      refine ⟨_, rfl, sml (by show 1 ≤ 100000; decide), fun l nl => ?_⟩
      have s2 : Same H1 (upd H1 l (.lst [.int 1])) := same_new nl
      refine ⟨p1, l, _, _, rfl, rfl, s2 _ _ hp1, upd_same, sml (by have := ha1.len; rw [this]; show 10 + 1 ≤ 100000; decide), fun l2 nl2 => ?_⟩
      have s3 : Same (upd H1 l (.lst [.int 1])) (upd (upd H1 l (.lst [.int 1])) l2 (.lst (vs1 ++ [.int 1]))) := same_new nl2
      have ha3 : AllR (toldR m ++ [iR 1]) (upd (upd H1 l (.lst [.int 1])) l2 (.lst (vs1 ++ [.int 1]))) (vs1 ++ [.int 1]) := (ha1.same (s2.trans s3)).app ⟨rfl, trivial⟩
      have hl2 : upd (upd H1 l (.lst [.int 1])) l2 (.lst (vs1 ++ [.int 1])) l2 = some (.lst (vs1 ++ [.int 1])) := upd_same
      have s13 := s2.trans s3
      generalize upd (upd H1 l (.lst [.int 1])) l2 (.lst (vs1 ++ [.int 1])) = H3 at s13 ha3 hl2
      have hil : i < (toldR m ++ [iR 1]).length := by show i < 11; omega
      have hR : (toldR m ++ [iR 1])[i]? = some (toldR m ++ [iR 1])[i] := List.getElem?_eq_getElem hil
      obtain ⟨v, hv, hRv⟩ := ha3.get hR
      have hP := ppl_all (K := K) i _ H3 v hR hRv
      refine ⟨_, rfl, _, _, rfl, rfl, (by show (11 : Int) ≠ 0; decide), l2, _, _, _, rfl, (by dsimp only; rw [hi]), SqL.of hl2, atI_nat hv, ?_⟩
      refine ⟨_, v, .non, rfl, .inl ⟨hP, fun H4 s4 => ⟨true, T.xm_BadPeople_PlayError, fun _ e0 ne0 => ?_, fun q => Bool.noConfusion q⟩⟩⟩
      exact suite T.c_BadPeople true false false false H4 e0 _ _ (s1.trans (s13.trans s4)) T.xc_BadPeople T.ki_BadPeople_BadPeople T.ki_BadPeople_BadTies T.ki_BadPeople_BadMany T.ki_BadPeople_BadMoves T.ki_BadPeople_Held T.ki_BadPeople_Lost T.ki_BadPeople_ValueError _ (fin _ _ _ _ rfl rfl rfl rfl)
    | 1, _, suite, fin =>
      refine ⟨_, rfl, rfl, _, rfl, iteF ?_⟩
      refine ⟨_, rfl, rfl, _, rfl, iteT ?_⟩
      refine ⟨_, rfl, _, _, rfl, rfl, ⟨by decide, by decide⟩, _, _, rfl, rfl, (by show (5 : Int) ≠ 0; decide), ?_⟩
      refine ⟨_, rfl, _, rfl, z, m, rfl, hz, hm, fun H3 v s3 hv => ?_⟩
      refine ⟨_, .int 4, v, rfl, .inr ⟨4, rfl, by decide, by decide, hv, fun H4 s4 => ⟨true, T.xm_BadTies_PlayError, fun _ e0 ne0 => ?_, fun q => Bool.noConfusion q⟩⟩⟩
      exact suite T.c_BadTies false true false false H4 e0 _ _ (s1.trans (s3.trans s4)) T.xc_BadTies T.ki_BadTies_BadPeople T.ki_BadTies_BadTies T.ki_BadTies_BadMany T.ki_BadTies_BadMoves T.ki_BadTies_Held T.ki_BadTies_Lost T.ki_BadTies_ValueError _ (fin _ _ _ _ rfl rfl rfl rfl)
    | 2, _, suite, fin =>
      refine ⟨_, rfl, rfl, _, rfl, iteF ?_⟩
      refine ⟨_, rfl, rfl, _, rfl, iteF ?_⟩
      refine ⟨_, rfl, rfl, _, rfl, iteT ?_⟩
      have hi10 := fmod_bd (z : Int) (j := 10) (by decide)
      obtain ⟨i, hi⟩ : ∃ i : Nat, (z : Int).fmod 10 = (i : Int) := ⟨((z : Int).fmod 10).toNat, by omega⟩
      refine ⟨sml (by show 2 ≤ 100000; decide), fun c nc => ?_⟩
      have s2 : Same H1 (upd H1 c (.tup [.int 0, .int 1])) := same_new nc
      have hc2 : upd H1 c (.tup [.int 0, .int 1]) c = some (.tup [.int 0, .int 1]) := upd_same
      refine ⟨sml (by show 1 ≤ 100000; decide), fun l nl => ?_⟩
      have s3 : Same (upd H1 c (.tup [.int 0, .int 1])) (upd (upd H1 c (.tup [.int 0, .int 1])) l (.lst [.ref c])) := same_new nl
      have hl3 : upd (upd H1 c (.tup [.int 0, .int 1])) l (.lst [.ref c]) l = some (.lst [.ref c]) := upd_same
      have hc3 := s3 _ _ hc2
      have s13 := s2.trans s3
      generalize upd (upd H1 c (.tup [.int 0, .int 1])) l (.lst [.ref c]) = H3 at s13 hl3 hc3
      have hil : i < (toldR m).length := by show i < 10; omega
      have hR : (toldR m)[i]? = some (toldR m)[i] := List.getElem?_eq_getElem hil
      obtain ⟨v, hv, hRv⟩ := (ha1.same s13).get hR
      have hO : ManyBad K H3 v := odd_all (K := K) i _ H3 v hR hRv
      have hG : GoodW K H3 (.int 3) (.ref l) 1 := ⟨3, l, [.ref c], [true], rfl, by decide, by decide, rfl, ⟨SqL.of hl3, by show 1 ≤ 40; decide, rfl, fun i x b h1 h2 => by
        match i, h1, h2 with
        | 0, h1, h2 =>
          cases h1
          cases h2
          exact .inr ⟨c, _, rfl, SqT.of hc3, .inr (.inr ⟨0, 1, rfl, rfl⟩)⟩
        | i + 1, h1, _ => simp at h1⟩, rfl, rfl⟩
      refine ⟨_, rfl, _, rfl, _, _, rfl, rfl, (by show (10 : Int) ≠ 0; decide), p1, _, _, _, rfl, (by dsimp only; rw [hi]), SqL.of (s13 _ _ hp1), atI_nat hv, ?_⟩
      refine ⟨.int 3, .ref l, v, rfl, .inr ⟨1, hG, hO, fun H4 s4 => ⟨true, T.xm_BadMany_PlayError, fun _ e0 ne0 => ?_, fun q => Bool.noConfusion q⟩⟩⟩
      exact suite T.c_BadMany false false true false H4 e0 _ _ (s1.trans (s13.trans s4)) T.xc_BadMany T.ki_BadMany_BadPeople T.ki_BadMany_BadTies T.ki_BadMany_BadMany T.ki_BadMany_BadMoves T.ki_BadMany_Held T.ki_BadMany_Lost T.ki_BadMany_ValueError _ (fin _ _ _ _ rfl rfl rfl rfl)
    | 3, _, suite, fin =>
      refine ⟨_, rfl, rfl, _, rfl, iteF ?_⟩
      refine ⟨_, rfl, rfl, _, rfl, iteF ?_⟩
      refine ⟨_, rfl, rfl, _, rfl, iteF ?_⟩
      have hmoves : ∀ (D0 : Ends) (y3 y5 : Option V) (H4 : Hp) (e0 : Addr), Same H1 H4 → (∀ H' p, Same H H' → H p = none → H' p = some (.lst ([false, false, false, true, false, false, true].map V.bl)) → D0.rt (.ref p) H') → _ := fun D0 y3 y5 H4 e0 s4 q0 => suite T.c_BadMoves false false false true H4 e0 y3 y5 (s1.trans s4) T.xc_BadMoves T.ki_BadMoves_BadPeople T.ki_BadMoves_BadTies T.ki_BadMoves_BadMany T.ki_BadMoves_BadMoves T.ki_BadMoves_Held T.ki_BadMoves_Lost T.ki_BadMoves_ValueError D0 q0
      refine ⟨_, rfl, _, _, rfl, rfl, (by show (3 : Int) ≠ 0; decide), rfl, _, rfl, ite2 (fun _ => ?_) (fun _ => ?_)⟩
      · have ha3 := fmod_bd ((z : Int).fdiv 3) (j := 3) (by decide)
        obtain ⟨a, ha⟩ : ∃ a : Nat, ((z : Int).fdiv 3).fmod 3 = (a : Int) := ⟨(((z : Int).fdiv 3).fmod 3).toNat, by omega⟩
        have hb3 := fmod_bd ((z : Int).fdiv 9) (j := 3) (by decide)
        obtain ⟨b, hb⟩ : ∃ b : Nat, ((z : Int).fdiv 9).fmod 3 = (b : Int) := ⟨(((z : Int).fdiv 9).fmod 3).toNat, by omega⟩
        -- the ties
        refine ⟨sml (by show 2 ≤ 100000; decide), fun t1 nt1 => ?_⟩
        have u1 : Same H1 (upd H1 t1 (.tup [.int 0, .int 1])) := same_new nt1
        have h1 : upd H1 t1 (.tup [.int 0, .int 1]) t1 = some (.tup [.int 0, .int 1]) := upd_same
        generalize upd H1 t1 (.tup [.int 0, .int 1]) = G1 at u1 h1
        refine ⟨sml (by show 2 ≤ 100000; decide), fun t2 nt2 => ?_⟩
        have u2 : Same G1 (upd G1 t2 (.tup [.int 1, .int 2])) := same_new nt2
        have h2 : upd G1 t2 (.tup [.int 1, .int 2]) t2 = some (.tup [.int 1, .int 2]) := upd_same
        generalize upd G1 t2 (.tup [.int 1, .int 2]) = G2 at u2 h2
        refine ⟨sml (by show 2 ≤ 100000; decide), fun t3 nt3 => ?_⟩
        have u3 : Same G2 (upd G2 t3 (.tup [.int 0, .int 2])) := same_new nt3
        have h3 : upd G2 t3 (.tup [.int 0, .int 2]) t3 = some (.tup [.int 0, .int 2]) := upd_same
        generalize upd G2 t3 (.tup [.int 0, .int 2]) = G3 at u3 h3
        refine ⟨sml (by show 3 ≤ 100000; decide), fun l nl => ?_⟩
        have u4 : Same G3 (upd G3 l (.lst [.ref t1, .ref t2, .ref t3])) := same_new nl
        have h4 : upd G3 l (.lst [.ref t1, .ref t2, .ref t3]) l = some (.lst [.ref t1, .ref t2, .ref t3]) := upd_same
        have hA : AllR threeR (upd G3 l (.lst [.ref t1, .ref t2, .ref t3])) [.ref t1, .ref t2, .ref t3] := ⟨⟨t1, _, rfl, u4 _ _ (u3 _ _ (u2 _ _ h1)), rfl, rfl, trivial⟩, ⟨t2, _, rfl, u4 _ _ (u3 _ _ h2), rfl, rfl, trivial⟩, ⟨t3, _, rfl, u4 _ _ h3, rfl, rfl, trivial⟩, trivial⟩
        generalize upd G3 l (.lst [.ref t1, .ref t2, .ref t3]) = G4 at u4 h4 hA
        -- the moves
        refine ⟨_, rfl, _, _, rfl, rfl, ⟨by decide, by decide⟩, _, _, rfl, rfl, (by show (3 : Int) ≠ 0; decide), ?_⟩
        dsimp only
        rw [ha]
        refine ⟨sml (by show 2 ≤ 100000; decide), fun f nf => ?_⟩
        have u5 : Same G4 (upd G4 f (.lst [.int 0, .int (a : Int)])) := same_new nf
        have h5 : upd G4 f (.lst [.int 0, .int (a : Int)]) f = some (.lst (natV [0, a])) := upd_same
        generalize upd G4 f (.lst [.int 0, .int (a : Int)]) = G5 at u5 h5
        refine ⟨_, rfl, _, _, rfl, rfl, ⟨by decide, by decide⟩, _, _, rfl, rfl, (by show (3 : Int) ≠ 0; decide), ?_⟩
        dsimp only
        rw [hb]
        refine ⟨sml (by show 2 ≤ 100000; decide), fun x nx => ?_⟩
        have u6 : Same G5 (upd G5 x (.lst [.int (b : Int), .int 0])) := same_new nx
        have h6 : upd G5 x (.lst [.int (b : Int), .int 0]) x = some (.lst (natV [b, 0])) := upd_same
        generalize upd G5 x (.lst [.int (b : Int), .int 0]) = G6 at u6 h6
        have h5' := u6 _ _ h5
        have hG := (three_good (K := K) h4 hA).same (u5.trans u6)
        have m1 := movL_nats (K := K) (L := 3) h5' (fun i hi => by simp at hi; omega) (by show 2 ≤ 40; decide)
        have m2 := movL_nats (K := K) (L := 3) h6 (fun i hi => by simp at hi; omega) (by show 2 ≤ 40; decide)
        have u16 := u1.trans (u2.trans (u3.trans (u4.trans (u5.trans u6))))
        refine ⟨.int 3, .ref l, .ref f, .ref x, rfl, .inr ⟨3, hG, ⟨true, true, m1, m2, .inr ⟨f, x, [0, a], [b, 0], rfl, rfl, h5', h6, by show 4 ≤ 100; decide, fun h => by simp at h⟩⟩, fun H4 s4 => ⟨true, T.xm_BadMoves_PlayError, fun _ e0 ne0 => ?_, fun q => Bool.noConfusion q⟩⟩⟩
        exact hmoves _ _ _ H4 e0 (u16.trans s4) (fin _ _ _ _ rfl rfl rfl rfl)
      · obtain ⟨z', hz'⟩ : ∃ z' : Nat, (z : Int).fdiv 3 = (z' : Int) ∧ z' ≤ 100000 := by
          have h0 := fdiv_nn (i := (z : Int)) (j := 3) (by omega) (by decide)
          refine ⟨((z : Int).fdiv 3).toNat, by omega, ?_⟩
          rw [Int.fdiv_eq_ediv_of_nonneg _ (by decide)] at h0 ⊢
          omega
        refine ⟨_, rfl, _, _, rfl, rfl, ⟨by decide, by decide⟩, _, rfl, z', m, (by dsimp only; rw [hz'.1]), hz'.2, hm, fun H4 s4 => ⟨true, T.xm_BadMoves_PlayError, fun _ e0 ne0 => ?_, fun q => Bool.noConfusion q⟩⟩
        exact hmoves _ _ _ H4 e0 s4 (fin _ _ _ _ rfl rfl rfl rfl)
    | k + 4, h, _, _ => exact absurd h (by omega)
end
end Jp
end
section
set_option Elab.async false
set_option linter.all false
set_option pp.maxSteps 1200
set_option pp.deepTerms false
set_option maxRecDepth 100000
set_option maxHeartbeats 4000000
namespace Jp
open PySem L2

theorem bits_of {z : Int} (h : Builtin.Int.intBits z ≤ 1048576) : z.natAbs < 2 ^ 1048576 := by
  unfold Builtin.Int.intBits at h
  split at h
  · rename_i h0
    have : z = 0 := by simpa using h0
    subst this
    exact Nat.pow_pos (by decide)
  · have h1 : z.natAbs < 2 ^ (z.natAbs.log2 + 1) := Nat.lt_log2_self
    exact Nat.lt_of_lt_of_le h1 (Nat.pow_le_pow_right (by decide) h)
theorem conn_09 {S : Nat → Prop} {u v : Nat} (h : Conn (List.replicate 40 ((0, 9) : Tie)) S u v) : v = 1 → u = 1 := by
  induction h with
  | refl => exact id
  | step i _ hs ht he ih =>
    intro e
    have := List.eq_of_mem_replicate (List.mem_of_getElem? ht)
    subst this
    rcases he with ⟨e1, e2⟩ | ⟨e1, e2⟩
    · have h9 : (9 : Nat) = 1 := e2.trans e
      cases h9
    · have h0 : (0 : Nat) = 1 := by
        first
        | exact e1.trans e
        | exact e2.trans e
      cases h0
theorem web09 : Web 10 (List.replicate 40 ((0, 9) : Tie)) := fun t ht => by
  rw [List.eq_of_mem_replicate ht]
  decide
theorem no09 {m : Nat} (h : Has 10 (List.replicate 40 ((0, 9) : Tie)) m) : m = 0 := by
  obtain ⟨tss, hG⟩ := h
  rcases Nat.eq_zero_or_pos m with e | e
  · exact e
  · cases tss with
    | nil =>
      have := hG.len
      simp at this
      omega
    | cons t r =>
      obtain ⟨_, hl, hm⟩ := hG.one t List.mem_cons_self
      have hA := (marks_all web09 (by decide) hl).mp hm
      have := conn_09 (hA 0 1 (by decide) (by decide)) rfl
      cases this
theorem web1 : Web 2 [((0, 1) : Tie)] := fun t ht => by
  rw [List.mem_singleton] at ht
  subst ht
  decide
theorem all1 : AllC 2 [((0, 1) : Tie)] (· ∈ [0]) := (marks_all web1 (by decide) (by decide)).mp (by decide)
section
variable {P : Program} {w : World} {K : PySem.W.Frag} {mg : Str → Option Value} {base : Heap}

def spLaw (K : PySem.W.Frag) : Sp := fun vs H Q _ => ∃ (a : Addr) (ns : List Int), vs = [.ref a] ∧ SqL K H a (ns.map V.int) ∧ ns.length ≤ 63 ∧ (∀ z ∈ ns, z.natAbs < 2 ^ 1048576) ∧ ∀ H', Q (.bl true) H'

abbrev N_law : List Str := ["_law_script", "_law_cell", "_law_kind", "_law_due", "_law_at"]
theorem sc_law : FnScope N_law ["_law_script"] (defScope s_law) := ⟨rfl, rfl, rfl, by decide +kernel, rfl, by decide +kernel, by decide +kernel⟩
-- slots: _law_script 0, _law_cell 1, _law_kind 2, _law_due 3, _law_at 4
theorem ok_law (T : Tx K mg) : FnOk P w K mg base CX0 9 T.f_law T.d_law ["_law_script"] (spLaw K) := by
  refine T.F_law.ok sc_law (fun vs H Q E h => ?_) (fun cdv A outer s H vs Q E hr h => ?_)
  · obtain ⟨a, ns, rfl, _⟩ := h
    rfl
  · obtain ⟨a, ns, rfl, hS, hl63, hbits, q⟩ := h
    have nd := sc_law.nd
    refine ⟨_, (pss_cons (ps_for PassesOwn.never rfl (pi_list (pv 0)) (pg_name (i := 1) nd rfl (.inl rfl)) 
        (pss_cons (ps_set (i := 2) nd rfl (.inr rfl) (pe_op op_modN (pv 1) pe_int))
        (pss_cons (ps_set (i := 3) nd rfl (.inl rfl) (pe_op op_cat (pe_lc (own := [("_law_at", 4)]) (g := (gName 4)) (tt := tYes) (te := (tOp rEq (tVar 2) (tVar 4))) rfl nd (pi_range1 (by rfl) T.z_range (pa_cons pe_int pa_nil)) (blkOk_by (own := [("_law_at", 4)]) (N := N_law) (sc := (defScope s_law)) (by decide +kernel)) (fun _ _ _ _ _ => (pg_name (i := 4) nd rfl (.inl rfl))) (fun _ _ _ _ _ => pts_nil) (fun _ _ _ _ _ => (pe_cmpR op_eq (pv 2) (pv 4) (nomark _)))) (pe_lst (pa_cons pe_bl pa_nil))))
        (pss_one (ps_if (pt_cmpR (op_neD hr.units) (pe_call (ok__law_told T) (hr.mono (by decide)) (by rfl) T.g__law_told T.F__law_told.kp T.b__law_told .nil pass0 (pa_cons (pv 2) (pa_cons (pe_op op_modN (pe_op op_fdivN (pv 1) pe_int) pe_int) (pa_cons (pe_op op_modN (pe_op op_fdivN (pv 1) pe_int) pe_int) pa_nil)))) (pv 3) (nomark _)) 
          (pss_one (ps_ret pe_bl)) pss_nil)))))
      (pss_one (ps_ret (pe_and (pe_cmpR op_eq (pe_call (ok_most T) (hr.mono (by decide)) (by rfl) T.g_most T.F_most.kp T.b_most .nil pass0 (pa_cons pe_int (pa_cons (pe_op op_rep (pe_lst (pa_cons (pe_tup (pa_cons pe_int (pa_cons pe_int pa_nil))) pa_nil)) pe_int) pa_nil))) pe_int (nomark _)) (pe_one (pe_cmpR op_isBl (pe_call (ok_held T) (hr.mono (by decide)) (by rfl) T.g_held T.F_held.kp T.b_held .nil pass0 (pa_cons pe_int (pa_cons (pe_lst (pa_cons (pe_tup (pa_cons pe_int (pa_cons pe_int pa_nil))) pa_nil)) (pa_cons (pe_lst (pa_cons pe_int pa_nil)) (pa_cons (pe_lst pa_nil) pa_nil))))) pe_bl (nomark _))))))), ?_⟩
    refine ⟨_, rfl, a, rfl, ⟨_, hS⟩, for_list (K := K) (a := a) (xs := ns.map V.int) (fun i σ H2 => ∃ y1 y2 y3, σ = [some (.ref a), y1, y2, y3, none] ∧ Same H H2)
      ⟨_, _, _, rfl, Same.refl _⟩ (fun i σ H2 _ ⟨_, _, _, _, h⟩ => h.seq hS) ?_ ?_⟩
    · rintro i x σ H2 hi ⟨y1, y2, y3, rfl, s2⟩
      obtain ⟨z, _, rfl⟩ := List.mem_map.mp (List.mem_of_getElem? hi)
      -- kind
      have h4 := fmod_bd z (j := 4) (by decide)
      obtain ⟨k, hk⟩ : ∃ k : Nat, z.fmod 4 = (k : Int) := ⟨(z.fmod 4).toNat, by omega⟩
      refine ⟨_, rfl, _, _, rfl, rfl, (by show (4 : Int) ≠ 0; decide), ?_⟩
      dsimp only
      rw [hk]
      -- due
      refine ⟨6, rfl, by decide, by decide, fun D hD => lc_range (lo := 0) (n := ((6 : Int)).toNat) (fun j H3 => Same H2 H3 ∧ H2 D = none ∧ H3 D = some (.lst (((List.range j).map fun j => decide (k = j)).map V.bl)))
        ⟨same_new hD, hD, by rw [upd_same]; rfl⟩ ?_ ?_⟩
      · rintro j H3 hj ⟨s3, nD, h3⟩
        rw [Int.zero_add]
        refine ⟨rfl, _, rfl, _, rfl, rfl, _, h3, sml1 (by rw [List.length_map, List.length_map, List.length_range]; have : j < 6 := hj; omega), same_mut s3 nD, nD, ?_⟩
        rw [upd_same, List.range_succ, List.map_append, List.map_append]
        rw [show decide (V.int (k : Int) = V.int (j : Int)) = decide (k = j) from decide_eq_decide.mpr ⟨fun e => by have := V.int.inj e; omega, fun e => by rw [e]⟩]
        rfl
      rintro H3 ⟨s3, nD, h3⟩
      refine ⟨sml (by show 1 ≤ 100000; decide), fun l nl => ?_⟩
      have s4 : Same H3 (upd H3 l (.lst [.bl true])) := same_new nl
      refine ⟨D, l, _, _, rfl, rfl, s4 _ _ h3, upd_same, sml (by show 7 ≤ 100000; decide), fun l2 nl2 => ?_⟩
      generalize e5 : upd (upd H3 l _) l2 _ = H5
      have s5 : Same H3 H5 := by
        rw [← e5]
        exact s4.trans (same_new nl2)
      have hk4 : k < 4 := by omega
      have hl5 : H5 l2 = some (.lst ([decide (k = 0), decide (k = 1), decide (k = 2), decide (k = 3), false, false, true].map V.bl)) := by
        rw [← e5, upd_same, show false = decide (k = 4) from (decide_eq_false (by omega)).symm]
        rw [show ([decide (k = 0), decide (k = 1), decide (k = 2), decide (k = 3), decide (k = 4), decide (k = 4), true] : List Bool) = [decide (k = 0), decide (k = 1), decide (k = 2), decide (k = 3), decide (k = 4), decide (k = 5), true] by rw [show decide (k = 5) = decide (k = 4) by rw [decide_eq_false (by omega), decide_eq_false (by omega)]]]
        rfl
      -- told
      have hz := fmod_bd (z.fdiv 4) (j := 100000) (by decide)
      obtain ⟨z', hz'⟩ : ∃ z' : Nat, (z.fdiv 4).fmod 100000 = (z' : Int) := ⟨((z.fdiv 4).fmod 100000).toNat, by omega⟩
      have hm := fmod_bd (z.fdiv 400000) (j := 1000) (by decide)
      obtain ⟨m', hm'⟩ : ∃ m' : Nat, (z.fdiv 400000).fmod 1000 = (m' : Int) := ⟨((z.fdiv 400000).fmod 1000).toNat, by omega⟩
      refine ⟨_, rfl, _, rfl, _, _, rfl, rfl, ⟨by decide, by decide⟩, _, _, rfl, rfl, (by show (100000 : Int) ≠ 0; decide), _, rfl, _, _, rfl, rfl, ⟨by decide, by decide⟩, _, _, rfl, rfl, (by show (1000 : Int) ≠ 0; decide), k, z', m', (by dsimp only; rw [hz', hm']; rfl), hk4, by omega, by omega, fun H6 p s6 np hp => ?_⟩
      have hl6 := s6 _ _ hl5
      have dpB : ∀ (b0 b1 b2 b3 : Bool) (q : Addr), H6 q = some (.lst ([b0, b1, b2, b3, false, false, true].map V.bl)) → Dp K H6 (.ref q) (.list [.bool b0, .bool b1, .bool b2, .bool b3, .bool false, .bool false, .bool true]) := fun b0 b1 b2 b3 q hq => .lst (SqL.of hq) (.cons (.bl b0) (.cons (.bl b1) (.cons (.bl b2) (.cons (.bl b3) (.cons (.bl false) (.cons (.bl false) (.cons (.bl true) .nil)))))))
      have shB : ∀ b0 b1 b2 b3 : Bool, SeqAt.shaped (.list [.bool b0, .bool b1, .bool b2, .bool b3, .bool false, .bool false, .bool true]) = true := by
        intro b0 b1 b2 b3
        cases b0 <;> cases b1 <;> cases b2 <;> cases b3 <;> decide
      refine ⟨_, rfl, _, _, dpB _ _ _ _ p hp, dpB _ _ _ _ l2 hl6, shB _ _ _ _, shB _ _ _ _, _, rfl, ?_⟩
      rw [SeqAt.eqv_refl _ (SeqAt.canLay_of_shaped (shB _ _ _ _))]
      refine iteF ?_
      exact ⟨_, _, _, rfl, s2.trans (s3.trans (s5.trans s6))⟩
    rintro σ H2 ⟨y1, y2, y3, rfl, s2⟩
    -- return most(..) == 0 and held(..) is True
    refine ⟨sml (by show 2 ≤ 100000; decide), fun c nc => ?_⟩
    generalize e3 : upd H2 c _ = H3
    have hc3 : H3 c = some (.tup [.int 0, .int 9]) := by
      rw [← e3]
      exact upd_same
    refine ⟨sml (by show 1 ≤ 100000; decide), fun l nl => ?_⟩
    have s4 : Same H3 (upd H3 l (.lst [.ref c])) := same_new nl
    refine ⟨l, _, _, rfl, rfl, upd_same, by decide, by decide, (by show 1 * 40 ≤ sizeLine; exact sml (by decide)), fun l2 nl2 => ?_⟩
    have s5 := s4.trans (same_new (o := .lst ((List.replicate 40 c).map V.ref)) nl2)
    have e40 : (List.replicate ((40 : Int)).toNat [V.ref c]).flatten = (List.replicate 40 c).map V.ref := rfl
    rw [e40]
    refine ⟨10, l2, List.replicate 40 (0, 9), rfl, ⟨List.replicate 40 c, SqL.of upd_same, rfl, fun i t c' h1 h2 => ?_⟩, web09, by decide, by decide, by decide, fun H6 m s6 hm _ => ⟨rfl, _, rfl, ?_⟩⟩
    · rw [List.eq_of_mem_replicate (List.mem_of_getElem? h1), List.eq_of_mem_replicate (List.mem_of_getElem? h2)]
      exact SqT.of (s5 _ _ hc3)
    have hm0 := no09 hm
    subst hm0
    refine iteT ?_
    refine ⟨sml (by show 2 ≤ 100000; decide), fun c nc => ?_⟩
    have u1 : Same H6 (upd H6 c (.tup [.int 0, .int 1])) := same_new nc
    have h1 : upd H6 c (.tup [.int 0, .int 1]) c = some (.tup [.int 0, .int 1]) := upd_same
    generalize upd H6 c (.tup [.int 0, .int 1]) = G1 at u1 h1
    refine ⟨sml (by show 1 ≤ 100000; decide), fun l nl => ?_⟩
    have u2 : Same G1 (upd G1 l (.lst [.ref c])) := same_new nl
    have h2 : upd G1 l (.lst [.ref c]) l = some (.lst [.ref c]) := upd_same
    generalize upd G1 l (.lst [.ref c]) = G2 at u2 h2
    refine ⟨sml (by show 1 ≤ 100000; decide), fun f nf => ?_⟩
    have u3 : Same G2 (upd G2 f (.lst [.int 0])) := same_new nf
    have h3 : upd G2 f (.lst [.int 0]) f = some (.lst (natV [0])) := upd_same
    generalize upd G2 f (.lst [.int 0]) = G3 at u3 h3
    refine ⟨Nat.zero_le _, fun x nx => ?_⟩
    have u4 : Same G3 (upd G3 x (.lst [])) := same_new nx
    have h4 : upd G3 x (.lst []) x = some (.lst (natV [])) := upd_same
    generalize upd G3 x (.lst []) = G4 at u4 h4
    have hT : TiesAt K G4 l [(0, 1)] := ⟨[c], SqL.of (u4 _ _ (u3 _ _ h2)), rfl, fun i t c' g1 g2 => by
      match i, g1, g2 with
      | 0, g1, g2 =>
        cases g1
        cases g2
        exact SqT.of (u4 _ _ (u3 _ _ (u2 _ _ h1)))
      | i + 1, g1, _ => simp at g1⟩
    refine ⟨2, l, f, x, [(0, 1)], [0], [], rfl, ⟨hT, web1, by decide, by decide, by decide, u4 _ _ h3, h4, by decide, by decide, by decide⟩, fun H7 b s7 hb _ => ?_⟩
    obtain rfl : b = true := hb.mpr (.all all1)
    exact ⟨true, true, rfl, rfl, q H7⟩
end
end Jp
end
section
set_option Elab.async false
set_option linter.all false
set_option maxRecDepth 100000
set_option maxHeartbeats 4000000
namespace Jp
open PySem L2
theorem all_mk {l : PySem.W.OpenLaw} {w : World} {K : PySem.W.Frag} {h : Heap} {mg : Str → Option Value} {fa : Addr} (X : K.In h) (G : h.Ns mainGlobals mg) (hfa : mg "law" = some (.ref fa))
    {od__wall an__wall : Option Addr} {sl__wall : Array (Option Value)} {oc__wall kV__wall dc__wall pm__wall cd__wall ct__wall : Value} {f__wall : Addr}
    {od_is_number an_is_number : Option Addr} {sl_is_number : Array (Option Value)} {oc_is_number kV_is_number dc_is_number pm_is_number cd_is_number ct_is_number : Value} {f_is_number : Addr}
    {od_is_tie an_is_tie : Option Addr} {sl_is_tie : Array (Option Value)} {oc_is_tie kV_is_tie dc_is_tie pm_is_tie cd_is_tie ct_is_tie : Value} {f_is_tie : Addr}
    {od_asked_web an_asked_web : Option Addr} {sl_asked_web : Array (Option Value)} {oc_asked_web kV_asked_web dc_asked_web pm_asked_web cd_asked_web ct_asked_web : Value} {f_asked_web : Addr}
    {od_marks_by an_marks_by : Option Addr} {sl_marks_by : Array (Option Value)} {oc_marks_by kV_marks_by dc_marks_by pm_marks_by cd_marks_by ct_marks_by : Value} {f_marks_by : Addr}
    {od_groups_by an_groups_by : Option Addr} {sl_groups_by : Array (Option Value)} {oc_groups_by kV_groups_by dc_groups_by pm_groups_by cd_groups_by ct_groups_by : Value} {f_groups_by : Addr}
    {od_Trees_init an_Trees_init : Option Addr} {sl_Trees_init : Array (Option Value)} {oc_Trees_init kV_Trees_init dc_Trees_init pm_Trees_init cd_Trees_init ct_Trees_init : Value} {f_Trees_init : Addr}
    {od_Trees_shows an_Trees_shows : Option Addr} {sl_Trees_shows : Array (Option Value)} {oc_Trees_shows kV_Trees_shows dc_Trees_shows pm_Trees_shows cd_Trees_shows ct_Trees_shows : Value} {f_Trees_shows : Addr}
    {od_Parts_init an_Parts_init : Option Addr} {sl_Parts_init : Array (Option Value)} {oc_Parts_init kV_Parts_init dc_Parts_init pm_Parts_init cd_Parts_init ct_Parts_init : Value} {f_Parts_init : Addr}
    {od_Parts_shows an_Parts_shows : Option Addr} {sl_Parts_shows : Array (Option Value)} {oc_Parts_shows kV_Parts_shows dc_Parts_shows pm_Parts_shows cd_Parts_shows ct_Parts_shows : Value} {f_Parts_shows : Addr}
    {od_way_of an_way_of : Option Addr} {sl_way_of : Array (Option Value)} {oc_way_of kV_way_of dc_way_of pm_way_of cd_way_of ct_way_of : Value} {f_way_of : Addr}
    {od_put_in an_put_in : Option Addr} {sl_put_in : Array (Option Value)} {oc_put_in kV_put_in dc_put_in pm_put_in cd_put_in ct_put_in : Value} {f_put_in : Addr}
    {od_packed an_packed : Option Addr} {sl_packed : Array (Option Value)} {oc_packed kV_packed dc_packed pm_packed cd_packed ct_packed : Value} {f_packed : Addr}
    {od_told an_told : Option Addr} {sl_told : Array (Option Value)} {oc_told kV_told dc_told pm_told cd_told ct_told : Value} {f_told : Addr}
    {od_trees an_trees : Option Addr} {sl_trees : Array (Option Value)} {oc_trees kV_trees dc_trees pm_trees cd_trees ct_trees : Value} {f_trees : Addr}
    {od_most an_most : Option Addr} {sl_most : Array (Option Value)} {oc_most kV_most dc_most pm_most cd_most ct_most : Value} {f_most : Addr}
    {od_asked_moves an_asked_moves : Option Addr} {sl_asked_moves : Array (Option Value)} {oc_asked_moves kV_asked_moves dc_asked_moves pm_asked_moves cd_asked_moves ct_asked_moves : Value} {f_asked_moves : Addr}
    {od_rest an_rest : Option Addr} {sl_rest : Array (Option Value)} {oc_rest kV_rest dc_rest pm_rest cd_rest ct_rest : Value} {f_rest : Addr}
    {od_is_held an_is_held : Option Addr} {sl_is_held : Array (Option Value)} {oc_is_held kV_is_held dc_is_held pm_is_held cd_is_held ct_is_held : Value} {f_is_held : Addr}
    {od_held an_held : Option Addr} {sl_held : Array (Option Value)} {oc_held kV_held dc_held pm_held cd_held ct_held : Value} {f_held : Addr}
    {od_to_cut an_to_cut : Option Addr} {sl_to_cut : Array (Option Value)} {oc_to_cut kV_to_cut dc_to_cut pm_to_cut cd_to_cut ct_to_cut : Value} {f_to_cut : Addr}
    {od_to_join an_to_join : Option Addr} {sl_to_join : Array (Option Value)} {oc_to_join kV_to_join dc_to_join pm_to_join cd_to_join ct_to_join : Value} {f_to_join : Addr}
    {od__law_with_web an__law_with_web : Option Addr} {sl__law_with_web : Array (Option Value)} {oc__law_with_web kV__law_with_web dc__law_with_web pm__law_with_web cd__law_with_web ct__law_with_web : Value} {f__law_with_web : Addr}
    {od__law_bad_ties an__law_bad_ties : Option Addr} {sl__law_bad_ties : Array (Option Value)} {oc__law_bad_ties kV__law_bad_ties dc__law_bad_ties pm__law_bad_ties cd__law_bad_ties ct__law_bad_ties : Value} {f__law_bad_ties : Addr}
    {od__law_moves an__law_moves : Option Addr} {sl__law_moves : Array (Option Value)} {oc__law_moves kV__law_moves dc__law_moves pm__law_moves cd__law_moves ct__law_moves : Value} {f__law_moves : Addr}
    {od__law_told an__law_told : Option Addr} {sl__law_told : Array (Option Value)} {oc__law_told kV__law_told dc__law_told pm__law_told cd__law_told ct__law_told : Value} {f__law_told : Addr}
    {od_law an_law : Option Addr} {sl_law : Array (Option Value)} {oc_law kV_law dc_law pm_law cd_law ct_law : Value} {f_law : Addr}
    {c_Answer : Addr}
    {c_Trees : Addr}
    {c_Parts : Addr}
    {t_MOST : Tok}
    {t_MOST_TIES : Tok}
    {c_BadPeople : Addr}
    {c_BadTies : Addr}
    {c_BadMany : Addr}
    {c_BadMoves : Addr}
    {c_PlayError : Addr}
    {c_Held : Addr}
    {c_Lost : Addr}
    (z_len : PySem.W.nsIn K mainGlobals "len" = some none)
    (z_min : PySem.W.nsIn K mainGlobals "min" = some none)
    (z_max : PySem.W.nsIn K mainGlobals "max" = some none)
    (z_sorted : PySem.W.nsIn K mainGlobals "sorted" = some none)
    (z_all : PySem.W.nsIn K mainGlobals "all" = some none)
    (z_list : PySem.W.nsIn K mainGlobals "list" = some none)
    (z_range : PySem.W.nsIn K mainGlobals "range" = some none)
    (z_set : PySem.W.nsIn K mainGlobals "set" = some none)
    (z_tuple : PySem.W.nsIn K mainGlobals "tuple" = some none)
    (z_enumerate : PySem.W.nsIn K mainGlobals "enumerate" = some none)
    (z_zip : PySem.W.nsIn K mainGlobals "zip" = some none)
    (z_isinstance : PySem.W.nsIn K mainGlobals "isinstance" = some none)
    (z_int : PySem.W.nsIn K mainGlobals "int" = some none)
    (z_bool : PySem.W.nsIn K mainGlobals "bool" = some none)
    (z_ValueError : PySem.W.nsIn K mainGlobals "ValueError" = some none)
    (k_MOST : PySem.W.nsIn K mainGlobals "MOST" = some (some (.int 10 t_MOST)))
    (k_MOST_TIES : PySem.W.nsIn K mainGlobals "MOST_TIES" = some (some (.int 40 t_MOST_TIES)))
    (g_Answer : PySem.W.nsIn K mainGlobals "Answer" = some (some (.ref c_Answer)))
    (g_Trees : PySem.W.nsIn K mainGlobals "Trees" = some (some (.ref c_Trees)))
    (g_Parts : PySem.W.nsIn K mainGlobals "Parts" = some (some (.ref c_Parts)))
    (a__wall : PySem.W.nsIn K mainGlobals "_wall" = some (some (.ref f__wall)))
    (l__wall : K.lookup f__wall = some ⟨oc__wall, od__wall, .func (PySem.W.fnOf "_wall" "_wall" (defArgs s__wall) (defBody s__wall) (defScope s__wall) .none kV__wall dc__wall pm__wall an__wall cd__wall ct__wall), sl__wall⟩)
    (cc__wall : PySem.W.codeIn K cd__wall "_wall" = true)
    (kk__wall : PySem.W.keepIn K (.ref f__wall) = true)
    (a_is_number : PySem.W.nsIn K mainGlobals "is_number" = some (some (.ref f_is_number)))
    (l_is_number : K.lookup f_is_number = some ⟨oc_is_number, od_is_number, .func (PySem.W.fnOf "is_number" "is_number" (defArgs s_is_number) (defBody s_is_number) (defScope s_is_number) .none kV_is_number dc_is_number pm_is_number an_is_number cd_is_number ct_is_number), sl_is_number⟩)
    (cc_is_number : PySem.W.codeIn K cd_is_number "is_number" = true)
    (kk_is_number : PySem.W.keepIn K (.ref f_is_number) = true)
    (a_is_tie : PySem.W.nsIn K mainGlobals "is_tie" = some (some (.ref f_is_tie)))
    (l_is_tie : K.lookup f_is_tie = some ⟨oc_is_tie, od_is_tie, .func (PySem.W.fnOf "is_tie" "is_tie" (defArgs s_is_tie) (defBody s_is_tie) (defScope s_is_tie) .none kV_is_tie dc_is_tie pm_is_tie an_is_tie cd_is_tie ct_is_tie), sl_is_tie⟩)
    (cc_is_tie : PySem.W.codeIn K cd_is_tie "is_tie" = true)
    (kk_is_tie : PySem.W.keepIn K (.ref f_is_tie) = true)
    (a_asked_web : PySem.W.nsIn K mainGlobals "asked_web" = some (some (.ref f_asked_web)))
    (l_asked_web : K.lookup f_asked_web = some ⟨oc_asked_web, od_asked_web, .func (PySem.W.fnOf "asked_web" "asked_web" (defArgs s_asked_web) (defBody s_asked_web) (defScope s_asked_web) .none kV_asked_web dc_asked_web pm_asked_web an_asked_web cd_asked_web ct_asked_web), sl_asked_web⟩)
    (cc_asked_web : PySem.W.codeIn K cd_asked_web "asked_web" = true)
    (kk_asked_web : PySem.W.keepIn K (.ref f_asked_web) = true)
    (a_marks_by : PySem.W.nsIn K mainGlobals "marks_by" = some (some (.ref f_marks_by)))
    (l_marks_by : K.lookup f_marks_by = some ⟨oc_marks_by, od_marks_by, .func (PySem.W.fnOf "marks_by" "marks_by" (defArgs s_marks_by) (defBody s_marks_by) (defScope s_marks_by) .none kV_marks_by dc_marks_by pm_marks_by an_marks_by cd_marks_by ct_marks_by), sl_marks_by⟩)
    (cc_marks_by : PySem.W.codeIn K cd_marks_by "marks_by" = true)
    (kk_marks_by : PySem.W.keepIn K (.ref f_marks_by) = true)
    (a_groups_by : PySem.W.nsIn K mainGlobals "groups_by" = some (some (.ref f_groups_by)))
    (l_groups_by : K.lookup f_groups_by = some ⟨oc_groups_by, od_groups_by, .func (PySem.W.fnOf "groups_by" "groups_by" (defArgs s_groups_by) (defBody s_groups_by) (defScope s_groups_by) .none kV_groups_by dc_groups_by pm_groups_by an_groups_by cd_groups_by ct_groups_by), sl_groups_by⟩)
    (cc_groups_by : PySem.W.codeIn K cd_groups_by "groups_by" = true)
    (kk_groups_by : PySem.W.keepIn K (.ref f_groups_by) = true)
    (a_Trees_init : PySem.W.findIn K (.ref c_Trees) "__init__" = some (some (.ref f_Trees_init)))
    (i_Trees_init : PySem.W.isFn K (.ref f_Trees_init) = true)
    (l_Trees_init : K.lookup f_Trees_init = some ⟨oc_Trees_init, od_Trees_init, .func (PySem.W.fnOf "__init__" "Trees.__init__" (defArgs s_Trees_init) (defBody s_Trees_init) (defScope s_Trees_init) .none kV_Trees_init dc_Trees_init pm_Trees_init an_Trees_init cd_Trees_init ct_Trees_init), sl_Trees_init⟩)
    (cc_Trees_init : PySem.W.codeIn K cd_Trees_init "Trees.__init__" = true)
    (kk_Trees_init : PySem.W.keepIn K (.ref f_Trees_init) = true)
    (a_Trees_shows : PySem.W.findIn K (.ref c_Trees) "shows" = some (some (.ref f_Trees_shows)))
    (i_Trees_shows : PySem.W.isFn K (.ref f_Trees_shows) = true)
    (l_Trees_shows : K.lookup f_Trees_shows = some ⟨oc_Trees_shows, od_Trees_shows, .func (PySem.W.fnOf "shows" "Trees.shows" (defArgs s_Trees_shows) (defBody s_Trees_shows) (defScope s_Trees_shows) .none kV_Trees_shows dc_Trees_shows pm_Trees_shows an_Trees_shows cd_Trees_shows ct_Trees_shows), sl_Trees_shows⟩)
    (cc_Trees_shows : PySem.W.codeIn K cd_Trees_shows "Trees.shows" = true)
    (kk_Trees_shows : PySem.W.keepIn K (.ref f_Trees_shows) = true)
    (a_Parts_init : PySem.W.findIn K (.ref c_Parts) "__init__" = some (some (.ref f_Parts_init)))
    (i_Parts_init : PySem.W.isFn K (.ref f_Parts_init) = true)
    (l_Parts_init : K.lookup f_Parts_init = some ⟨oc_Parts_init, od_Parts_init, .func (PySem.W.fnOf "__init__" "Parts.__init__" (defArgs s_Parts_init) (defBody s_Parts_init) (defScope s_Parts_init) .none kV_Parts_init dc_Parts_init pm_Parts_init an_Parts_init cd_Parts_init ct_Parts_init), sl_Parts_init⟩)
    (cc_Parts_init : PySem.W.codeIn K cd_Parts_init "Parts.__init__" = true)
    (kk_Parts_init : PySem.W.keepIn K (.ref f_Parts_init) = true)
    (a_Parts_shows : PySem.W.findIn K (.ref c_Parts) "shows" = some (some (.ref f_Parts_shows)))
    (i_Parts_shows : PySem.W.isFn K (.ref f_Parts_shows) = true)
    (l_Parts_shows : K.lookup f_Parts_shows = some ⟨oc_Parts_shows, od_Parts_shows, .func (PySem.W.fnOf "shows" "Parts.shows" (defArgs s_Parts_shows) (defBody s_Parts_shows) (defScope s_Parts_shows) .none kV_Parts_shows dc_Parts_shows pm_Parts_shows an_Parts_shows cd_Parts_shows ct_Parts_shows), sl_Parts_shows⟩)
    (cc_Parts_shows : PySem.W.codeIn K cd_Parts_shows "Parts.shows" = true)
    (kk_Parts_shows : PySem.W.keepIn K (.ref f_Parts_shows) = true)
    (a_way_of : PySem.W.nsIn K mainGlobals "way_of" = some (some (.ref f_way_of)))
    (l_way_of : K.lookup f_way_of = some ⟨oc_way_of, od_way_of, .func (PySem.W.fnOf "way_of" "way_of" (defArgs s_way_of) (defBody s_way_of) (defScope s_way_of) .none kV_way_of dc_way_of pm_way_of an_way_of cd_way_of ct_way_of), sl_way_of⟩)
    (cc_way_of : PySem.W.codeIn K cd_way_of "way_of" = true)
    (kk_way_of : PySem.W.keepIn K (.ref f_way_of) = true)
    (a_put_in : PySem.W.nsIn K mainGlobals "put_in" = some (some (.ref f_put_in)))
    (l_put_in : K.lookup f_put_in = some ⟨oc_put_in, od_put_in, .func (PySem.W.fnOf "put_in" "put_in" (defArgs s_put_in) (defBody s_put_in) (defScope s_put_in) .none kV_put_in dc_put_in pm_put_in an_put_in cd_put_in ct_put_in), sl_put_in⟩)
    (cc_put_in : PySem.W.codeIn K cd_put_in "put_in" = true)
    (kk_put_in : PySem.W.keepIn K (.ref f_put_in) = true)
    (a_packed : PySem.W.nsIn K mainGlobals "packed" = some (some (.ref f_packed)))
    (l_packed : K.lookup f_packed = some ⟨oc_packed, od_packed, .func (PySem.W.fnOf "packed" "packed" (defArgs s_packed) (defBody s_packed) (defScope s_packed) .none kV_packed dc_packed pm_packed an_packed cd_packed ct_packed), sl_packed⟩)
    (cc_packed : PySem.W.codeIn K cd_packed "packed" = true)
    (kk_packed : PySem.W.keepIn K (.ref f_packed) = true)
    (a_told : PySem.W.nsIn K mainGlobals "told" = some (some (.ref f_told)))
    (l_told : K.lookup f_told = some ⟨oc_told, od_told, .func (PySem.W.fnOf "told" "told" (defArgs s_told) (defBody s_told) (defScope s_told) .none kV_told dc_told pm_told an_told cd_told ct_told), sl_told⟩)
    (cc_told : PySem.W.codeIn K cd_told "told" = true)
    (kk_told : PySem.W.keepIn K (.ref f_told) = true)
    (a_trees : PySem.W.nsIn K mainGlobals "trees" = some (some (.ref f_trees)))
    (l_trees : K.lookup f_trees = some ⟨oc_trees, od_trees, .func (PySem.W.fnOf "trees" "trees" (defArgs s_trees) (defBody s_trees) (defScope s_trees) .none kV_trees dc_trees pm_trees an_trees cd_trees ct_trees), sl_trees⟩)
    (cc_trees : PySem.W.codeIn K cd_trees "trees" = true)
    (kk_trees : PySem.W.keepIn K (.ref f_trees) = true)
    (a_most : PySem.W.nsIn K mainGlobals "most" = some (some (.ref f_most)))
    (l_most : K.lookup f_most = some ⟨oc_most, od_most, .func (PySem.W.fnOf "most" "most" (defArgs s_most) (defBody s_most) (defScope s_most) .none kV_most dc_most pm_most an_most cd_most ct_most), sl_most⟩)
    (cc_most : PySem.W.codeIn K cd_most "most" = true)
    (kk_most : PySem.W.keepIn K (.ref f_most) = true)
    (a_asked_moves : PySem.W.nsIn K mainGlobals "asked_moves" = some (some (.ref f_asked_moves)))
    (l_asked_moves : K.lookup f_asked_moves = some ⟨oc_asked_moves, od_asked_moves, .func (PySem.W.fnOf "asked_moves" "asked_moves" (defArgs s_asked_moves) (defBody s_asked_moves) (defScope s_asked_moves) .none kV_asked_moves dc_asked_moves pm_asked_moves an_asked_moves cd_asked_moves ct_asked_moves), sl_asked_moves⟩)
    (cc_asked_moves : PySem.W.codeIn K cd_asked_moves "asked_moves" = true)
    (kk_asked_moves : PySem.W.keepIn K (.ref f_asked_moves) = true)
    (a_rest : PySem.W.nsIn K mainGlobals "rest" = some (some (.ref f_rest)))
    (l_rest : K.lookup f_rest = some ⟨oc_rest, od_rest, .func (PySem.W.fnOf "rest" "rest" (defArgs s_rest) (defBody s_rest) (defScope s_rest) .none kV_rest dc_rest pm_rest an_rest cd_rest ct_rest), sl_rest⟩)
    (cc_rest : PySem.W.codeIn K cd_rest "rest" = true)
    (kk_rest : PySem.W.keepIn K (.ref f_rest) = true)
    (a_is_held : PySem.W.nsIn K mainGlobals "is_held" = some (some (.ref f_is_held)))
    (l_is_held : K.lookup f_is_held = some ⟨oc_is_held, od_is_held, .func (PySem.W.fnOf "is_held" "is_held" (defArgs s_is_held) (defBody s_is_held) (defScope s_is_held) .none kV_is_held dc_is_held pm_is_held an_is_held cd_is_held ct_is_held), sl_is_held⟩)
    (cc_is_held : PySem.W.codeIn K cd_is_held "is_held" = true)
    (kk_is_held : PySem.W.keepIn K (.ref f_is_held) = true)
    (a_held : PySem.W.nsIn K mainGlobals "held" = some (some (.ref f_held)))
    (l_held : K.lookup f_held = some ⟨oc_held, od_held, .func (PySem.W.fnOf "held" "held" (defArgs s_held) (defBody s_held) (defScope s_held) .none kV_held dc_held pm_held an_held cd_held ct_held), sl_held⟩)
    (cc_held : PySem.W.codeIn K cd_held "held" = true)
    (kk_held : PySem.W.keepIn K (.ref f_held) = true)
    (a_to_cut : PySem.W.nsIn K mainGlobals "to_cut" = some (some (.ref f_to_cut)))
    (l_to_cut : K.lookup f_to_cut = some ⟨oc_to_cut, od_to_cut, .func (PySem.W.fnOf "to_cut" "to_cut" (defArgs s_to_cut) (defBody s_to_cut) (defScope s_to_cut) .none kV_to_cut dc_to_cut pm_to_cut an_to_cut cd_to_cut ct_to_cut), sl_to_cut⟩)
    (cc_to_cut : PySem.W.codeIn K cd_to_cut "to_cut" = true)
    (kk_to_cut : PySem.W.keepIn K (.ref f_to_cut) = true)
    (a_to_join : PySem.W.nsIn K mainGlobals "to_join" = some (some (.ref f_to_join)))
    (l_to_join : K.lookup f_to_join = some ⟨oc_to_join, od_to_join, .func (PySem.W.fnOf "to_join" "to_join" (defArgs s_to_join) (defBody s_to_join) (defScope s_to_join) .none kV_to_join dc_to_join pm_to_join an_to_join cd_to_join ct_to_join), sl_to_join⟩)
    (cc_to_join : PySem.W.codeIn K cd_to_join "to_join" = true)
    (kk_to_join : PySem.W.keepIn K (.ref f_to_join) = true)
    (a__law_with_web : PySem.W.nsIn K mainGlobals "_law_with_web" = some (some (.ref f__law_with_web)))
    (l__law_with_web : K.lookup f__law_with_web = some ⟨oc__law_with_web, od__law_with_web, .func (PySem.W.fnOf "_law_with_web" "_law_with_web" (defArgs s__law_with_web) (defBody s__law_with_web) (defScope s__law_with_web) .none kV__law_with_web dc__law_with_web pm__law_with_web an__law_with_web cd__law_with_web ct__law_with_web), sl__law_with_web⟩)
    (cc__law_with_web : PySem.W.codeIn K cd__law_with_web "_law_with_web" = true)
    (kk__law_with_web : PySem.W.keepIn K (.ref f__law_with_web) = true)
    (a__law_bad_ties : PySem.W.nsIn K mainGlobals "_law_bad_ties" = some (some (.ref f__law_bad_ties)))
    (l__law_bad_ties : K.lookup f__law_bad_ties = some ⟨oc__law_bad_ties, od__law_bad_ties, .func (PySem.W.fnOf "_law_bad_ties" "_law_bad_ties" (defArgs s__law_bad_ties) (defBody s__law_bad_ties) (defScope s__law_bad_ties) .none kV__law_bad_ties dc__law_bad_ties pm__law_bad_ties an__law_bad_ties cd__law_bad_ties ct__law_bad_ties), sl__law_bad_ties⟩)
    (cc__law_bad_ties : PySem.W.codeIn K cd__law_bad_ties "_law_bad_ties" = true)
    (kk__law_bad_ties : PySem.W.keepIn K (.ref f__law_bad_ties) = true)
    (a__law_moves : PySem.W.nsIn K mainGlobals "_law_moves" = some (some (.ref f__law_moves)))
    (l__law_moves : K.lookup f__law_moves = some ⟨oc__law_moves, od__law_moves, .func (PySem.W.fnOf "_law_moves" "_law_moves" (defArgs s__law_moves) (defBody s__law_moves) (defScope s__law_moves) .none kV__law_moves dc__law_moves pm__law_moves an__law_moves cd__law_moves ct__law_moves), sl__law_moves⟩)
    (cc__law_moves : PySem.W.codeIn K cd__law_moves "_law_moves" = true)
    (kk__law_moves : PySem.W.keepIn K (.ref f__law_moves) = true)
    (a__law_told : PySem.W.nsIn K mainGlobals "_law_told" = some (some (.ref f__law_told)))
    (l__law_told : K.lookup f__law_told = some ⟨oc__law_told, od__law_told, .func (PySem.W.fnOf "_law_told" "_law_told" (defArgs s__law_told) (defBody s__law_told) (defScope s__law_told) .none kV__law_told dc__law_told pm__law_told an__law_told cd__law_told ct__law_told), sl__law_told⟩)
    (cc__law_told : PySem.W.codeIn K cd__law_told "_law_told" = true)
    (kk__law_told : PySem.W.keepIn K (.ref f__law_told) = true)
    (a_law : PySem.W.nsIn K mainGlobals "law" = some (some (.ref f_law)))
    (l_law : K.lookup f_law = some ⟨oc_law, od_law, .func (PySem.W.fnOf "law" "law" (defArgs s_law) (defBody s_law) (defScope s_law) .none kV_law dc_law pm_law an_law cd_law ct_law), sl_law⟩)
    (cc_law : PySem.W.codeIn K cd_law "law" = true)
    (kk_law : PySem.W.keepIn K (.ref f_law) = true)
    (pg_Trees : PySem.W.plainGet K c_Trees Str.empty = true)
    (hd_Trees : PySem.W.hasDictIn K c_Trees = true)
    (po_Trees : PySem.W.plainOver K c_Trees = true)
    (sa_Trees : PySem.W.findIn K (.ref c_Trees) "__setattr__" = some (some (.builtin "object.__setattr__")))
    (ma_Trees : PySem.W.makesIn K c_Trees = true)
    (kc_Trees : PySem.W.keepIn K (.ref c_Trees) = true)
    (na_Trees_trees : PySem.W.findIn K (.ref c_Trees) "trees" = some none)
    (pg_Parts : PySem.W.plainGet K c_Parts Str.empty = true)
    (hd_Parts : PySem.W.hasDictIn K c_Parts = true)
    (po_Parts : PySem.W.plainOver K c_Parts = true)
    (sa_Parts : PySem.W.findIn K (.ref c_Parts) "__setattr__" = some (some (.builtin "object.__setattr__")))
    (ma_Parts : PySem.W.makesIn K c_Parts = true)
    (kc_Parts : PySem.W.keepIn K (.ref c_Parts) = true)
    (na_Parts_groups : PySem.W.findIn K (.ref c_Parts) "groups" = some none)
    (hn0 : PySem.W.specialIn K (.builtin "object.__class__") "__get__" = some (some (.builtin "getset_descriptor.__get__")))
    (htk0 : PySem.W.takesIn K (.builtin "object.__class__") = some true)
    (ha_Trees : PySem.W.findIn K (.ref c_Trees) "__class__" = some (some (.builtin "object.__class__")))
    (hm_Trees : PySem.W.mroIn K c_Trees (.type "object") = some true)
    (ki_Trees_Trees : PySem.W.kitOne K (.ref c_Trees) (.ref c_Trees) = some true)
    (ki_Trees_Parts : PySem.W.kitOne K (.ref c_Trees) (.ref c_Parts) = some false)
    (ki_Trees_Answer : PySem.W.kitOne K (.ref c_Trees) (.ref c_Answer) = some true)
    (ha_Parts : PySem.W.findIn K (.ref c_Parts) "__class__" = some (some (.builtin "object.__class__")))
    (hm_Parts : PySem.W.mroIn K c_Parts (.type "object") = some true)
    (ki_Parts_Trees : PySem.W.kitOne K (.ref c_Parts) (.ref c_Trees) = some false)
    (ki_Parts_Parts : PySem.W.kitOne K (.ref c_Parts) (.ref c_Parts) = some true)
    (ki_Parts_Answer : PySem.W.kitOne K (.ref c_Parts) (.ref c_Answer) = some true)
    (ki_BadPeople_BadPeople : PySem.W.kitOne K (.ref c_BadPeople) (.ref c_BadPeople) = some true)
    (ki_BadPeople_BadTies : PySem.W.kitOne K (.ref c_BadPeople) (.ref c_BadTies) = some false)
    (ki_BadPeople_BadMany : PySem.W.kitOne K (.ref c_BadPeople) (.ref c_BadMany) = some false)
    (ki_BadPeople_BadMoves : PySem.W.kitOne K (.ref c_BadPeople) (.ref c_BadMoves) = some false)
    (ki_BadPeople_Held : PySem.W.kitOne K (.ref c_BadPeople) (.ref c_Held) = some false)
    (ki_BadPeople_Lost : PySem.W.kitOne K (.ref c_BadPeople) (.ref c_Lost) = some false)
    (ki_BadPeople_ValueError : PySem.W.kitOne K (.ref c_BadPeople) (.type "ValueError") = some true)
    (ki_BadTies_BadPeople : PySem.W.kitOne K (.ref c_BadTies) (.ref c_BadPeople) = some false)
    (ki_BadTies_BadTies : PySem.W.kitOne K (.ref c_BadTies) (.ref c_BadTies) = some true)
    (ki_BadTies_BadMany : PySem.W.kitOne K (.ref c_BadTies) (.ref c_BadMany) = some false)
    (ki_BadTies_BadMoves : PySem.W.kitOne K (.ref c_BadTies) (.ref c_BadMoves) = some false)
    (ki_BadTies_Held : PySem.W.kitOne K (.ref c_BadTies) (.ref c_Held) = some false)
    (ki_BadTies_Lost : PySem.W.kitOne K (.ref c_BadTies) (.ref c_Lost) = some false)
    (ki_BadTies_ValueError : PySem.W.kitOne K (.ref c_BadTies) (.type "ValueError") = some true)
    (ki_BadMany_BadPeople : PySem.W.kitOne K (.ref c_BadMany) (.ref c_BadPeople) = some false)
    (ki_BadMany_BadTies : PySem.W.kitOne K (.ref c_BadMany) (.ref c_BadTies) = some false)
    (ki_BadMany_BadMany : PySem.W.kitOne K (.ref c_BadMany) (.ref c_BadMany) = some true)
    (ki_BadMany_BadMoves : PySem.W.kitOne K (.ref c_BadMany) (.ref c_BadMoves) = some false)
    (ki_BadMany_Held : PySem.W.kitOne K (.ref c_BadMany) (.ref c_Held) = some false)
    (ki_BadMany_Lost : PySem.W.kitOne K (.ref c_BadMany) (.ref c_Lost) = some false)
    (ki_BadMany_ValueError : PySem.W.kitOne K (.ref c_BadMany) (.type "ValueError") = some true)
    (ki_BadMoves_BadPeople : PySem.W.kitOne K (.ref c_BadMoves) (.ref c_BadPeople) = some false)
    (ki_BadMoves_BadTies : PySem.W.kitOne K (.ref c_BadMoves) (.ref c_BadTies) = some false)
    (ki_BadMoves_BadMany : PySem.W.kitOne K (.ref c_BadMoves) (.ref c_BadMany) = some false)
    (ki_BadMoves_BadMoves : PySem.W.kitOne K (.ref c_BadMoves) (.ref c_BadMoves) = some true)
    (ki_BadMoves_Held : PySem.W.kitOne K (.ref c_BadMoves) (.ref c_Held) = some false)
    (ki_BadMoves_Lost : PySem.W.kitOne K (.ref c_BadMoves) (.ref c_Lost) = some false)
    (ki_BadMoves_ValueError : PySem.W.kitOne K (.ref c_BadMoves) (.type "ValueError") = some true)
    (g_BadPeople : PySem.W.nsIn K mainGlobals "BadPeople" = some (some (.ref c_BadPeople)))
    (g_BadTies : PySem.W.nsIn K mainGlobals "BadTies" = some (some (.ref c_BadTies)))
    (g_BadMany : PySem.W.nsIn K mainGlobals "BadMany" = some (some (.ref c_BadMany)))
    (g_BadMoves : PySem.W.nsIn K mainGlobals "BadMoves" = some (some (.ref c_BadMoves)))
    (g_PlayError : PySem.W.nsIn K mainGlobals "PlayError" = some (some (.ref c_PlayError)))
    (g_Held : PySem.W.nsIn K mainGlobals "Held" = some (some (.ref c_Held)))
    (g_Lost : PySem.W.nsIn K mainGlobals "Lost" = some (some (.ref c_Lost)))
    (sb_BadPeople : PySem.W.subIn K (.ref c_BadPeople) (.type "BaseException") = some true)
    (tp_BadPeople : PySem.W.typeIn K (.ref c_BadPeople) = some (.type "type"))
    (hd_BadPeople : PySem.W.hasDictIn K c_BadPeople = true)
    (sb_BadTies : PySem.W.subIn K (.ref c_BadTies) (.type "BaseException") = some true)
    (tp_BadTies : PySem.W.typeIn K (.ref c_BadTies) = some (.type "type"))
    (hd_BadTies : PySem.W.hasDictIn K c_BadTies = true)
    (sb_BadMany : PySem.W.subIn K (.ref c_BadMany) (.type "BaseException") = some true)
    (tp_BadMany : PySem.W.typeIn K (.ref c_BadMany) = some (.type "type"))
    (hd_BadMany : PySem.W.hasDictIn K c_BadMany = true)
    (sb_BadMoves : PySem.W.subIn K (.ref c_BadMoves) (.type "BaseException") = some true)
    (tp_BadMoves : PySem.W.typeIn K (.ref c_BadMoves) = some (.type "type"))
    (hd_BadMoves : PySem.W.hasDictIn K c_BadMoves = true)
    (sb_PlayError : PySem.W.subIn K (.ref c_PlayError) (.type "BaseException") = some true)
    (tp_PlayError : PySem.W.typeIn K (.ref c_PlayError) = some (.type "type"))
    (hd_PlayError : PySem.W.hasDictIn K c_PlayError = true)
    (x_BadPeople : PySem.W.excIn K c_BadPeople [.type "ValueError", .type "Exception", .type "BaseException", .type "object"] "ValueError.__new__" = true)
    (kp_BadPeople : PySem.W.keepIn K (.ref c_BadPeople) = true)
    (su_BadPeople_PlayError : PySem.W.subIn K (.ref c_BadPeople) (.ref c_PlayError) = some true)
    (ga_BadPeople : PySem.W.findIn K (.ref c_BadPeople) "__getattribute__" = some (some (.builtin "BaseException.__getattribute__")))
    (gt_BadPeople : PySem.W.findIn K (.ref c_BadPeople) "__getattr__" = some none)
    (hac_BadPeople : PySem.W.findIn K (.ref c_BadPeople) "__class__" = some (some (.builtin "object.__class__")))
    (hmm_BadPeople : PySem.W.mroIn K c_BadPeople (.type "object") = some true)
    (x_BadTies : PySem.W.excIn K c_BadTies [.type "ValueError", .type "Exception", .type "BaseException", .type "object"] "ValueError.__new__" = true)
    (kp_BadTies : PySem.W.keepIn K (.ref c_BadTies) = true)
    (su_BadTies_PlayError : PySem.W.subIn K (.ref c_BadTies) (.ref c_PlayError) = some true)
    (ga_BadTies : PySem.W.findIn K (.ref c_BadTies) "__getattribute__" = some (some (.builtin "BaseException.__getattribute__")))
    (gt_BadTies : PySem.W.findIn K (.ref c_BadTies) "__getattr__" = some none)
    (hac_BadTies : PySem.W.findIn K (.ref c_BadTies) "__class__" = some (some (.builtin "object.__class__")))
    (hmm_BadTies : PySem.W.mroIn K c_BadTies (.type "object") = some true)
    (x_BadMany : PySem.W.excIn K c_BadMany [.type "ValueError", .type "Exception", .type "BaseException", .type "object"] "ValueError.__new__" = true)
    (kp_BadMany : PySem.W.keepIn K (.ref c_BadMany) = true)
    (su_BadMany_PlayError : PySem.W.subIn K (.ref c_BadMany) (.ref c_PlayError) = some true)
    (ga_BadMany : PySem.W.findIn K (.ref c_BadMany) "__getattribute__" = some (some (.builtin "BaseException.__getattribute__")))
    (gt_BadMany : PySem.W.findIn K (.ref c_BadMany) "__getattr__" = some none)
    (hac_BadMany : PySem.W.findIn K (.ref c_BadMany) "__class__" = some (some (.builtin "object.__class__")))
    (hmm_BadMany : PySem.W.mroIn K c_BadMany (.type "object") = some true)
    (x_BadMoves : PySem.W.excIn K c_BadMoves [.type "ValueError", .type "Exception", .type "BaseException", .type "object"] "ValueError.__new__" = true)
    (kp_BadMoves : PySem.W.keepIn K (.ref c_BadMoves) = true)
    (su_BadMoves_PlayError : PySem.W.subIn K (.ref c_BadMoves) (.ref c_PlayError) = some true)
    (ga_BadMoves : PySem.W.findIn K (.ref c_BadMoves) "__getattribute__" = some (some (.builtin "BaseException.__getattribute__")))
    (gt_BadMoves : PySem.W.findIn K (.ref c_BadMoves) "__getattr__" = some none)
    (hac_BadMoves : PySem.W.findIn K (.ref c_BadMoves) "__class__" = some (some (.builtin "object.__class__")))
    (hmm_BadMoves : PySem.W.mroIn K c_BadMoves (.type "object") = some true) :
    ∃ fd : FuncData, (∀ (s : Shared) (v : Value), BindsTo s fd ⟨[v], []⟩ [("_law_script", v)]) ∧ ∀ base : Heap, K.In base → base.Ns mainGlobals mg → FnOk l.prog w K mg base CX0 9 fa fd ["_law_script"] (spLaw K) := by
  have e := hfa.symm.trans (PySem.W.mg_of X G a_law)
  cases e
  have F__wall := fun_mk (st := s__wall) l__wall cc__wall kk__wall
  have b__wall := F__wall.binds (ps := ["k"]) fun _ _ _ _ _ _ us hl => match us, hl with | [_], _ => rfl
  have F_is_number := fun_mk (st := s_is_number) l_is_number cc_is_number kk_is_number
  have b_is_number := F_is_number.binds (ps := ["thing"]) fun _ _ _ _ _ _ us hl => match us, hl with | [_], _ => rfl
  have F_is_tie := fun_mk (st := s_is_tie) l_is_tie cc_is_tie kk_is_tie
  have b_is_tie := F_is_tie.binds (ps := ["thing", "people"]) fun _ _ _ _ _ _ us hl => match us, hl with | [_, _], _ => rfl
  have F_asked_web := fun_mk (st := s_asked_web) l_asked_web cc_asked_web kk_asked_web
  have b_asked_web := F_asked_web.binds (ps := ["people", "ties"]) fun _ _ _ _ _ _ us hl => match us, hl with | [_, _], _ => rfl
  have F_marks_by := fun_mk (st := s_marks_by) l_marks_by cc_marks_by kk_marks_by
  have b_marks_by := F_marks_by.binds (ps := ["people", "ties", "some"]) fun _ _ _ _ _ _ us hl => match us, hl with | [_, _, _], _ => rfl
  have F_groups_by := fun_mk (st := s_groups_by) l_groups_by cc_groups_by kk_groups_by
  have b_groups_by := F_groups_by.binds (ps := ["people", "ties", "some"]) fun _ _ _ _ _ _ us hl => match us, hl with | [_, _, _], _ => rfl
  have F_Trees_init := fun_mk (st := s_Trees_init) l_Trees_init cc_Trees_init kk_Trees_init
  have b_Trees_init := F_Trees_init.binds (ps := ["self", "trees"]) fun _ _ _ _ _ _ us hl => match us, hl with | [_, _], _ => rfl
  have F_Trees_shows := fun_mk (st := s_Trees_shows) l_Trees_shows cc_Trees_shows kk_Trees_shows
  have b_Trees_shows := F_Trees_shows.binds (ps := ["self", "people", "ties", "many"]) fun _ _ _ _ _ _ us hl => match us, hl with | [_, _, _, _], _ => rfl
  have F_Parts_init := fun_mk (st := s_Parts_init) l_Parts_init cc_Parts_init kk_Parts_init
  have b_Parts_init := F_Parts_init.binds (ps := ["self", "groups"]) fun _ _ _ _ _ _ us hl => match us, hl with | [_, _], _ => rfl
  have F_Parts_shows := fun_mk (st := s_Parts_shows) l_Parts_shows cc_Parts_shows kk_Parts_shows
  have b_Parts_shows := F_Parts_shows.binds (ps := ["self", "people", "ties", "many"]) fun _ _ _ _ _ _ us hl => match us, hl with | [_, _, _, _], _ => rfl
  have F_way_of := fun_mk (st := s_way_of) l_way_of cc_way_of kk_way_of
  have b_way_of := F_way_of.binds (ps := ["ties", "owner", "forest", "one", "other"]) fun _ _ _ _ _ _ us hl => match us, hl with | [_, _, _, _, _], _ => rfl
  have F_put_in := fun_mk (st := s_put_in) l_put_in cc_put_in kk_put_in
  have b_put_in := F_put_in.binds (ps := ["ties", "owner", "many", "first"]) fun _ _ _ _ _ _ us hl => match us, hl with | [_, _, _, _], _ => rfl
  have F_packed := fun_mk (st := s_packed) l_packed cc_packed kk_packed
  have b_packed := F_packed.binds (ps := ["people", "ties", "many"]) fun _ _ _ _ _ _ us hl => match us, hl with | [_, _, _], _ => rfl
  have F_told := fun_mk (st := s_told) l_told cc_told kk_told
  have b_told := F_told.binds (ps := ["people", "ties", "many"]) fun _ _ _ _ _ _ us hl => match us, hl with | [_, _, _], _ => rfl
  have F_trees := fun_mk (st := s_trees) l_trees cc_trees kk_trees
  have b_trees := F_trees.binds (ps := ["people", "ties", "many"]) fun _ _ _ _ _ _ us hl => match us, hl with | [_, _, _], _ => rfl
  have F_most := fun_mk (st := s_most) l_most cc_most kk_most
  have b_most := F_most.binds (ps := ["people", "ties"]) fun _ _ _ _ _ _ us hl => match us, hl with | [_, _], _ => rfl
  have F_asked_moves := fun_mk (st := s_asked_moves) l_asked_moves cc_asked_moves kk_asked_moves
  have b_asked_moves := F_asked_moves.binds (ps := ["people", "ties", "fast", "cut"]) fun _ _ _ _ _ _ us hl => match us, hl with | [_, _, _, _], _ => rfl
  have F_rest := fun_mk (st := s_rest) l_rest cc_rest kk_rest
  have b_rest := F_rest.binds (ps := ["people", "ties", "fast", "cut"]) fun _ _ _ _ _ _ us hl => match us, hl with | [_, _, _, _], _ => rfl
  have F_is_held := fun_mk (st := s_is_held) l_is_held cc_is_held kk_is_held
  have b_is_held := F_is_held.binds (ps := ["people", "ties", "fast", "cut"]) fun _ _ _ _ _ _ us hl => match us, hl with | [_, _, _, _], _ => rfl
  have F_held := fun_mk (st := s_held) l_held cc_held kk_held
  have b_held := F_held.binds (ps := ["people", "ties", "fast", "cut"]) fun _ _ _ _ _ _ us hl => match us, hl with | [_, _, _, _], _ => rfl
  have F_to_cut := fun_mk (st := s_to_cut) l_to_cut cc_to_cut kk_to_cut
  have b_to_cut := F_to_cut.binds (ps := ["people", "ties", "fast", "cut"]) fun _ _ _ _ _ _ us hl => match us, hl with | [_, _, _, _], _ => rfl
  have F_to_join := fun_mk (st := s_to_join) l_to_join cc_to_join kk_to_join
  have b_to_join := F_to_join.binds (ps := ["people", "ties", "fast", "cut"]) fun _ _ _ _ _ _ us hl => match us, hl with | [_, _, _, _], _ => rfl
  have F__law_with_web := fun_mk (st := s__law_with_web) l__law_with_web cc__law_with_web kk__law_with_web
  have b__law_with_web := F__law_with_web.binds (ps := ["_law_door", "_law_people", "_law_ties"]) fun _ _ _ _ _ _ us hl => match us, hl with | [_, _, _], _ => rfl
  have F__law_bad_ties := fun_mk (st := s__law_bad_ties) l__law_bad_ties cc__law_bad_ties kk__law_bad_ties
  have b__law_bad_ties := F__law_bad_ties.binds (ps := ["_law_which", "_law_more"]) fun _ _ _ _ _ _ us hl => match us, hl with | [_, _], _ => rfl
  have F__law_moves := fun_mk (st := s__law_moves) l__law_moves cc__law_moves kk__law_moves
  have b__law_moves := F__law_moves.binds (ps := ["_law_which", "_law_more"]) fun _ _ _ _ _ _ us hl => match us, hl with | [_, _], _ => rfl
  have F__law_told := fun_mk (st := s__law_told) l__law_told cc__law_told kk__law_told
  have b__law_told := F__law_told.binds (ps := ["_law_kind", "_law_which", "_law_more"]) fun _ _ _ _ _ _ us hl => match us, hl with | [_, _, _], _ => rfl
  have F_law := fun_mk (st := s_law) l_law cc_law kk_law
  have b_law := F_law.binds (ps := ["_law_script"]) fun _ _ _ _ _ _ us hl => match us, hl with | [_], _ => rfl
  let T : Tx K mg := {
    z_len := PySem.W.mg_none_of X G z_len
    z_min := PySem.W.mg_none_of X G z_min
    z_max := PySem.W.mg_none_of X G z_max
    z_sorted := PySem.W.mg_none_of X G z_sorted
    z_all := PySem.W.mg_none_of X G z_all
    z_list := PySem.W.mg_none_of X G z_list
    z_range := PySem.W.mg_none_of X G z_range
    z_set := PySem.W.mg_none_of X G z_set
    z_tuple := PySem.W.mg_none_of X G z_tuple
    z_enumerate := PySem.W.mg_none_of X G z_enumerate
    z_zip := PySem.W.mg_none_of X G z_zip
    z_isinstance := PySem.W.mg_none_of X G z_isinstance
    z_int := PySem.W.mg_none_of X G z_int
    z_bool := PySem.W.mg_none_of X G z_bool
    z_ValueError := PySem.W.mg_none_of X G z_ValueError
    t_MOST := t_MOST
    k_MOST := PySem.W.mg_of X G k_MOST
    t_MOST_TIES := t_MOST_TIES
    k_MOST_TIES := PySem.W.mg_of X G k_MOST_TIES
    c_Answer := c_Answer
    g_Answer := PySem.W.mg_of X G g_Answer
    c_Trees := c_Trees
    g_Trees := PySem.W.mg_of X G g_Trees
    c_Parts := c_Parts
    g_Parts := PySem.W.mg_of X G g_Parts
    f__wall := f__wall
    d__wall := PySem.W.fnOf "_wall" "_wall" (defArgs s__wall) (defBody s__wall) (defScope s__wall) .none kV__wall dc__wall pm__wall an__wall cd__wall ct__wall
    F__wall := F__wall
    b__wall := b__wall
    g__wall := PySem.W.mg_of X G a__wall
    f_is_number := f_is_number
    d_is_number := PySem.W.fnOf "is_number" "is_number" (defArgs s_is_number) (defBody s_is_number) (defScope s_is_number) .none kV_is_number dc_is_number pm_is_number an_is_number cd_is_number ct_is_number
    F_is_number := F_is_number
    b_is_number := b_is_number
    g_is_number := PySem.W.mg_of X G a_is_number
    f_is_tie := f_is_tie
    d_is_tie := PySem.W.fnOf "is_tie" "is_tie" (defArgs s_is_tie) (defBody s_is_tie) (defScope s_is_tie) .none kV_is_tie dc_is_tie pm_is_tie an_is_tie cd_is_tie ct_is_tie
    F_is_tie := F_is_tie
    b_is_tie := b_is_tie
    g_is_tie := PySem.W.mg_of X G a_is_tie
    f_asked_web := f_asked_web
    d_asked_web := PySem.W.fnOf "asked_web" "asked_web" (defArgs s_asked_web) (defBody s_asked_web) (defScope s_asked_web) .none kV_asked_web dc_asked_web pm_asked_web an_asked_web cd_asked_web ct_asked_web
    F_asked_web := F_asked_web
    b_asked_web := b_asked_web
    g_asked_web := PySem.W.mg_of X G a_asked_web
    f_marks_by := f_marks_by
    d_marks_by := PySem.W.fnOf "marks_by" "marks_by" (defArgs s_marks_by) (defBody s_marks_by) (defScope s_marks_by) .none kV_marks_by dc_marks_by pm_marks_by an_marks_by cd_marks_by ct_marks_by
    F_marks_by := F_marks_by
    b_marks_by := b_marks_by
    g_marks_by := PySem.W.mg_of X G a_marks_by
    f_groups_by := f_groups_by
    d_groups_by := PySem.W.fnOf "groups_by" "groups_by" (defArgs s_groups_by) (defBody s_groups_by) (defScope s_groups_by) .none kV_groups_by dc_groups_by pm_groups_by an_groups_by cd_groups_by ct_groups_by
    F_groups_by := F_groups_by
    b_groups_by := b_groups_by
    g_groups_by := PySem.W.mg_of X G a_groups_by
    f_Trees_init := f_Trees_init
    d_Trees_init := PySem.W.fnOf "__init__" "Trees.__init__" (defArgs s_Trees_init) (defBody s_Trees_init) (defScope s_Trees_init) .none kV_Trees_init dc_Trees_init pm_Trees_init an_Trees_init cd_Trees_init ct_Trees_init
    F_Trees_init := F_Trees_init
    b_Trees_init := b_Trees_init
    f_Trees_shows := f_Trees_shows
    d_Trees_shows := PySem.W.fnOf "shows" "Trees.shows" (defArgs s_Trees_shows) (defBody s_Trees_shows) (defScope s_Trees_shows) .none kV_Trees_shows dc_Trees_shows pm_Trees_shows an_Trees_shows cd_Trees_shows ct_Trees_shows
    F_Trees_shows := F_Trees_shows
    b_Trees_shows := b_Trees_shows
    f_Parts_init := f_Parts_init
    d_Parts_init := PySem.W.fnOf "__init__" "Parts.__init__" (defArgs s_Parts_init) (defBody s_Parts_init) (defScope s_Parts_init) .none kV_Parts_init dc_Parts_init pm_Parts_init an_Parts_init cd_Parts_init ct_Parts_init
    F_Parts_init := F_Parts_init
    b_Parts_init := b_Parts_init
    f_Parts_shows := f_Parts_shows
    d_Parts_shows := PySem.W.fnOf "shows" "Parts.shows" (defArgs s_Parts_shows) (defBody s_Parts_shows) (defScope s_Parts_shows) .none kV_Parts_shows dc_Parts_shows pm_Parts_shows an_Parts_shows cd_Parts_shows ct_Parts_shows
    F_Parts_shows := F_Parts_shows
    b_Parts_shows := b_Parts_shows
    f_way_of := f_way_of
    d_way_of := PySem.W.fnOf "way_of" "way_of" (defArgs s_way_of) (defBody s_way_of) (defScope s_way_of) .none kV_way_of dc_way_of pm_way_of an_way_of cd_way_of ct_way_of
    F_way_of := F_way_of
    b_way_of := b_way_of
    g_way_of := PySem.W.mg_of X G a_way_of
    f_put_in := f_put_in
    d_put_in := PySem.W.fnOf "put_in" "put_in" (defArgs s_put_in) (defBody s_put_in) (defScope s_put_in) .none kV_put_in dc_put_in pm_put_in an_put_in cd_put_in ct_put_in
    F_put_in := F_put_in
    b_put_in := b_put_in
    g_put_in := PySem.W.mg_of X G a_put_in
    f_packed := f_packed
    d_packed := PySem.W.fnOf "packed" "packed" (defArgs s_packed) (defBody s_packed) (defScope s_packed) .none kV_packed dc_packed pm_packed an_packed cd_packed ct_packed
    F_packed := F_packed
    b_packed := b_packed
    g_packed := PySem.W.mg_of X G a_packed
    f_told := f_told
    d_told := PySem.W.fnOf "told" "told" (defArgs s_told) (defBody s_told) (defScope s_told) .none kV_told dc_told pm_told an_told cd_told ct_told
    F_told := F_told
    b_told := b_told
    g_told := PySem.W.mg_of X G a_told
    f_trees := f_trees
    d_trees := PySem.W.fnOf "trees" "trees" (defArgs s_trees) (defBody s_trees) (defScope s_trees) .none kV_trees dc_trees pm_trees an_trees cd_trees ct_trees
    F_trees := F_trees
    b_trees := b_trees
    g_trees := PySem.W.mg_of X G a_trees
    f_most := f_most
    d_most := PySem.W.fnOf "most" "most" (defArgs s_most) (defBody s_most) (defScope s_most) .none kV_most dc_most pm_most an_most cd_most ct_most
    F_most := F_most
    b_most := b_most
    g_most := PySem.W.mg_of X G a_most
    f_asked_moves := f_asked_moves
    d_asked_moves := PySem.W.fnOf "asked_moves" "asked_moves" (defArgs s_asked_moves) (defBody s_asked_moves) (defScope s_asked_moves) .none kV_asked_moves dc_asked_moves pm_asked_moves an_asked_moves cd_asked_moves ct_asked_moves
    F_asked_moves := F_asked_moves
    b_asked_moves := b_asked_moves
    g_asked_moves := PySem.W.mg_of X G a_asked_moves
    f_rest := f_rest
    d_rest := PySem.W.fnOf "rest" "rest" (defArgs s_rest) (defBody s_rest) (defScope s_rest) .none kV_rest dc_rest pm_rest an_rest cd_rest ct_rest
    F_rest := F_rest
    b_rest := b_rest
    g_rest := PySem.W.mg_of X G a_rest
    f_is_held := f_is_held
    d_is_held := PySem.W.fnOf "is_held" "is_held" (defArgs s_is_held) (defBody s_is_held) (defScope s_is_held) .none kV_is_held dc_is_held pm_is_held an_is_held cd_is_held ct_is_held
    F_is_held := F_is_held
    b_is_held := b_is_held
    g_is_held := PySem.W.mg_of X G a_is_held
    f_held := f_held
    d_held := PySem.W.fnOf "held" "held" (defArgs s_held) (defBody s_held) (defScope s_held) .none kV_held dc_held pm_held an_held cd_held ct_held
    F_held := F_held
    b_held := b_held
    g_held := PySem.W.mg_of X G a_held
    f_to_cut := f_to_cut
    d_to_cut := PySem.W.fnOf "to_cut" "to_cut" (defArgs s_to_cut) (defBody s_to_cut) (defScope s_to_cut) .none kV_to_cut dc_to_cut pm_to_cut an_to_cut cd_to_cut ct_to_cut
    F_to_cut := F_to_cut
    b_to_cut := b_to_cut
    g_to_cut := PySem.W.mg_of X G a_to_cut
    f_to_join := f_to_join
    d_to_join := PySem.W.fnOf "to_join" "to_join" (defArgs s_to_join) (defBody s_to_join) (defScope s_to_join) .none kV_to_join dc_to_join pm_to_join an_to_join cd_to_join ct_to_join
    F_to_join := F_to_join
    b_to_join := b_to_join
    g_to_join := PySem.W.mg_of X G a_to_join
    f__law_with_web := f__law_with_web
    d__law_with_web := PySem.W.fnOf "_law_with_web" "_law_with_web" (defArgs s__law_with_web) (defBody s__law_with_web) (defScope s__law_with_web) .none kV__law_with_web dc__law_with_web pm__law_with_web an__law_with_web cd__law_with_web ct__law_with_web
    F__law_with_web := F__law_with_web
    b__law_with_web := b__law_with_web
    g__law_with_web := PySem.W.mg_of X G a__law_with_web
    f__law_bad_ties := f__law_bad_ties
    d__law_bad_ties := PySem.W.fnOf "_law_bad_ties" "_law_bad_ties" (defArgs s__law_bad_ties) (defBody s__law_bad_ties) (defScope s__law_bad_ties) .none kV__law_bad_ties dc__law_bad_ties pm__law_bad_ties an__law_bad_ties cd__law_bad_ties ct__law_bad_ties
    F__law_bad_ties := F__law_bad_ties
    b__law_bad_ties := b__law_bad_ties
    g__law_bad_ties := PySem.W.mg_of X G a__law_bad_ties
    f__law_moves := f__law_moves
    d__law_moves := PySem.W.fnOf "_law_moves" "_law_moves" (defArgs s__law_moves) (defBody s__law_moves) (defScope s__law_moves) .none kV__law_moves dc__law_moves pm__law_moves an__law_moves cd__law_moves ct__law_moves
    F__law_moves := F__law_moves
    b__law_moves := b__law_moves
    g__law_moves := PySem.W.mg_of X G a__law_moves
    f__law_told := f__law_told
    d__law_told := PySem.W.fnOf "_law_told" "_law_told" (defArgs s__law_told) (defBody s__law_told) (defScope s__law_told) .none kV__law_told dc__law_told pm__law_told an__law_told cd__law_told ct__law_told
    F__law_told := F__law_told
    b__law_told := b__law_told
    g__law_told := PySem.W.mg_of X G a__law_told
    f_law := fa
    d_law := PySem.W.fnOf "law" "law" (defArgs s_law) (defBody s_law) (defScope s_law) .none kV_law dc_law pm_law an_law cd_law ct_law
    F_law := F_law
    b_law := b_law
    g_law := PySem.W.mg_of X G a_law
    cl_Trees := ⟨pg_Trees, hd_Trees, po_Trees, sa_Trees⟩
    na_Trees_trees := na_Trees_trees
    mk_Trees := ⟨ma_Trees, a_Trees_init, i_Trees_init, kc_Trees⟩
    me_Trees_shows := ⟨a_Trees_shows, i_Trees_shows, kk_Trees_shows⟩
    cl_Parts := ⟨pg_Parts, hd_Parts, po_Parts, sa_Parts⟩
    na_Parts_groups := na_Parts_groups
    mk_Parts := ⟨ma_Parts, a_Parts_init, i_Parts_init, kc_Parts⟩
    me_Parts_shows := ⟨a_Parts_shows, i_Parts_shows, kk_Parts_shows⟩
    hn0 := hn0
    htk0 := htk0
    ha_Trees := ha_Trees
    hm_Trees := hm_Trees
    ki_Trees_Trees := ki_Trees_Trees
    ki_Trees_Parts := ki_Trees_Parts
    ki_Trees_Answer := ki_Trees_Answer
    ha_Parts := ha_Parts
    hm_Parts := hm_Parts
    ki_Parts_Trees := ki_Parts_Trees
    ki_Parts_Parts := ki_Parts_Parts
    ki_Parts_Answer := ki_Parts_Answer
    c_BadPeople := c_BadPeople
    g_BadPeople := PySem.W.mg_of X G g_BadPeople
    c_BadTies := c_BadTies
    g_BadTies := PySem.W.mg_of X G g_BadTies
    c_BadMany := c_BadMany
    g_BadMany := PySem.W.mg_of X G g_BadMany
    c_BadMoves := c_BadMoves
    g_BadMoves := PySem.W.mg_of X G g_BadMoves
    c_PlayError := c_PlayError
    g_PlayError := PySem.W.mg_of X G g_PlayError
    c_Held := c_Held
    g_Held := PySem.W.mg_of X G g_Held
    c_Lost := c_Lost
    g_Lost := PySem.W.mg_of X G g_Lost
    x_BadPeople := x_BadPeople
    kp_BadPeople := kp_BadPeople
    sb_BadPeople := sb_BadPeople
    tp_BadPeople := tp_BadPeople
    xm_BadPeople_PlayError := PySem.W.exm_ref sb_PlayError hd_PlayError tp_PlayError su_BadPeople_PlayError
    xc_BadPeople := ⟨ga_BadPeople, gt_BadPeople, sb_BadPeople, hd_BadPeople, hac_BadPeople, hn0, htk0, hmm_BadPeople⟩
    ki_BadPeople_BadPeople := ki_BadPeople_BadPeople
    ki_BadPeople_BadTies := ki_BadPeople_BadTies
    ki_BadPeople_BadMany := ki_BadPeople_BadMany
    ki_BadPeople_BadMoves := ki_BadPeople_BadMoves
    ki_BadPeople_Held := ki_BadPeople_Held
    ki_BadPeople_Lost := ki_BadPeople_Lost
    ki_BadPeople_ValueError := ki_BadPeople_ValueError
    x_BadTies := x_BadTies
    kp_BadTies := kp_BadTies
    sb_BadTies := sb_BadTies
    tp_BadTies := tp_BadTies
    xm_BadTies_PlayError := PySem.W.exm_ref sb_PlayError hd_PlayError tp_PlayError su_BadTies_PlayError
    xc_BadTies := ⟨ga_BadTies, gt_BadTies, sb_BadTies, hd_BadTies, hac_BadTies, hn0, htk0, hmm_BadTies⟩
    ki_BadTies_BadPeople := ki_BadTies_BadPeople
    ki_BadTies_BadTies := ki_BadTies_BadTies
    ki_BadTies_BadMany := ki_BadTies_BadMany
    ki_BadTies_BadMoves := ki_BadTies_BadMoves
    ki_BadTies_Held := ki_BadTies_Held
    ki_BadTies_Lost := ki_BadTies_Lost
    ki_BadTies_ValueError := ki_BadTies_ValueError
    x_BadMany := x_BadMany
    kp_BadMany := kp_BadMany
    sb_BadMany := sb_BadMany
    tp_BadMany := tp_BadMany
    xm_BadMany_PlayError := PySem.W.exm_ref sb_PlayError hd_PlayError tp_PlayError su_BadMany_PlayError
    xc_BadMany := ⟨ga_BadMany, gt_BadMany, sb_BadMany, hd_BadMany, hac_BadMany, hn0, htk0, hmm_BadMany⟩
    ki_BadMany_BadPeople := ki_BadMany_BadPeople
    ki_BadMany_BadTies := ki_BadMany_BadTies
    ki_BadMany_BadMany := ki_BadMany_BadMany
    ki_BadMany_BadMoves := ki_BadMany_BadMoves
    ki_BadMany_Held := ki_BadMany_Held
    ki_BadMany_Lost := ki_BadMany_Lost
    ki_BadMany_ValueError := ki_BadMany_ValueError
    x_BadMoves := x_BadMoves
    kp_BadMoves := kp_BadMoves
    sb_BadMoves := sb_BadMoves
    tp_BadMoves := tp_BadMoves
    xm_BadMoves_PlayError := PySem.W.exm_ref sb_PlayError hd_PlayError tp_PlayError su_BadMoves_PlayError
    xc_BadMoves := ⟨ga_BadMoves, gt_BadMoves, sb_BadMoves, hd_BadMoves, hac_BadMoves, hn0, htk0, hmm_BadMoves⟩
    ki_BadMoves_BadPeople := ki_BadMoves_BadPeople
    ki_BadMoves_BadTies := ki_BadMoves_BadTies
    ki_BadMoves_BadMany := ki_BadMoves_BadMany
    ki_BadMoves_BadMoves := ki_BadMoves_BadMoves
    ki_BadMoves_Held := ki_BadMoves_Held
    ki_BadMoves_Lost := ki_BadMoves_Lost
    ki_BadMoves_ValueError := ki_BadMoves_ValueError }
  exact ⟨T.d_law, fun s v => .of_eq rfl, fun base _ _ => ok_law T⟩
end Jp
open PySem PySem.W PyProof.Rows
set_option maxRecDepth 100000 in
set_option maxHeartbeats 0 in
theorem PySem.Challenge.cw_joinplay_k05_refused_holds : PySem.Challenge.rw_joinplay_k05_refused.Holds := by
  w_on; o_law; k_head; (case hw => w_witness2)
  k_fill
  refine L2.walk_ofB (l := PySem.Challenge.rw_joinplay_k05_refused) (n := 63) (k := 9) (x := "_law_script") (CX := fun _ => L2.CX0) (sp := fun w => Jp.spLaw _) rfl (by decide) rfl ⟨rfl, by decide, by decide⟩ (fun w h Y => PySem.W.kIn_of Y) ?F (fun _ _ a ns hl hb _ hS => ⟨a, ns, rfl, hS, hl, fun z hz => Jp.bits_of (hb z hz), fun _ => rfl⟩) (fun _ _ _ _ _ h => h)
  case F =>
    intro w mg fa h KX G hmg
    refine' Jp.all_mk KX G hmg ?z_len ?z_min ?z_max ?z_sorted ?z_all ?z_list ?z_range ?z_set ?z_tuple ?z_enumerate ?z_zip ?z_isinstance ?z_int ?z_bool ?z_ValueError ?k_MOST ?k_MOST_TIES ?g_Answer ?g_Trees ?g_Parts ?a__wall ?l__wall ?cc__wall ?kk__wall ?a_is_number ?l_is_number ?cc_is_number ?kk_is_number ?a_is_tie ?l_is_tie ?cc_is_tie ?kk_is_tie ?a_asked_web ?l_asked_web ?cc_asked_web ?kk_asked_web ?a_marks_by ?l_marks_by ?cc_marks_by ?kk_marks_by ?a_groups_by ?l_groups_by ?cc_groups_by ?kk_groups_by ?a_Trees_init ?i_Trees_init ?l_Trees_init ?cc_Trees_init ?kk_Trees_init ?a_Trees_shows ?i_Trees_shows ?l_Trees_shows ?cc_Trees_shows ?kk_Trees_shows ?a_Parts_init ?i_Parts_init ?l_Parts_init ?cc_Parts_init ?kk_Parts_init ?a_Parts_shows ?i_Parts_shows ?l_Parts_shows ?cc_Parts_shows ?kk_Parts_shows ?a_way_of ?l_way_of ?cc_way_of ?kk_way_of ?a_put_in ?l_put_in ?cc_put_in ?kk_put_in ?a_packed ?l_packed ?cc_packed ?kk_packed ?a_told ?l_told ?cc_told ?kk_told ?a_trees ?l_trees ?cc_trees ?kk_trees ?a_most ?l_most ?cc_most ?kk_most ?a_asked_moves ?l_asked_moves ?cc_asked_moves ?kk_asked_moves ?a_rest ?l_rest ?cc_rest ?kk_rest ?a_is_held ?l_is_held ?cc_is_held ?kk_is_held ?a_held ?l_held ?cc_held ?kk_held ?a_to_cut ?l_to_cut ?cc_to_cut ?kk_to_cut ?a_to_join ?l_to_join ?cc_to_join ?kk_to_join ?a__law_with_web ?l__law_with_web ?cc__law_with_web ?kk__law_with_web ?a__law_bad_ties ?l__law_bad_ties ?cc__law_bad_ties ?kk__law_bad_ties ?a__law_moves ?l__law_moves ?cc__law_moves ?kk__law_moves ?a__law_told ?l__law_told ?cc__law_told ?kk__law_told ?a_law ?l_law ?cc_law ?kk_law ?pg_Trees ?hd_Trees ?po_Trees ?sa_Trees ?ma_Trees ?kc_Trees ?na_Trees_trees ?pg_Parts ?hd_Parts ?po_Parts ?sa_Parts ?ma_Parts ?kc_Parts ?na_Parts_groups ?hn0 ?htk0 ?ha_Trees ?hm_Trees ?ki_Trees_Trees ?ki_Trees_Parts ?ki_Trees_Answer ?ha_Parts ?hm_Parts ?ki_Parts_Trees ?ki_Parts_Parts ?ki_Parts_Answer ?ki_BadPeople_BadPeople ?ki_BadPeople_BadTies ?ki_BadPeople_BadMany ?ki_BadPeople_BadMoves ?ki_BadPeople_Held ?ki_BadPeople_Lost ?ki_BadPeople_ValueError ?ki_BadTies_BadPeople ?ki_BadTies_BadTies ?ki_BadTies_BadMany ?ki_BadTies_BadMoves ?ki_BadTies_Held ?ki_BadTies_Lost ?ki_BadTies_ValueError ?ki_BadMany_BadPeople ?ki_BadMany_BadTies ?ki_BadMany_BadMany ?ki_BadMany_BadMoves ?ki_BadMany_Held ?ki_BadMany_Lost ?ki_BadMany_ValueError ?ki_BadMoves_BadPeople ?ki_BadMoves_BadTies ?ki_BadMoves_BadMany ?ki_BadMoves_BadMoves ?ki_BadMoves_Held ?ki_BadMoves_Lost ?ki_BadMoves_ValueError ?g_BadPeople ?g_BadTies ?g_BadMany ?g_BadMoves ?g_PlayError ?g_Held ?g_Lost ?sb_BadPeople ?tp_BadPeople ?hd_BadPeople ?sb_BadTies ?tp_BadTies ?hd_BadTies ?sb_BadMany ?tp_BadMany ?hd_BadMany ?sb_BadMoves ?tp_BadMoves ?hd_BadMoves ?sb_PlayError ?tp_PlayError ?hd_PlayError ?x_BadPeople ?kp_BadPeople ?su_BadPeople_PlayError ?ga_BadPeople ?gt_BadPeople ?hac_BadPeople ?hmm_BadPeople ?x_BadTies ?kp_BadTies ?su_BadTies_PlayError ?ga_BadTies ?gt_BadTies ?hac_BadTies ?hmm_BadTies ?x_BadMany ?kp_BadMany ?su_BadMany_PlayError ?ga_BadMany ?gt_BadMany ?hac_BadMany ?hmm_BadMany ?x_BadMoves ?kp_BadMoves ?su_BadMoves_PlayError ?ga_BadMoves ?gt_BadMoves ?hac_BadMoves ?hmm_BadMoves
    (case g_Answer => k_is)
    (case g_Trees => k_is)
    (case g_Parts => k_is)
    (case a__wall => k_is)
    (case a_is_number => k_is)
    (case a_is_tie => k_is)
    (case a_asked_web => k_is)
    (case a_marks_by => k_is)
    (case a_groups_by => k_is)
    (case a_Trees_init => k_is)
    (case a_Trees_shows => k_is)
    (case a_Parts_init => k_is)
    (case a_Parts_shows => k_is)
    (case a_way_of => k_is)
    (case a_put_in => k_is)
    (case a_packed => k_is)
    (case a_told => k_is)
    (case a_trees => k_is)
    (case a_most => k_is)
    (case a_asked_moves => k_is)
    (case a_rest => k_is)
    (case a_is_held => k_is)
    (case a_held => k_is)
    (case a_to_cut => k_is)
    (case a_to_join => k_is)
    (case a__law_with_web => k_is)
    (case a__law_bad_ties => k_is)
    (case a__law_moves => k_is)
    (case a__law_told => k_is)
    (case a_law => k_is)
    (case g_BadPeople => k_is)
    (case g_BadTies => k_is)
    (case g_BadMany => k_is)
    (case g_BadMoves => k_is)
    (case g_PlayError => k_is)
    (case g_Held => k_is)
    (case g_Lost => k_is)
    (case z_len => k_is)
    (case z_min => k_is)
    (case z_max => k_is)
    (case z_sorted => k_is)
    (case z_all => k_is)
    (case z_list => k_is)
    (case z_range => k_is)
    (case z_set => k_is)
    (case z_tuple => k_is)
    (case z_enumerate => k_is)
    (case z_zip => k_is)
    (case z_isinstance => k_is)
    (case z_int => k_is)
    (case z_bool => k_is)
    (case z_ValueError => k_is)
    (case k_MOST => k_is)
    (case k_MOST_TIES => k_is)
    (case l__wall => k_is)
    (case cc__wall => k_is)
    (case kk__wall => k_is)
    (case l_is_number => k_is)
    (case cc_is_number => k_is)
    (case kk_is_number => k_is)
    (case l_is_tie => k_is)
    (case cc_is_tie => k_is)
    (case kk_is_tie => k_is)
    (case l_asked_web => k_is)
    (case cc_asked_web => k_is)
    (case kk_asked_web => k_is)
    (case l_marks_by => k_is)
    (case cc_marks_by => k_is)
    (case kk_marks_by => k_is)
    (case l_groups_by => k_is)
    (case cc_groups_by => k_is)
    (case kk_groups_by => k_is)
    (case i_Trees_init => k_is)
    (case l_Trees_init => k_is)
    (case cc_Trees_init => k_is)
    (case kk_Trees_init => k_is)
    (case i_Trees_shows => k_is)
    (case l_Trees_shows => k_is)
    (case cc_Trees_shows => k_is)
    (case kk_Trees_shows => k_is)
    (case i_Parts_init => k_is)
    (case l_Parts_init => k_is)
    (case cc_Parts_init => k_is)
    (case kk_Parts_init => k_is)
    (case i_Parts_shows => k_is)
    (case l_Parts_shows => k_is)
    (case cc_Parts_shows => k_is)
    (case kk_Parts_shows => k_is)
    (case l_way_of => k_is)
    (case cc_way_of => k_is)
    (case kk_way_of => k_is)
    (case l_put_in => k_is)
    (case cc_put_in => k_is)
    (case kk_put_in => k_is)
    (case l_packed => k_is)
    (case cc_packed => k_is)
    (case kk_packed => k_is)
    (case l_told => k_is)
    (case cc_told => k_is)
    (case kk_told => k_is)
    (case l_trees => k_is)
    (case cc_trees => k_is)
    (case kk_trees => k_is)
    (case l_most => k_is)
    (case cc_most => k_is)
    (case kk_most => k_is)
    (case l_asked_moves => k_is)
    (case cc_asked_moves => k_is)
    (case kk_asked_moves => k_is)
    (case l_rest => k_is)
    (case cc_rest => k_is)
    (case kk_rest => k_is)
    (case l_is_held => k_is)
    (case cc_is_held => k_is)
    (case kk_is_held => k_is)
    (case l_held => k_is)
    (case cc_held => k_is)
    (case kk_held => k_is)
    (case l_to_cut => k_is)
    (case cc_to_cut => k_is)
    (case kk_to_cut => k_is)
    (case l_to_join => k_is)
    (case cc_to_join => k_is)
    (case kk_to_join => k_is)
    (case l__law_with_web => k_is)
    (case cc__law_with_web => k_is)
    (case kk__law_with_web => k_is)
    (case l__law_bad_ties => k_is)
    (case cc__law_bad_ties => k_is)
    (case kk__law_bad_ties => k_is)
    (case l__law_moves => k_is)
    (case cc__law_moves => k_is)
    (case kk__law_moves => k_is)
    (case l__law_told => k_is)
    (case cc__law_told => k_is)
    (case kk__law_told => k_is)
    (case l_law => k_is)
    (case cc_law => k_is)
    (case kk_law => k_is)
    (case pg_Trees => k_is)
    (case hd_Trees => k_is)
    (case po_Trees => k_is)
    (case sa_Trees => k_is)
    (case ma_Trees => k_is)
    (case kc_Trees => k_is)
    (case na_Trees_trees => k_is)
    (case pg_Parts => k_is)
    (case hd_Parts => k_is)
    (case po_Parts => k_is)
    (case sa_Parts => k_is)
    (case ma_Parts => k_is)
    (case kc_Parts => k_is)
    (case na_Parts_groups => k_is)
    (case hn0 => k_is)
    (case htk0 => k_is)
    (case ha_Trees => k_is)
    (case hm_Trees => k_is)
    (case ki_Trees_Trees => kit_is)
    (case ki_Trees_Parts => kit_is)
    (case ki_Trees_Answer => kit_is)
    (case ha_Parts => k_is)
    (case hm_Parts => k_is)
    (case ki_Parts_Trees => kit_is)
    (case ki_Parts_Parts => kit_is)
    (case ki_Parts_Answer => kit_is)
    (case ki_BadPeople_BadPeople => kit_is)
    (case ki_BadPeople_BadTies => kit_is)
    (case ki_BadPeople_BadMany => kit_is)
    (case ki_BadPeople_BadMoves => kit_is)
    (case ki_BadPeople_Held => kit_is)
    (case ki_BadPeople_Lost => kit_is)
    (case ki_BadPeople_ValueError => kit_is)
    (case ki_BadTies_BadPeople => kit_is)
    (case ki_BadTies_BadTies => kit_is)
    (case ki_BadTies_BadMany => kit_is)
    (case ki_BadTies_BadMoves => kit_is)
    (case ki_BadTies_Held => kit_is)
    (case ki_BadTies_Lost => kit_is)
    (case ki_BadTies_ValueError => kit_is)
    (case ki_BadMany_BadPeople => kit_is)
    (case ki_BadMany_BadTies => kit_is)
    (case ki_BadMany_BadMany => kit_is)
    (case ki_BadMany_BadMoves => kit_is)
    (case ki_BadMany_Held => kit_is)
    (case ki_BadMany_Lost => kit_is)
    (case ki_BadMany_ValueError => kit_is)
    (case ki_BadMoves_BadPeople => kit_is)
    (case ki_BadMoves_BadTies => kit_is)
    (case ki_BadMoves_BadMany => kit_is)
    (case ki_BadMoves_BadMoves => kit_is)
    (case ki_BadMoves_Held => kit_is)
    (case ki_BadMoves_Lost => kit_is)
    (case ki_BadMoves_ValueError => kit_is)
    (case sb_BadPeople => k_is)
    (case tp_BadPeople => k_is)
    (case hd_BadPeople => k_is)
    (case sb_BadTies => k_is)
    (case tp_BadTies => k_is)
    (case hd_BadTies => k_is)
    (case sb_BadMany => k_is)
    (case tp_BadMany => k_is)
    (case hd_BadMany => k_is)
    (case sb_BadMoves => k_is)
    (case tp_BadMoves => k_is)
    (case hd_BadMoves => k_is)
    (case sb_PlayError => k_is)
    (case tp_PlayError => k_is)
    (case hd_PlayError => k_is)
    (case x_BadPeople => k_exc)
    (case kp_BadPeople => k_is)
    (case su_BadPeople_PlayError => k_is)
    (case ga_BadPeople => k_is)
    (case gt_BadPeople => k_is)
    (case hac_BadPeople => k_is)
    (case hmm_BadPeople => k_is)
    (case x_BadTies => k_exc)
    (case kp_BadTies => k_is)
    (case su_BadTies_PlayError => k_is)
    (case ga_BadTies => k_is)
    (case gt_BadTies => k_is)
    (case hac_BadTies => k_is)
    (case hmm_BadTies => k_is)
    (case x_BadMany => k_exc)
    (case kp_BadMany => k_is)
    (case su_BadMany_PlayError => k_is)
    (case ga_BadMany => k_is)
    (case gt_BadMany => k_is)
    (case hac_BadMany => k_is)
    (case hmm_BadMany => k_is)
    (case x_BadMoves => k_exc)
    (case kp_BadMoves => k_is)
    (case su_BadMoves_PlayError => k_is)
    (case ga_BadMoves => k_is)
    (case gt_BadMoves => k_is)
    (case hac_BadMoves => k_is)
    (case hmm_BadMoves => k_is)
end
