import PyProof.Rows.All
import Wide.All
import OpenK.AllK
import Wide.FinOn
import HandS.ForMost
import HandS.Exc
import HandS.TryOnly
import HandS.ExcOwn
import HandS.WordsExc
import HandS.Zip
import HandS.IsInst
import HandS.Conv
import HandS.RevRange
import HandS.TupAny
import HandS.TupLe
import PySem.Challenge.RW_wardsmith_k08_whole_in_order
set_option Elab.async false
set_option linter.all false
set_option maxRecDepth 100000
/-! The plain law: cuts by rules, their order, the next ones. No program in sight. -/
namespace Ws
/-- cuts by the rules (P places, D depths, S step), told by their places -/
structure OkF (P : Nat) (D S : Int) (f : Nat → Int) : Prop where
  dep : ∀ i, i < P → 0 ≤ f i ∧ f i < D
  near : ∀ i, i + 1 < P → f i - f (i + 1) ≤ S ∧ f (i + 1) - f i ≤ S
/-- f comes ahead of g -/
def LexF (P : Nat) (f g : Nat → Int) : Prop := ∃ j, j < P ∧ (∀ i, i < j → f i = g i) ∧ f j < g j
def CanF (D S : Int) (f : Nat → Int) (t : Nat) : Prop := f t + 1 < D ∧ (t = 0 ∨ f t + 1 - f (t - 1) ≤ S)

theorem lexF_asymm {P : Nat} {f g : Nat → Int} (h : LexF P f g) : ¬ LexF P g f := by
  rintro ⟨k, hk, ek, lk⟩
  obtain ⟨j, hj, ej, lj⟩ := h
  rcases Nat.lt_trichotomy j k with q | q | q
  · have := ek j q; omega
  · subst q; omega
  · have := ej k q; omega
theorem lexF_tri {P : Nat} {f g : Nat → Int} : ∀ n, n ≤ P → (∀ i, i < n → f i = g i) ∨ (∃ j, j < n ∧ (∀ i, i < j → f i = g i) ∧ f j ≠ g j)
  | 0, _ => .inl fun i hi => absurd hi (Nat.not_lt_zero _)
  | n + 1, hn => by
    rcases lexF_tri n (Nat.le_of_succ_le hn) with q | ⟨j, a, b, c⟩
    · by_cases e : f n = g n
      · refine .inl fun i hi => ?_
        rcases Nat.lt_succ_iff_lt_or_eq.mp hi with z | z
        · exact q i z
        · subst z; exact e
      · exact .inr ⟨n, Nat.lt_succ_self _, q, e⟩
    · exact .inr ⟨j, Nat.lt_succ_of_lt a, b, c⟩
/-- no place can be cut deeper: nothing comes behind -/
theorem next_none {P : Nat} {D S : Int} {f d : Nat → Int} (od : OkF P D S d) (hn : ∀ j, j < P → ¬ CanF D S f j) : ¬ LexF P f d := by
  rintro ⟨j, hj, ej, lj⟩
  refine hn j hj ⟨?_, ?_⟩
  · have := (od.dep j hj).2; omega
  · by_cases z : j = 0
    · exact .inl z
    · refine .inr ?_
      have e := ej (j - 1) (by omega)
      have := (od.near (j - 1) (by omega)).2
      rw [show j - 1 + 1 = j by omega] at this
      omega
/-- what comes next: t is the last place that can be cut deeper -/
structure NextF (P : Nat) (D S : Int) (f n : Nat → Int) (t : Nat) : Prop where
  lt : t < P
  can : CanF D S f t
  last : ∀ j, t < j → j < P → ¬ CanF D S f j
  low : ∀ i, i < t → n i = f i
  at_ : n t = f t + 1
  up : ∀ i, t ≤ i → i + 1 < P → n (i + 1) = max 0 (n i - S)
theorem NextF.ok {P : Nat} {D S : Int} {f n : Nat → Int} {t : Nat} (N : NextF P D S f n t) (o : OkF P D S f) (hS : 0 ≤ S) : OkF P D S n := by
  have hat := N.at_
  have hcan := N.can.1
  have dep : ∀ k, t + k < P → 0 ≤ n (t + k) ∧ n (t + k) < D := by
    intro k
    induction k with
    | zero => intro h; have := o.dep t N.lt; simp only [Nat.add_zero]; omega
    | succ k ih =>
      intro h
      have := ih (by omega)
      have u := N.up (t + k) (by omega) (by omega)
      rw [show t + (k + 1) = t + k + 1 by omega]
      omega
  refine ⟨fun i hi => ?_, fun i hi => ?_⟩
  · by_cases q : i < t
    · rw [N.low i q]; exact o.dep i hi
    · have := dep (i - t) (by omega)
      rwa [show t + (i - t) = i by omega] at this
  · by_cases q : i + 1 < t
    · rw [N.low i (by omega), N.low (i + 1) q]; exact o.near i hi
    · by_cases q2 : i + 1 = t
      · have e := N.low i (by omega)
        have c := N.can.2
        have nr := o.near i hi
        rw [q2] at nr ⊢
        have z : f t + 1 - f (t - 1) ≤ S := by
          rcases c with c | c
          · omega
          · exact c
        rw [show t - 1 = i by omega] at z
        rw [e, hat]
        omega
      · have u := N.up i (by omega) hi
        have := dep (i - t) (by omega)
        rw [show t + (i - t) = i by omega] at this
        omega
theorem NextF.lex {P : Nat} {D S : Int} {f n : Nat → Int} {t : Nat} (N : NextF P D S f n t) : LexF P f n :=
  ⟨t, N.lt, fun i hi => (N.low i hi).symm, by have := N.at_; omega⟩
theorem NextF.least {P : Nat} {D S : Int} {f n d : Nat → Int} {t : Nat} (N : NextF P D S f n t) (od : OkF P D S d) (hl : LexF P f d) : ¬ LexF P d n := by
  rintro ⟨k, hk, ek, lk⟩
  obtain ⟨j, hj, ej, lj⟩ := hl
  have hat := N.at_
  have jt : j ≤ t := by
    refine Nat.le_of_not_lt fun q => N.last j q hj ⟨?_, ?_⟩
    · have := (od.dep j hj).2; omega
    · refine .inr ?_
      have e := ej (j - 1) (by omega)
      have := (od.near (j - 1) (by omega)).2
      rw [show j - 1 + 1 = j by omega] at this
      omega
  rcases Nat.lt_trichotomy k j with q | q | q
  · have e1 := ej k q
    have e2 := N.low k (by omega)
    omega
  · subst q
    by_cases z : k < t
    · have := N.low k z; omega
    · have z' : k = t := by omega
      subst z'
      omega
  · have e1 := ek j q
    by_cases z : j < t
    · have := N.low j z; omega
    · have z' : j = t := by omega
      subst z'
      have e3 := ek (k - 1) (by omega)
      have u := N.up (k - 1) (by omega) (by omega)
      have nr := (od.near (k - 1) (by omega)).1
      have dp := (od.dep k hk).1
      rw [show k - 1 + 1 = k by omega] at u nr
      omega
/-- what can be filed on to another one is not greater -/
theorem file_le {P : Nat} {f g : Nat → Int} (h : ∀ i, i < P → f i ≤ g i) : ¬ LexF P g f := by
  rintro ⟨j, hj, _, lj⟩
  have := h j hj
  omega
theorem zero_le {P : Nat} {D S : Int} {f : Nat → Int} (o : OkF P D S f) : ¬ LexF P f (fun _ => 0) := by
  rintro ⟨j, hj, _, lj⟩
  have h := (o.dep j hj).1
  have l : f j < 0 := lj
  omega
end Ws

/-! Rules and small facts of my own over the hand layer. -/
namespace Ws
open L2 PySem PySem.Spec PyProof.Rows
/-- the item at a place -/
def gd (ns : List Int) (i : Nat) : Int := ns.getD i 0
abbrev ivs (ns : List Int) : List V := ns.map V.int
abbrev tupI (ns : List Int) : HO := .tup (ns.map V.int)
abbrev rulO (P D B S : Int) : HO := .tup [.int P, .int D, .int B, .int S]
theorem gd_some {ns : List Int} {i : Nat} (h : i < ns.length) : ns[i]? = some (gd ns i) := by
  unfold gd
  rw [List.getD_eq_getElem?_getD, List.getElem?_eq_getElem h]
  rfl
theorem gd_of {ns : List Int} {i : Nat} {x : Int} (h : ns[i]? = some x) : gd ns i = x := by
  unfold gd
  rw [List.getD_eq_getElem?_getD, h]
  rfl
theorem at_int {ns : List Int} {i : Nat} (h : i < ns.length) : (ivs ns)[i]? = some (V.int (gd ns i)) := by
  show (ns.map V.int)[i]? = _
  rw [List.getElem?_map, gd_some h]
  rfl
theorem int_at {ns : List Int} {i : Nat} {x : V} (h : (ivs ns)[i]? = some x) : i < ns.length ∧ x = V.int (gd ns i) := by
  have h' : (ns.map V.int)[i]? = some x := h
  have hi : i < (ns.map V.int).length := (List.getElem?_eq_some_iff.mp h').1
  rw [List.length_map] at hi
  rw [at_int hi] at h
  exact ⟨hi, (Option.some.inj h).symm⟩
theorem len_ivs (ns : List Int) : (ivs ns).length = ns.length := List.length_map _
theorem mem_gd {ns : List Int} {i : Nat} (h : i < ns.length) : gd ns i ∈ ns := List.mem_of_getElem? (gd_some h)
theorem gd_app_lt {ns ms : List Int} {i : Nat} (h : i < ns.length) : gd (ns ++ ms) i = gd ns i :=
  gd_of (by rw [List.getElem?_append_left h]; exact gd_some h)
theorem gd_app_at {ns : List Int} {x : Int} : gd (ns ++ [x]) ns.length = x :=
  gd_of (by rw [List.getElem?_append_right (Nat.le_refl _), Nat.sub_self]; rfl)
theorem gd_take {ns : List Int} {i t : Nat} (h : i < t) : gd (ns.take t) i = gd ns i := by
  unfold gd
  rw [List.getD_eq_getElem?_getD, List.getD_eq_getElem?_getD, List.getElem?_take_of_lt h]
/-! heaps -/
theorem same_upd {H : Hp} {p : Addr} {o : HO} (free : H p = none) : Same H (upd H p o) :=
  fun _ _ e => (upd_ne (ne_of_none e free)).trans e
/-- a list of one's own, new since H, changed -/
theorem same_own {H H1 : Hp} {l : Addr} {o : HO} (s : Same H H1) (free : H l = none) : Same H (upd H1 l o) :=
  fun b x e => (upd_ne (ne_of_none e free)).trans (s b x e)
theorem line100 {n : Nat} (h : n ≤ 1000) : n ≤ sizeLine := Nat.le_of_lt (small1000 h)
/-! loops -/
/-- a loop over what J tells, n turns: Pv holds ahead of turn i -/
theorem for_any {J : It} {n : Nat} {g : TG} {tb : TS} {D : Ends} {σ : L2.St} {H : Hp} (Pv : Nat → L2.St → Hp → Prop) (first : Pv 0 σ H) (more : ∀ i σ H, i < n → Pv i σ H → J.go i H) (out : ∀ σ H, Pv n σ H → J.stop n H)
    (turn : ∀ (i : Nat) (v : V) (σ : L2.St) (H H' : Hp), i < n → Pv i σ H → J.yld i H v H' → g v σ H' fun σ2 H2 => tb { D with nx := Pv (i + 1), ct := Pv (i + 1), bk := D.nx } σ2 H2) (behind : ∀ σ H, Pv n σ H → D.nx σ H) :
    ∃ Wv : Nat → Nat → L2.St → Hp → Prop, (∃ c, Wv 0 c σ H) ∧ ∀ i c σ H, Wv i c σ H →
      (J.stop i H ∧ D.nx σ H) ∨ (J.go i H ∧ ∃ Nx : L2.St → Hp → Prop, (∀ σ' H', Nx σ' H' → ∃ c', c' < c ∧ Wv (i + 1) c' σ' H') ∧ ∀ v H', J.yld i H v H' → g v σ H' fun σ2 H2 => tb { D with nx := Nx, ct := Nx, bk := D.nx } σ2 H2) := by
  refine ⟨fun i c σ H => i + c = n ∧ Pv i σ H, ⟨n, Nat.zero_add n, first⟩, fun i c σ H hw => ?_⟩
  cases c with
  | zero =>
    have q := hw.2
    rw [show i = n from hw.1] at q ⊢
    exact .inl ⟨out σ H q, behind σ H q⟩
  | succ c =>
    have hi : i < n := by have := hw.1; omega
    exact .inr ⟨more i σ H hi hw.2, Pv (i + 1), fun σ' H' q => ⟨c, Nat.lt_succ_self c, by have := hw.1; omega, q⟩, fun v H' y => turn i v σ H H' hi hw.2 y⟩
/-- over zip of two tuples, n the shorter one's length -/
theorem for_zip2 {K : PySem.W.Frag} {a b : Addr} {xs ys : List V} {n : Nat} {g : TG} {tb : TS} {D : Ends} {σ : L2.St} {H : Hp} (hn : n = min xs.length ys.length) (Pv : Nat → L2.St → Hp → Prop) (first : Pv 0 σ H) (stay : ∀ i σ H, Pv i σ H → SqT K H a xs ∧ SqT K H b ys)
    (turn : ∀ (i : Nat) (x y : V) (pr : Addr) (σ : L2.St) (H : Hp), i < n → xs[i]? = some x → ys[i]? = some y → Pv i σ H → H pr = none → g (.ref pr) σ (upd H pr (.tup [x, y])) fun σ2 H2 => tb { D with nx := Pv (i + 1), ct := Pv (i + 1), bk := D.nx } σ2 H2) (behind : ∀ σ H, Pv n σ H → D.nx σ H) :
    ∃ Wv : Nat → Nat → L2.St → Hp → Prop, (∃ c, Wv 0 c σ H) ∧ ∀ i c σ H, Wv i c σ H →
      ((RZ.ItzT K a b).stop i H ∧ D.nx σ H) ∨ ((RZ.ItzT K a b).go i H ∧ ∃ Nx : L2.St → Hp → Prop, (∀ σ' H', Nx σ' H' → ∃ c', c' < c ∧ Wv (i + 1) c' σ' H') ∧ ∀ v H', (RZ.ItzT K a b).yld i H v H' → g v σ H' fun σ2 H2 => tb { D with nx := Nx, ct := Nx, bk := D.nx } σ2 H2) := by
  refine for_any (J := RZ.ItzT K a b) (n := n) Pv first (fun i σ H hi p => ?_) (fun σ H p => ?_) (fun i v σ H H' hi p y => ?_) behind
  · have q := stay i σ H p
    exact ⟨xs, ys, _, _, q.1, q.2, List.getElem?_eq_getElem (by omega), List.getElem?_eq_getElem (by omega)⟩
  · have q := stay n σ H p
    exact ⟨xs, ys, q.1, q.2, by omega⟩
  · have q := stay i σ H p
    obtain ⟨pr, x, y, rfl, free, rfl, ex, ey⟩ := y
    exact turn i x y pr σ H hi (ex xs q.1) (ey ys q.2) p free
/-! the order of tuples of ints -/
theorem lexAt_iff {f g : Nat → Int} {r : Nat → Bool} {z : Bool} {Rr : Int → Int → Prop} (hr : ∀ j, r j = true ↔ Rr (f j) (g j)) : ∀ (k i : Nat),
    Ob.lexAt (fun j => f j == g j) r z i k = true ↔ ((∀ j, i ≤ j → j < i + k → f j = g j) ∧ z = true) ∨ ∃ j, i ≤ j ∧ j < i + k ∧ (∀ m, i ≤ m → m < j → f m = g m) ∧ f j ≠ g j ∧ Rr (f j) (g j) := by
  intro k
  induction k with
  | zero =>
    intro i
    rw [Ob.lexAt_zero]
    constructor
    · intro h
      exact .inl ⟨fun j h1 h2 => absurd h2 (by omega), h⟩
    · rintro (⟨_, h⟩ | ⟨j, h1, h2, _⟩)
      · exact h
      · omega
  | succ k ih =>
    intro i
    rw [Ob.lexAt_succ]
    by_cases e : f i = g i
    · rw [if_pos (beq_iff_eq.mpr e), ih (i + 1)]
      constructor
      · rintro (⟨h1, h2⟩ | ⟨j, h1, h2, h3, h4⟩)
        · refine .inl ⟨fun j a b => ?_, h2⟩
          by_cases q : j = i
          · subst q; exact e
          · exact h1 j (by omega) (by omega)
        · refine .inr ⟨j, by omega, by omega, fun m a b => ?_, h4⟩
          by_cases q : m = i
          · subst q; exact e
          · exact h3 m (by omega) b
      · rintro (⟨h1, h2⟩ | ⟨j, h1, h2, h3, h4⟩)
        · exact .inl ⟨fun j a b => h1 j (by omega) (by omega), h2⟩
        · refine .inr ⟨j, ?_, by omega, fun m a b => h3 m (by omega) b, h4⟩
          by_cases q : j = i
          · subst q; exact absurd e h4.1
          · omega
    · rw [if_neg (fun q => e (beq_iff_eq.mp q)), hr i]
      constructor
      · intro h
        exact .inr ⟨i, Nat.le_refl _, by omega, fun m a b => absurd b (by omega), e, h⟩
      · rintro (⟨h1, _⟩ | ⟨j, h1, h2, h3, h4⟩)
        · exact absurd (h1 i (Nat.le_refl _) (by omega)) e
        · by_cases q : j = i
          · subst q; exact h4.2
          · exact absurd (h3 i (Nat.le_refl _) (by omega)) e
/-- t op u, two tuples of ints of one length -/
def rTup (K : PySem.W.Frag) (sw : Bool) : R2 := fun x y H Q => ∃ (a b : Addr) (ns ms : List Int), x = .ref a ∧ y = .ref b ∧ SqT K H a (ns.map V.int) ∧ SqT K H b (ms.map V.int) ∧ ns.length = ms.length ∧
  ∀ k : Bool, (k = true ↔ (if sw then LexF ns.length (gd ms) (gd ns) else LexF ns.length (gd ns) (gd ms))) → Q (.bl k) H
/-- a tuple of ints in the model's own heap -/
theorem tup_in {X : Cx} {pins : List (Addr × Obj)} {σ : L2.St} {H : Hp} {s : Shared} {a : Addr} {ns : List Int} (I : Inv X pins σ H s) (h : SqT X.K H a (ivs ns)) :
    ∃ items : Array Value, s.heap.IsTuple a items ∧ items.size = ns.length ∧ ∀ j (hj : j < items.size), ∃ t, items[j] = .int (gd ns j) t := by
  obtain ⟨l, vals, tup, _⟩ := I.tuple h
  have size : l.toArray.size = ns.length := by
    rw [← len_ivs ns, vals.length]
    exact List.size_toArray
  refine ⟨l.toArray, tup, size, fun j hj => ?_⟩
  obtain ⟨u, at_, t, eu⟩ := vals.get (at_int (ns := ns) (i := j) (by omega))
  have hj' : j < l.length := hj
  rw [List.getElem?_eq_getElem hj'] at at_
  exact ⟨t, (Option.some.inj at_).trans eu⟩
theorem op_tup (op : CmpOp) (sw : Bool) {X : Cx}
    (rule : ∀ {A : Around} {s : Shared} {l b : Addr} {items items2 : Array Value} {e r : Nat → Bool} (hl : s.heap.IsTuple l items) (hb : s.heap.IsTuple b items2) (hu : A.units < cLine)
      (he : ∀ j (h1 : j < items.size) (h2 : j < items2.size), SeqAt.EqAt A.in1 s items[j] items2[j] (e j))
      (hr : ∀ j (h1 : j < items.size) (h2 : j < items2.size), e j = false → Ob.RcOp op A.in1 s items[j] items2[j] (r j)) (hz : items.size = items2.size),
      Ob.RcOp op A s (.ref l) (.ref b) (Ob.lexAt e r false 0 (min items.size items2.size)))
    (ofInts : ∀ (A : Around) (s : Shared) (a b : Int) (t u : Tok), Ob.RcOp op A s (.int a t) (.int b u) (if sw then decide (b < a) else decide (a < b)))
    (cmp : ∀ (v u : Value), compareOp op v u = richCompare op v u) (hu : X.A.units < cLine) : OpR X (compareOp op) (rTup X.K sw) := by
  rintro pins s σ H _ _ v u Q I rx ry ⟨a, b, ns, ms, rfl, rfl, ha, hb, hz, q⟩
  obtain rfl : v = .ref a := rx
  obtain rfl : u = .ref b := ry
  obtain ⟨xs, tx, sx, ix⟩ := tup_in I ha
  obtain ⟨ys, ty, sy, iy⟩ := tup_in I hb
  have R := rule (A := X.A) (s := s) (e := fun j => gd ns j == gd ms j) (r := fun j => if sw then decide (gd ms j < gd ns j) else decide (gd ns j < gd ms j)) tx ty hu (fun j h1 h2 => by
      obtain ⟨t1, e1⟩ := ix j h1
      obtain ⟨t2, e2⟩ := iy j h2
      rw [e1, e2]
      exact SeqAt.EqAt.int_int (gd ns j) t1 (gd ms j) t2) (fun j h1 h2 _ => by
      obtain ⟨t1, e1⟩ := ix j h1
      obtain ⟨t2, e2⟩ := iy j h2
      rw [e1, e2]
      exact ofInts X.A.in1 s (gd ns j) (gd ms j) t1 t2) (by rw [sx, sy, hz])
  rw [sx, sy, hz, Nat.min_self] at R
  rw [cmp]
  refine R X.prog X.w X.xe (EP X pins σ Q) ⟨.bl _, H, I, rfl, q _ ?_⟩
  cases sw with
  | true =>
    rw [lexAt_iff (Rr := fun x y => y < x) (fun j => by simp)]
    simp only [if_true]
    constructor
    · rintro (⟨_, z⟩ | ⟨j, _, h2, h3, h4, h5⟩)
      · cases z
      · exact ⟨j, by omega, fun i hi => (h3 i (Nat.zero_le _) hi).symm, h5⟩
    · rintro ⟨j, h1, h2, h3⟩
      exact .inr ⟨j, Nat.zero_le _, by omega, fun m _ hm => (h2 m hm).symm, by omega, h3⟩
  | false =>
    rw [lexAt_iff (Rr := fun x y => x < y) (fun j => by simp)]
    constructor
    · rintro (⟨_, z⟩ | ⟨j, _, h2, h3, h4, h5⟩)
      · cases z
      · exact ⟨j, by omega, fun i hi => h3 i (Nat.zero_le _) hi, h5⟩
    · rintro ⟨j, h1, h2, h3⟩
      exact .inr ⟨j, Nat.zero_le _, by omega, fun m _ hm => h2 m hm, by omega, h3⟩
theorem op_ltI {X : Cx} (hu : X.A.units < cLine) : OpR X (compareOp .Lt) (rTup X.K false) :=
  op_tup .Lt false (fun hl hb hu he hr hz => by
    have h := Ob.RcOp.tuples_lt hl hb hu he hr
    rw [hz, decide_eq_false (Nat.lt_irrefl _)] at h
    rw [hz]
    exact h) (fun _ _ a b t u => Ob.RcOp.lt_int a b t u) (fun _ _ => rfl) hu
theorem op_gtI {X : Cx} (hu : X.A.units < cLine) : OpR X (compareOp .Gt) (rTup X.K true) :=
  op_tup .Gt true (fun hl hb hu he hr hz => by
    have h := Ob.RcOp.tuples_gt hl hb hu he hr
    rw [hz, decide_eq_false (Nat.lt_irrefl _)] at h
    rw [hz]
    exact h) (fun _ _ a b t u => Ob.RcOp.gt_int a b t u) (fun _ _ => rfl) hu
end Ws

/-! Texts of cuts: numbers joined, split and read back. -/
namespace Ws
open L2 TL PySem PySem.Spec PyProof.Rows
/-- a number's text -/
def numS (x : Int) : Str := toString x
def joined (ns : List Int) : Str := Txt.join "-" (ns.map numS)
/-- numbers that are written in one to three figures -/
def Small (ns : List Int) : Prop := ∀ i, i < ns.length → 0 ≤ gd ns i ∧ gd ns i < 1000
theorem tl_numS {x : Int} (h : 0 ≤ x) : tl (numS x) = numL x.toNat := by
  obtain ⟨n, rfl⟩ : ∃ n : Nat, x = (n : Int) := ⟨x.toNat, by omega⟩
  exact tl_num n
theorem numS_len {x : Int} (h : 0 ≤ x) (h2 : x < 1000) : 1 ≤ (numS x).length ∧ (numS x).length ≤ 3 := by
  rw [len_tl, tl_numS h]
  have e := numL_ne x.toNat
  have l := numL_len (n := x.toNat) (k := 3) (by decide) (by omega)
  refine ⟨?_, l⟩
  cases q : numL x.toNat with
  | nil => exact absurd q e
  | cons a r => rw [List.length_cons]; omega
theorem int_numS {x : Int} (h : 0 ≤ x) (h2 : x < 1000) : intText? (numS x) = some x := by
  obtain ⟨n, rfl⟩ : ∃ n : Nat, x = (n : Int) := ⟨x.toNat, by omega⟩
  exact int_num (Nat.le_trans (numL_len (n := n) (k := 3) (by decide) (by omega)) (by decide))
theorem numL_head : ∀ (n : Nat), 0 < n → ∃ c r, numL n = c :: r ∧ c ≠ 48 := by
  intro n
  induction n using Nat.strongRecOn with
  | _ n ih =>
    intro h0
    by_cases h : n < 10
    · exact ⟨48 + n, [], numL_lt h, by omega⟩
    · obtain ⟨c, r, e, hc⟩ := ih (n / 10) (by omega) (by omega)
      exact ⟨c, r ++ [48 + n % 10], by rw [numL_step (by omega), e]; rfl, hc⟩
theorem dash : tl ("-" : Str) = [45] := tl_ofString "-"
theorem mem_small {ns : List Int} (h : Small ns) {x : Int} (hx : x ∈ ns) : 0 ≤ x ∧ x < 1000 := by
  obtain ⟨i, hi, e⟩ := List.getElem_of_mem hx
  have q := h i hi
  have z : gd ns i = x := gd_of (by rw [List.getElem?_eq_getElem hi, e])
  rw [z] at q
  exact q
theorem split_joined {ns : List Int} (h : Small ns) (h0 : 1 ≤ ns.length) : Txt.split (joined ns) "-" = ns.map numS := by
  refine split_join (s := 45) (S := []) dash (by decide +kernel) (fun e => ?_) fun p hp => ?_
  · rw [List.map_eq_nil_iff] at e
    rw [e] at h0
    exact absurd h0 (by decide)
  · obtain ⟨x, hx, rfl⟩ := List.mem_map.mp hp
    rw [tl_numS (mem_small h hx).1]
    exact numL_free (.inl (by decide))
theorem joinL_len (S : List Nat) (k : Nat) : ∀ parts : List (List Nat), (∀ p ∈ parts, p.length ≤ k) → (joinL S parts).length ≤ parts.length * (k + S.length)
  | [], _ => Nat.zero_le _
  | [p], h => by
    show p.length ≤ 1 * (k + S.length)
    have := h p (List.mem_singleton.mpr rfl)
    omega
  | p :: q :: r, h => by
    show (p ++ (S ++ joinL S (q :: r))).length ≤ (p :: q :: r).length * (k + S.length)
    have h1 := h p (List.mem_cons_self ..)
    have h2 := joinL_len S k (q :: r) fun z hz => h z (List.mem_cons_of_mem _ hz)
    rw [List.length_append, List.length_append, List.length_cons (a := p), Nat.succ_mul]
    omega
theorem joined_len {ns : List Int} (h : Small ns) (h1 : ns.length ≤ 24) : (joined ns).length ≤ 96 := by
  unfold joined
  rw [len_tl, join_eq, tl_join, dash]
  refine Nat.le_trans (joinL_len [45] 3 _ fun p hp => ?_) ?_
  · obtain ⟨z, hz, rfl⟩ := List.mem_map.mp hp
    obtain ⟨x, hx, rfl⟩ := List.mem_map.mp hz
    have q := mem_small h hx
    have l := (numS_len q.1 q.2).2
    rw [len_tl] at l
    exact l
  · rw [List.length_map, List.length_map]
    show ns.length * 4 ≤ 96
    omega
theorem sum_len (k : Nat) : ∀ ys : List Str, (∀ y ∈ ys, y.length ≤ k) → (ys.map (·.length)).sum ≤ ys.length * k
  | [], _ => Nat.zero_le _
  | y :: r, h => by
    have h1 := h y (List.mem_cons_self ..)
    have h2 := sum_len k r fun z hz => h z (List.mem_cons_of_mem _ hz)
    rw [List.map_cons, List.sum_cons, List.length_cons, Nat.succ_mul]
    omega
theorem join_size {ns : List Int} (h : Small ns) (h1 : ns.length ≤ 24) : ((ns.map numS).map (·.length)).sum + (ns.map numS).length * ("-" : Str).length ≤ 16777216 := by
  have q := sum_len 3 (ns.map numS) fun y hy => by
    obtain ⟨x, hx, rfl⟩ := List.mem_map.mp hy
    have z := mem_small h hx
    exact (numS_len z.1 z.2).2
  have d : ("-" : Str).length = 1 := by rw [len_tl, dash]; rfl
  rw [d]
  rw [List.length_map] at q ⊢
  omega
theorem figures : tl ("0123456789" : Str) = [48, 49, 50, 51, 52, 53, 54, 55, 56, 57] := tl_ofString "0123456789"
theorem in_figures {c : Nat} (h : 48 ≤ c ∧ c ≤ 57) : c ∈ ("0123456789" : Str).cps.toList := by
  show c ∈ tl ("0123456789" : Str)
  rw [figures]
  have : c = 48 ∨ c = 49 ∨ c = 50 ∨ c = 51 ∨ c = 52 ∨ c = 53 ∨ c = 54 ∨ c = 55 ∨ c = 56 ∨ c = 57 := by omega
  rcases this with e | e | e | e | e | e | e | e | e | e <;> subst e <;> decide
/-- each sign of a written number is a figure -/
theorem numS_sign {x : Int} (h : 0 ≤ x) {i c : Nat} (e : (numS x).cps[i]? = some c) : c ∈ ("0123456789" : Str).cps.toList := by
  refine in_figures ?_
  have q : c ∈ tl (numS x) := by
    refine List.mem_of_getElem? (i := i) ?_
    show (numS x).cps.toList[i]? = some c
    rw [Array.getElem?_toList]
    exact e
  rw [tl_numS h] at q
  exact numL_digits _ c q
/-- its first sign is no 0, but of 0 itself -/
theorem numS_first {x : Int} (h : 0 ≤ x) : ∃ c, (numS x).cps.toList[0]? = some c ∧ (numS x = "0" ∨ c ≠ 48) := by
  show ∃ c, (tl (numS x))[0]? = some c ∧ _
  rw [tl_numS h]
  by_cases z : x = 0
  · subst z
    exact ⟨48, by decide +kernel, .inl rfl⟩
  · obtain ⟨c, r, e, hc⟩ := numL_head x.toNat (by omega)
    exact ⟨c, by rw [e]; rfl, .inr hc⟩
theorem sign48 : (⟨#[48]⟩ : Str) = "0" := ext_tl (tl_ofString "0").symm
end Ws

/-! The text by places; what the top has left; is_whole, is_number, numbers_in. -/
namespace Ws
open L2 PySem PySem.Spec PyProof.Rows
def topS (i : Nat) : Stmt := PySem.Challenge.pw_wardsmith_k08_whole_in_order.main.body.getD i (.Pass ⟨0, 0, 0, 0⟩)
abbrev sWhole : Stmt := topS 4
abbrev sNum : Stmt := topS 7
abbrev sNums : Stmt := topS 8
abbrev sIs : Stmt := topS 10
abbrev sRead : Stmt := topS 11
abbrev sShown : Stmt := topS 12
abbrev sFirst : Stmt := topS 13
abbrev sFill : Stmt := topS 14
abbrev sNext : Stmt := topS 15
abbrev sFile : Stmt := topS 16
abbrev sMixed : Stmt := topS 18
abbrev sRules : Stmt := topS 19
abbrev sCuts : Stmt := topS 20
abbrev sLread : Stmt := topS 21
abbrev sWritten : Stmt := topS 22
abbrev sBetween : Stmt := topS 23
abbrev sLaw : Stmt := topS 24
/-- the built-in names that the text uses are the built-in ones; FIGURES -/
structure Bl (mg : Str → Option Value) : Prop where
  isi : mg "isinstance" = none
  int : mg "int" = none
  bool : mg "bool" = none
  tuple : mg "tuple" = none
  str : mg "str" = none
  len : mg "len" = none
  zip : mg "zip" = none
  abs : mg "abs" = none
  range : mg "range" = none
  reversed : mg "reversed" = none
  list : mg "list" = none
  max : mg "max" = none
  min : mg "min" = none
  fig : ∃ t, mg "FIGURES" = some (.str "0123456789" t)
theorem b_isi : bootBuiltins "isinstance" = some (.builtin "isinstance") := by decide +kernel
theorem b_int : bootBuiltins "int" = some (.type "int") := by decide +kernel
theorem b_bool : bootBuiltins "bool" = some (.type "bool") := by decide +kernel
theorem b_tuple : bootBuiltins "tuple" = some (.type "tuple") := by decide +kernel
theorem b_str : bootBuiltins "str" = some (.type "str") := by decide +kernel
theorem b_len : bootBuiltins "len" = some (.builtin "len") := by decide +kernel
theorem b_abs : bootBuiltins "abs" = some (.builtin "abs") := by decide +kernel
theorem b_list : bootBuiltins "list" = some (.type "list") := by decide +kernel
theorem b_max : bootBuiltins "max" = some (.builtin "max") := by decide +kernel
theorem b_min : bootBuiltins "min" = some (.builtin "min") := by decide +kernel
section
variable {K : PySem.W.Frag} {mg : Str → Option Value} {P : Program} {w : World} {base : Heap}
/-! is_whole -/
theorem scWhole : FnScope ["thing"] ["thing"] (defScope sWhole) := ⟨rfl, rfl, rfl, by decide +kernel, rfl, by decide +kernel, by decide +kernel⟩
def spWhole : Sp := fun vs H Q _ => ∃ i : Int, vs = [.int i] ∧ Q (.bl true) H
theorem ok_whole {f : Addr} {fd : FuncData} (F : Fun K "is_whole" "is_whole" sWhole f fd) (T : Bl mg) : FnOk P w K mg base CX0 1 f fd ["thing"] spWhole := by
  refine F.ok scWhole (fun vs H Q E h => ?_) (fun cdv A outer s H vs Q E hr h => ?_)
  · obtain ⟨i, rfl, _⟩ := h
    rfl
  · obtain ⟨i, rfl, k⟩ := h
    refine ⟨_, pss_one (ps_ret (pe_and (pe_callB call_isi (by rfl) T.isi b_isi (pa_cons (pv 0) (pa_cons (pe_bltn (v := .ty "int") (by rfl) T.int b_int rfl) pa_nil)))
      (pe_one (pe_not (pe_callB call_isi (by rfl) T.isi b_isi (pa_cons (pv 0) (pa_cons (pe_bltn (v := .ty "bool") (by rfl) T.bool b_bool rfl) pa_nil))))))), ?_⟩
    refine ⟨.int i, rfl, .int i, .ty "int", .type "int", .type "int", true, rfl, .ty "int", .base (.int i), kit_ty (by decide +kernel), true, rfl, iteT ?_⟩
    exact ⟨.int i, rfl, .int i, .ty "bool", .type "int", .type "bool", false, rfl, .ty "bool", .base (.int i), kit_ty (by decide +kernel), false, rfl, k⟩
/-! is_number -/
theorem scNum : FnScope ["word", "sign"] ["word"] (defScope sNum) := ⟨rfl, rfl, rfl, by decide +kernel, rfl, by decide +kernel, by decide +kernel⟩
def spNum : Sp := fun vs H Q _ => ∃ x : Int, vs = [.str (numS x)] ∧ 0 ≤ x ∧ x < 1000 ∧ Q (.bl true) H
theorem ok_num {f : Addr} {fd : FuncData} (F : Fun K "is_number" "is_number" sNum f fd) (T : Bl mg) : FnOk P w K mg base CX0 1 f fd ["word"] spNum := by
  obtain ⟨tf, hfig⟩ := T.fig
  refine F.ok scNum (fun vs H Q E h => ?_) (fun cdv A outer s H vs Q E hr h => ?_)
  · obtain ⟨i, rfl, _⟩ := h
    rfl
  · obtain ⟨x, rfl, h0, h1, k⟩ := h
    refine ⟨_, pss_cons (ps_if (pt_not (pt_chain op_le op_le pe_int (pe_callB call_len_str (by rfl) T.len b_len (pa_cons (pv 0) pa_nil)) pe_int)) (pss_one (ps_ret pe_bl)) pss_nil)
      (pss_cons (ps_for PassesOwn.never rfl (pi_str (pv 0)) (pg_name (i := 1) scNum.nd rfl (.inl rfl))
        (pss_one (ps_if (pt_cmpR op_notIn_sign (pv 1) (pe_glob (v := .str "0123456789") rfl hfig ⟨_, rfl⟩) rfl) (pss_one (ps_ret pe_bl)) pss_nil)))
      (pss_one (ps_ret (pe_or (pe_cmpR op_eq (pv 0) pe_str (nomark _)) (pe_one (pe_cmpR op_ne (pe_ix ix_str (pv 0) pe_int (fun _ _ => rfl)) pe_str (nomark _))))))), ?_⟩
    have hl := numS_len h0 h1
    have hL : (numS x).length ≤ sizeLine := line100 (by omega)
    -- 1 <= len(word) <= 3
    refine ⟨.str (numS x), rfl, numS x, rfl, hL, 1, _, rfl, rfl, true, congrArg V.bl (decide_eq_true (show (1 : Int) ≤ ((numS x).length : Int) by omega)), iteT ?_⟩
    refine ⟨_, 3, rfl, rfl, true, congrArg V.bl (decide_eq_true (show ((numS x).length : Int) ≤ 3 by omega)), iteF ?_⟩
    -- for sign in word
    refine ⟨.str (numS x), rfl, numS x, rfl, for_any (J := Its (numS x)) (n := (numS x).cps.size) (fun _ σ H' => (∃ v : Option V, σ = [some (.str (numS x)), v]) ∧ H' = H) ⟨⟨none, rfl⟩, rfl⟩ (fun i σ H' hi _ => hi) (fun σ H' _ => Nat.le_refl _) ?_ ?_⟩
    · rintro i v σ H1 H2 hi ⟨⟨v1, rfl⟩, rfl⟩ ⟨rfl, c, hc, rfl⟩
      have hm := numS_sign h0 hc
      refine ⟨_, rfl, c, "0123456789", rfl, rfl, false, by rw [decide_eq_true hm]; rfl, iteF ?_⟩
      exact ⟨⟨_, rfl⟩, rfl⟩
    · rintro σ H1 ⟨⟨v1, rfl⟩, rfl⟩
      obtain ⟨c, hc, hd⟩ := numS_first h0
      refine ⟨.str (numS x), rfl, rfl, _, rfl, ite2 (fun _ => k) (fun hn => ?_)⟩
      refine ⟨.str (numS x), rfl, numS x, 0, c, rfl, rfl, hL, atI_nat (j := 0) hc, rfl, ?_⟩
      have q : c ≠ 48 := by
        rcases hd with e | e
        · exact absurd (decide_eq_true (by rw [e])) hn
        · exact e
      have q2 : ¬ (V.str ⟨#[c]⟩ = V.str "0") := fun e => by
        have e1 : (⟨#[c]⟩ : Str) = "0" := V.str.inj e
        rw [← sign48] at e1
        have e2 : (#[c] : Array Nat) = #[48] := Str.mk.inj e1
        have e3 : [c] = [48] := congrArg Array.toList e2
        exact q (List.cons.inj e3).1
      rw [decide_eq_false q2]
      exact k
/-! numbers_in -/
theorem scNums : FnScope ["text", "mark", "words", "word"] ["text", "mark"] (defScope sNums) := ⟨rfl, rfl, rfl, by decide +kernel, rfl, by decide +kernel, by decide +kernel⟩
def spNums : Sp := fun vs H Q _ => ∃ ns : List Int, vs = [.str (joined ns), .str "-"] ∧ Small ns ∧ 1 ≤ ns.length ∧ ns.length ≤ 24 ∧ ∀ H' p, Same H H' → H' p = some (tupI ns) → Q (.ref p) H'
theorem ok_nums {f fN : Addr} {fd fdN : FuncData} (F : Fun K "numbers_in" "numbers_in" sNums f fd) (T : Bl mg) (FN : Fun K "is_number" "is_number" sNum fN fdN) (bN : Binds K fdN ["word"] []) (gN : mg "is_number" = some (.ref fN)) :
    FnOk P w K mg base CX0 2 f fd ["text", "mark"] spNums := by
  have GN : FnOk P w K mg base CX0 1 fN fdN ["word"] spNum := ok_num FN T
  refine F.ok scNums (fun vs H Q E h => ?_) (fun cdv A outer s H vs Q E hr h => ?_)
  · obtain ⟨ns, rfl, _⟩ := h
    rfl
  · obtain ⟨ns, rfl, hs, h1, h24, k⟩ := h
    refine ⟨_, pss_cons (ps_set (i := 2) scNums.nd rfl (.inl rfl) (pe_split (pv 0) (pv 1)))
      (pss_cons (ps_for PassesOwn.never rfl (pi_list (pv 2)) (pg_name (i := 3) scNums.nd rfl (.inl rfl))
        (pss_one (ps_if (pt_not (pt_val (pe_call GN hr rfl gN FN.kp bN .nil pass0 (pa_cons (pv 3) pa_nil)))) (pss_one (ps_ret pe_non)) pss_nil)))
      (pss_one (ps_ret (pe_callTy call_tuple_of (by rfl) T.tuple b_tuple (pa_cons (pe_lc (own := [("word", 3)]) (g := gName 3) (tt := tYes) rfl scNums.nd (pi_list (pv 2))
        (blkOk_by (own := [("word", 3)]) (N := ["text", "mark", "words", "word"]) (sc := defScope sNums) (by decide +kernel)) (fun _ _ _ _ _ => pg_name (i := 3) scNums.nd rfl (Or.inl rfl)) (fun _ _ _ _ _ => pts_nil)
        (fun _ _ _ _ _ => pe_callTy call_int_str (by rfl) T.int b_int (pa_cons (pv 3) pa_nil))) pa_nil))))), ?_⟩
    have hl := joined_len hs h24
    -- words = text.split(mark)
    refine ⟨.str (joined ns), rfl, ⟨_, rfl⟩, .str "-", rfl, joined ns, "-", rfl, rfl, by decide +kernel, line100 (by omega), fun p hp => ?_⟩
    have hsp : (Txt.split (joined ns) "-").map V.str = (ns.map numS).map V.str := by rw [split_joined hs h1]
    have s1 : Same H (upd H p (.lst ((Txt.split (joined ns) "-").map V.str))) := same_upd hp
    have hP : (upd H p (.lst ((Txt.split (joined ns) "-").map V.str))) p = some (.lst ((ns.map numS).map V.str)) := by rw [upd_same, hsp]
    generalize upd H p (.lst ((Txt.split (joined ns) "-").map V.str)) = H1 at s1 hP
    have word : ∀ (i : Nat) (y : V), ((ns.map numS).map V.str)[i]? = some y → i < ns.length ∧ y = .str (numS (gd ns i)) := by
      intro i y e
      have hi : i < ns.length := by
        have := (List.getElem?_eq_some_iff.mp e).1
        rw [List.length_map, List.length_map] at this
        exact this
      rw [List.getElem?_map, List.getElem?_map, gd_some hi] at e
      exact ⟨hi, (Option.some.inj e).symm⟩
    have lenW : ((ns.map numS).map V.str).length = ns.length := by rw [List.length_map, List.length_map]
    -- for word in words
    refine ⟨.ref p, rfl, p, rfl, ⟨_, SqL.of hP⟩, for_list (K := K) (a := p) (xs := (ns.map numS).map V.str) (fun _ σ H' => (∃ v : Option V, σ = [some (.str (joined ns)), some (.str "-"), some (.ref p), v]) ∧ H' = H1)
      ⟨⟨none, rfl⟩, rfl⟩ (fun i σ H' _ h => by rw [h.2]; exact SqL.of hP) ?_ ?_⟩
    · rintro i y σ H2 hi ⟨⟨v, rfl⟩, rfl⟩
      obtain ⟨hi', rfl⟩ := word i y hi
      refine ⟨_, rfl, gd ns i, rfl, (hs i hi').1, (hs i hi').2, true, rfl, iteF ?_⟩
      exact ⟨⟨_, rfl⟩, rfl⟩
    · rintro σ H2 ⟨⟨v, rfl⟩, rfl⟩
      -- tuple([int(word) for word in words])
      refine ⟨.ref p, rfl, p, rfl, ⟨_, SqL.of hP⟩, fun D hD => ?_⟩
      have npD : p ≠ D := ne_of_none hP hD
      refine lc_list (K := K) (a := p) (xs := (ns.map numS).map V.str) (fun i H' => Same H2 H' ∧ H' D = some (.lst (ivs (ns.take i)))) ⟨same_upd hD, upd_same⟩ (fun i H' _ h => SqL.of (h.1 _ _ hP)) ?_ ?_
      · rintro i y H3 hi ⟨s3, eD⟩
        obtain ⟨hi', rfl⟩ := word i y hi
        refine ⟨rfl, ?_⟩
        unfold tYes
        refine iteT ?_
        refine ⟨_, rfl, numS (gd ns i), gd ns i, rfl, int_numS (hs i hi').1 (hs i hi').2, Nat.le_trans (numS_len (hs i hi').1 (hs i hi').2).2 (by decide), _, eD, ?_, ?_, ?_⟩
        · rw [len_ivs, List.length_take]
          exact small1000 (by omega)
        · exact same_own s3 hD
        · rw [upd_same, List.take_add_one, gd_some hi']
          show some (HO.lst (ivs (ns.take i) ++ [V.int (gd ns i)])) = some (HO.lst ((ns.take i ++ [gd ns i]).map V.int))
          rw [List.map_append]
          rfl
      · rintro H3 ⟨s3, eD⟩
        rw [lenW, List.take_length] at eD
        refine ⟨D, _, rfl, .inl ⟨SqL.of eD, fun l hl => ?_⟩⟩
        exact k _ l (s1.trans (s3.trans (same_upd hl))) upd_same
end
end Ws

/-! is_cuts -/
namespace Ws
open L2 PySem PySem.Spec PyProof.Rows
/-- cuts by the rules, a list of ints -/
def OkL (P D S : Int) (ns : List Int) : Prop := (ns.length : Int) = P ∧ OkF ns.length D S (gd ns)
theorem cut1 (xs : List V) : cutV xs (some 1) none = xs.drop 1 := by
  have from1 : HT.sIx xs.length 0 (some ((1 : Nat) : Int)) = min 1 xs.length := HT.sIx_nat _ _ _
  unfold cutV
  rw [HT.sIx_none]
  refine (congrArg (fun k => (xs.drop k).take (xs.length - k)) from1).trans ?_
  cases xs with
  | nil => rfl
  | cons x r =>
    have one : min 1 (x :: r).length = 1 := Nat.min_eq_left (Nat.succ_le_succ (Nat.zero_le _))
    rw [one]
    exact List.take_of_length_le (Nat.le_of_eq rfl)
theorem drop_at {ns : List Int} {i : Nat} {x : V} (h : (cutV (ivs ns) (some 1) none)[i]? = some x) : i + 1 < ns.length ∧ x = V.int (gd ns (i + 1)) := by
  rw [cut1, List.getElem?_drop, Nat.add_comm 1 i] at h
  exact int_at h
section
variable {K : PySem.W.Frag} {mg : Str → Option Value} {P : Program} {w : World} {base : Heap}
theorem scIs : FnScope ["rules", "thing", "places", "depths", "heights", "step", "depth", "here", "there"] ["rules", "thing"] (defScope sIs) := ⟨rfl, rfl, rfl, by decide +kernel, rfl, by decide +kernel, by decide +kernel⟩
def spIs : Sp := fun vs H Q _ => ∃ (a b : Addr) (P D B S : Int) (ns : List Int), vs = [.ref a, .ref b] ∧ H a = some (rulO P D B S) ∧ H b = some (tupI ns) ∧ 1 ≤ ns.length ∧ ns.length ≤ 1000 ∧
  ∀ (k : Bool) H', Same H H' → (k = true ↔ OkL P D S ns) → Q (.bl k) H'
theorem ok_is {f fW : Addr} {fd fdW : FuncData} (F : Fun K "is_cuts" "is_cuts" sIs f fd) (T : Bl mg) (FW : Fun K "is_whole" "is_whole" sWhole fW fdW) (bW : Binds K fdW ["thing"] []) (gW : mg "is_whole" = some (.ref fW)) :
    FnOk P w K mg base CX0 2 f fd ["rules", "thing"] spIs := by
  have GW : FnOk P w K mg base CX0 1 fW fdW ["thing"] spWhole := ok_whole FW T
  refine F.ok scIs (fun vs H Q E h => ?_) (fun cdv A outer s H vs Q E hr h => ?_)
  · obtain ⟨a, b, P, D, B, S, ns, rfl, _⟩ := h
    rfl
  · obtain ⟨a, b, P, D, B, S, ns, rfl, hA, hB, h1, hlen, k⟩ := h
    refine ⟨_, pss_cons (ps_asg (pv 0) (pg_tup (by rfl) (pgs_cons (pg_name (i := 2) scIs.nd rfl (.inl rfl)) (pgs_cons (pg_name (i := 3) scIs.nd rfl (.inl rfl)) (pgs_cons (pg_name (i := 4) scIs.nd rfl (.inl rfl)) (pgs_cons (pg_name (i := 5) scIs.nd rfl (.inl rfl)) pgs_nil))))))
      (pss_cons (ps_if (PW.pt (pw_or (pt_not (pt_val (pe_callB call_isi (by rfl) T.isi b_isi (pa_cons (pv 1) (pa_cons (pe_bltn (v := .ty "tuple") (by rfl) T.tuple b_tuple rfl) pa_nil)))))
          (pw_or1 (pt_cmpR op_ne (pe_callB call_len_seq (by rfl) T.len b_len (pa_cons (pv 1) pa_nil)) (pv 2) (nomark _))))) (pss_one (ps_ret pe_bl)) pss_nil)
      (pss_cons (ps_for PassesOwn.never rfl (pi_tup (pv 1)) (pg_name (i := 6) scIs.nd rfl (.inl rfl))
        (pss_one (ps_if (PW.pt (pw_or (pt_not (pt_val (pe_call GW hr rfl gW FW.kp bW .nil pass0 (pa_cons (pv 6) pa_nil)))) (pw_or1 (pt_not (pt_chain op_le op_lt pe_int (pv 6) (pv 3)))))) (pss_one (ps_ret pe_bl)) pss_nil)))
      (pss_cons (ps_for PassesOwn.never rfl (RZ.pi_zipA (by rfl) T.zip (pa_cons (pv 1) (pa_cons (pe_slice sl_tup (pv 1) (po_some pe_int) po_none) pa_nil)))
        (pg_tup rfl (pgs_cons (pg_name (i := 7) scIs.nd rfl (.inl rfl)) (pgs_cons (pg_name (i := 8) scIs.nd rfl (.inl rfl)) pgs_nil)))
        (pss_one (ps_if (pt_cmpR op_gt (pe_callB call_abs (by rfl) T.abs b_abs (pa_cons (pe_op op_sub (pv 7) (pv 8)) pa_nil)) (pv 5) (nomark _)) (pss_one (ps_ret pe_bl)) pss_nil)))
      (pss_one (ps_ret pe_bl))))), ?_⟩
    -- places, depths, heights, step = rules
    refine ⟨.ref a, rfl, a, _, rfl, SqT.of hA, rfl, _, _, rfl, _, _, rfl, _, _, rfl, _, _, rfl, rfl, ?_⟩
    -- isinstance(thing, tuple), len(thing) != places
    refine ⟨.ref b, rfl, .ref b, .ty "tuple", .type "tuple", .type "tuple", true, rfl, .ty "tuple", .base (.tup hB), kit_ty (by decide +kernel), true, rfl, iteF ?_⟩
    refine ⟨.ref b, rfl, b, ivs ns, rfl, .inr (SqT.of hB), .int P, rfl, rfl, _, rfl, ite2 (fun e => ?_) (fun e => ?_)⟩
    · refine k false H (Same.refl H) ⟨fun z => (by cases z), fun z => ?_⟩
      have q := z.1
      rw [len_ivs, decide_eq_true (show V.int (ns.length : Nat) = V.int P by rw [q])] at e
      cases e
    have hP : (ns.length : Int) = P := by
      rw [len_ivs] at e
      by_cases q : V.int (ns.length : Nat) = V.int P
      · exact V.int.inj q
      · rw [decide_eq_false q] at e
        exact absurd rfl e
    -- for depth in thing
    refine ⟨.ref b, rfl, b, rfl, ⟨_, SqT.of hB⟩, for_tup (K := K) (a := b) (xs := ivs ns) (fun i σ H' => (∃ v : Option V, σ = [some (.ref a), some (.ref b), some (.int P), some (.int D), some (.int B), some (.int S), v, none, none]) ∧ H' = H ∧ ∀ j, j < i → 0 ≤ gd ns j ∧ gd ns j < D)
      ⟨⟨none, rfl⟩, rfl, fun j hj => absurd hj (Nat.not_lt_zero _)⟩ (fun i σ H' _ h => by rw [h.2.1]; exact SqT.of hB) ?_ ?_⟩
    · rintro i y σ H1 hi ⟨⟨v, rfl⟩, rfl, hd⟩
      obtain ⟨hi', rfl⟩ := int_at hi
      refine ⟨_, rfl, gd ns i, rfl, true, rfl, iteF ?_⟩
      refine ⟨_, rfl, 0, gd ns i, rfl, rfl, _, rfl, ite2 (fun e0 => ?_) (fun e0 => ?_)⟩
      · refine ⟨_, rfl, gd ns i, D, rfl, rfl, _, rfl, ?_⟩
        have z0 : 0 ≤ gd ns i := of_decide_eq_true e0
        by_cases z1 : gd ns i < D
        · rw [decide_eq_true z1]
          refine iteF ⟨⟨_, rfl⟩, rfl, fun j hj => ?_⟩
          by_cases q : j = i
          · subst q; exact ⟨z0, z1⟩
          · exact hd j (by omega)
        · rw [decide_eq_false z1]
          exact iteT (k false H1 (Same.refl H1) ⟨fun z => (by cases z), fun z => absurd (z.2.dep i hi').2 z1⟩)
      · have z0 : ¬ 0 ≤ gd ns i := fun q => e0 (decide_eq_true q)
        exact ⟨false, rfl, iteT (k false H1 (Same.refl H1) ⟨fun z => (by cases z), fun z => absurd (z.2.dep i hi').1 z0⟩)⟩
    · rintro σ H1 ⟨⟨v, rfl⟩, rfl, hd⟩
      rw [len_ivs] at hd
      -- zip(thing, thing[1:])
      refine ⟨.ref b, rfl, .ref b, rfl, 1, rfl, b, ivs ns, rfl, SqT.of hB, ?_, fun c hc => ?_⟩
      · rw [len_ivs, show HT.sIx ns.length 0 (some 1) = min 1 ns.length from HT.sIx_nat ns.length 0 1]
        omega
      have s1 : Same H1 (upd H1 c (.tup (cutV (ivs ns) (some 1) none))) := same_upd hc
      refine ⟨b, c, ivs ns, cutV (ivs ns) (some 1) none, rfl, .inr ⟨SqT.of (s1 _ _ hB), SqT.of upd_same, for_zip2 (K := K) (a := b) (b := c) (xs := ivs ns) (ys := cutV (ivs ns) (some 1) none) (n := ns.length - 1) ?_
        (fun i σ H' => (∃ v v7 v8 : Option V, σ = [some (.ref a), some (.ref b), some (.int P), some (.int D), some (.int B), some (.int S), v, v7, v8]) ∧ Same (upd H1 c (.tup (cutV (ivs ns) (some 1) none))) H' ∧ ∀ j, j < i → gd ns j - gd ns (j + 1) ≤ S ∧ gd ns (j + 1) - gd ns j ≤ S)
        ⟨⟨v, none, none, rfl⟩, Same.refl _, fun j hj => absurd hj (Nat.not_lt_zero _)⟩ (fun i σ H' h => ⟨SqT.of (h.2.1 _ _ (s1 _ _ hB)), SqT.of (h.2.1 _ _ upd_same)⟩) ?_ ?_⟩⟩
      · rw [cut1, List.length_drop, len_ivs]
        omega
      · rintro i x y TT σ H2 hi hx hy ⟨⟨v, v7, v8, rfl⟩, s2, hn⟩ hT
        obtain ⟨_, rfl⟩ := int_at hx
        obtain ⟨_, rfl⟩ := drop_at hy
        refine ⟨TT, _, rfl, SqT.of upd_same, rfl, _, _, rfl, _, _, rfl, rfl, ?_⟩
        refine ⟨_, rfl, _, rfl, gd ns i, gd ns (i + 1), rfl, rfl, _, rfl, _, rfl, _, S, rfl, rfl, _, rfl, ?_⟩
        have s3 : Same (upd H1 c (.tup (cutV (ivs ns) (some 1) none))) (upd H2 TT (.tup [.int (gd ns i), .int (gd ns (i + 1))])) := s2.trans (same_upd hT)
        by_cases z : S < (if gd ns i - gd ns (i + 1) < 0 then -(gd ns i - gd ns (i + 1)) else gd ns i - gd ns (i + 1))
        · rw [decide_eq_true z]
          refine iteT (k false _ (s1.trans s3) ⟨fun q => (by cases q), fun q => ?_⟩)
          have nr := q.2.near i (by omega)
          split at z <;> omega
        · rw [decide_eq_false z]
          refine iteF ⟨⟨_, _, _, rfl⟩, s3, fun j hj => ?_⟩
          by_cases q : j = i
          · subst q
            split at z <;> omega
          · exact hn j (by omega)
      · rintro σ H2 ⟨⟨v, v7, v8, rfl⟩, s2, hn⟩
        exact k true H2 (s1.trans s2) ⟨fun _ => ⟨hP, ⟨hd, fun i hi => hn i (by omega)⟩⟩, fun _ => rfl⟩
end
end Ws

/-! read_cuts, shown_cuts, first_cuts, filled_up -/
namespace Ws
open L2 PySem PySem.Spec PyProof.Rows
/-- what the top has written of NoCuts, at C -/
structure ExcT (K : PySem.W.Frag) (mg : Str → Option Value) (C : Addr) : Prop where
  g : mg "NoCuts" = some (.ref C)
  x : PySem.W.excIn K C [.type "ValueError", .type "Exception", .type "BaseException", .type "object"] "ValueError.__new__" = true
  k : PySem.W.keepIn K (.ref C) = true
  b : PySem.W.subIn K (.ref C) (.type "BaseException") = some true
  t : PySem.W.typeIn K (.ref C) = some (.type "type")
  e : PySem.W.exmOne K (.ref C) (.ref C) = some true
/-- what «except NoCuts» names -/
theorem exm_same {K : PySem.W.Frag} {C : Addr} (b : PySem.W.subIn K (.ref C) (.type "BaseException") = some true) (i : PySem.W.isClsIn K C = true) (t : PySem.W.typeIn K (.ref C) = some (.type "type")) (s : PySem.W.subIn K (.ref C) (.ref C) = some true) :
    PySem.W.exmOne K (.ref C) (.ref C) = some true := by
  have i' : (PySem.W.clsIn K C).isSome = true := i
  unfold PySem.W.exmOne PySem.W.kitCls
  simp [b, i', t, s]
section
variable {K : PySem.W.Frag} {mg : Str → Option Value} {P : Program} {w : World} {base : Heap}
/-! read_cuts -/
theorem scRead : FnScope ["rules", "text", "one"] ["rules", "text"] (defScope sRead) := ⟨rfl, rfl, rfl, by decide +kernel, rfl, by decide +kernel, by decide +kernel⟩
def spRead (C : Addr) : Sp := fun vs H Q E => ∃ (a : Addr) (P D B S : Int) (ns : List Int), vs = [.ref a, .str (joined ns)] ∧ H a = some (rulO P D B S) ∧ Small ns ∧ 1 ≤ ns.length ∧ ns.length ≤ 24 ∧
  (OkL P D S ns → ∀ H' p, Same H H' → H' p = some (tupI ns) → Q (.ref p) H') ∧ (¬ OkL P D S ns → ∀ H', Same H H' → E (.ref C) none H')
theorem ok_read {f C fS fI fW fN : Addr} {fd fdS fdI fdW fdN : FuncData} (F : Fun K "read_cuts" "read_cuts" sRead f fd) (T : Bl mg) (X : ExcT K mg C) (FS : Fun K "numbers_in" "numbers_in" sNums fS fdS) (bS : Binds K fdS ["text", "mark"] []) (gS : mg "numbers_in" = some (.ref fS))
    (FN : Fun K "is_number" "is_number" sNum fN fdN) (bN : Binds K fdN ["word"] []) (gN : mg "is_number" = some (.ref fN))
    (FI : Fun K "is_cuts" "is_cuts" sIs fI fdI) (bI : Binds K fdI ["rules", "thing"] []) (gI : mg "is_cuts" = some (.ref fI)) (FW : Fun K "is_whole" "is_whole" sWhole fW fdW) (bW : Binds K fdW ["thing"] []) (gW : mg "is_whole" = some (.ref fW)) :
    FnOk P w K mg base (L2.CX P w) 3 f fd ["rules", "text"] (spRead C) := by
  have GS : FnOk P w K mg base CX0 2 fS fdS ["text", "mark"] spNums := ok_nums FS T FN bN gN
  have GI : FnOk P w K mg base CX0 2 fI fdI ["rules", "thing"] spIs := ok_is FI T FW bW gW
  refine F.okX scRead (fun vs H Q E h => ?_) (fun cdv A outer s H vs Q E hr h => ?_)
  · obtain ⟨a, P, D, B, S, ns, rfl, _⟩ := h
    rfl
  · obtain ⟨a, P, D, B, S, ns, rfl, hA, hs, h1, h24, kY, kN⟩ := h
    refine ⟨_, pss_cons (ps_if (pt_not (pt_val (pe_callB call_isi (by rfl) T.isi b_isi (pa_cons (pv 1) (pa_cons (pe_bltn (v := .ty "str") (by rfl) T.str b_str rfl) pa_nil))))) (pss_one ps_never) pss_nil)
      (pss_cons (ps_set (i := 2) scRead.nd rfl (.inl rfl) (pe_call GS hr rfl gS FS.kp bS .nil pass0 (pa_cons (pv 1) (pa_cons pe_str pa_nil))))
      (pss_cons (ps_if (PW.pt (pw_or (pt_cmpR op_isN (pv 2) pe_non (nomark _)) (pw_or1 (pt_not (pt_val (pe_call GI hr rfl gI FI.kp bI .nil pass0 (pa_cons (pv 0) (pa_cons (pv 2) pa_nil))))))))
        (pss_one (ps_raise (W := fun cls d _ H => E cls d H) rfl (takes_of rfl rfl rfl rfl) (pmk_own PySem.F.excBase_ValueError X.x X.g X.k (raises_own X.b X.t) (by exact rfl)))) pss_nil)
      (pss_one (ps_ret (pv 2))))), ?_⟩
    refine ⟨_, rfl, .str (joined ns), .ty "str", .type "str", .type "str", true, rfl, .ty "str", .base (.str _), kit_ty (by decide +kernel), true, rfl, iteF ?_⟩
    -- one = numbers_in(text, '-')
    refine ⟨_, rfl, ns, rfl, hs, h1, h24, fun H1 p s1 hp => ?_⟩
    -- one is None or not is_cuts(rules, one)
    refine ⟨.ref p, rfl, rfl, false, rfl, iteF ?_⟩
    refine ⟨.ref a, rfl, .ref p, rfl, a, p, P, D, B, S, ns, rfl, s1 _ _ hA, hp, h1, by omega, fun b H2 s2 hb => ⟨b, rfl, ?_⟩⟩
    cases b with
    | true => exact iteF ⟨.ref p, rfl, kY (hb.mp rfl) H2 p (s1.trans s2) (s2 _ _ hp)⟩
    | false => exact iteT (kN (fun z => by have := hb.mpr z; cases this) H2 (s1.trans s2))
/-! shown_cuts -/
theorem scShown : FnScope ["one", "depth"] ["one"] (defScope sShown) := ⟨rfl, rfl, rfl, by decide +kernel, rfl, by decide +kernel, by decide +kernel⟩
def spShown : Sp := fun vs H Q _ => ∃ (a : Addr) (ns : List Int), vs = [.ref a] ∧ H a = some (tupI ns) ∧ Small ns ∧ ns.length ≤ 24 ∧ ∀ H', Same H H' → Q (.str (joined ns)) H'
theorem ok_shown {f : Addr} {fd : FuncData} (F : Fun K "shown_cuts" "shown_cuts" sShown f fd) (T : Bl mg) : FnOk P w K mg base CX0 1 f fd ["one"] spShown := by
  refine F.ok scShown (fun vs H Q E h => ?_) (fun cdv A outer s H vs Q E hr h => ?_)
  · obtain ⟨a, ns, rfl, _⟩ := h
    rfl
  · obtain ⟨a, ns, rfl, hA, hs, h24, k⟩ := h
    refine ⟨_, pss_one (ps_ret (pe_join pe_str (pe_lc (own := [("depth", 1)]) (g := gName 1) (tt := tYes) rfl scShown.nd (pi_tup (pv 0))
        (blkOk_by (own := [("depth", 1)]) (N := ["one", "depth"]) (sc := defScope sShown) (by decide +kernel)) (fun _ _ _ _ _ => pg_name (i := 1) scShown.nd rfl (Or.inl rfl)) (fun _ _ _ _ _ => pts_nil)
        (fun _ _ _ _ _ => pe_callTy call_str_int (by rfl) T.str b_str (pa_cons (pv 1) pa_nil))))), ?_⟩
    refine ⟨⟨_, rfl⟩, .ref a, rfl, a, rfl, ⟨_, SqT.of hA⟩, fun D hD => ?_⟩
    refine lc_tup (K := K) (a := a) (xs := ivs ns) (fun i H' => Same H H' ∧ H' D = some (.lst (((ns.take i).map numS).map V.str))) ⟨same_upd hD, upd_same⟩ (fun i H' _ h => SqT.of (h.1 _ _ hA)) ?_ ?_
    · rintro i y H1 hi ⟨s1, eD⟩
      obtain ⟨hi', rfl⟩ := int_at hi
      have hx := hs i hi'
      refine ⟨rfl, ?_⟩
      unfold tYes
      refine iteT ?_
      refine ⟨_, rfl, gd ns i, rfl, ?_, _, eD, ?_, ?_, ?_⟩
      · have h10 : (gd ns i).natAbs < 2 ^ 10 := by
          show (gd ns i).natAbs < 1024
          omega
        by_cases z : (gd ns i).natAbs = 0
        · rw [z]; decide
        · exact Nat.lt_trans ((Nat.log2_lt z).mpr h10) (by decide)
      · rw [List.length_map, List.length_map, List.length_take]
        exact small1000 (by omega)
      · exact same_own s1 hD
      · rw [upd_same, List.take_add_one, gd_some hi']
        show some (HO.lst (((ns.take i).map numS).map V.str ++ [V.str (numS (gd ns i))])) = some (HO.lst (((ns.take i ++ [gd ns i]).map numS).map V.str))
        rw [List.map_append, List.map_append]
        rfl
    · rintro H1 ⟨s1, eD⟩
      rw [len_ivs, List.take_length] at eD
      exact ⟨"-", D, ns.map numS, rfl, rfl, .inl (SqL.of eD), join_size hs h24, k H1 s1⟩
/-! first_cuts -/
theorem scFirst : FnScope ["rules"] ["rules"] (defScope sFirst) := ⟨rfl, rfl, rfl, by decide +kernel, rfl, by decide +kernel, by decide +kernel⟩
def spFirst : Sp := fun vs H Q _ => ∃ (a : Addr) (P D B S : Int), vs = [.ref a] ∧ H a = some (rulO P D B S) ∧ 1 ≤ P ∧ P ≤ 24 ∧ ∀ H' p, Same H H' → H' p = some (tupI (List.replicate P.toNat 0)) → Q (.ref p) H'
theorem rep_one (x : V) : ∀ n : Nat, (List.replicate n [x]).flatten = List.replicate n x
  | 0 => rfl
  | n + 1 => by
    rw [List.replicate_succ, List.flatten_cons, rep_one x n]
    rfl
theorem ok_first {f : Addr} {fd : FuncData} (F : Fun K "first_cuts" "first_cuts" sFirst f fd) (T : Bl mg) : FnOk P w K mg base CX0 1 f fd ["rules"] spFirst := by
  refine F.ok scFirst (fun vs H Q E h => ?_) (fun cdv A outer s H vs Q E hr h => ?_)
  · obtain ⟨a, P, D, B, S, rfl, _⟩ := h
    rfl
  · obtain ⟨a, P, D, B, S, rfl, hA, h1, h24, k⟩ := h
    refine ⟨_, pss_one (ps_ret (pe_callTy call_tuple_of (by rfl) T.tuple b_tuple (pa_cons (pe_op op_rep (pe_lst (pa_cons pe_int pa_nil)) (pe_ix ix_tup (pv 0) pe_int (fun _ _ => rfl))) pa_nil))), ?_⟩
    refine ⟨line100 (by show 1 ≤ 1000; decide), fun l hl => ?_⟩
    have s1 : Same H (upd H l (.lst [.int 0])) := same_upd hl
    refine ⟨.ref a, rfl, a, _, 0, _, rfl, rfl, SqT.of (s1 _ _ hA), atI_nat (j := 0) rfl, l, P, _, rfl, rfl, upd_same, by omega, by omega, line100 (by show 1 * P.toNat ≤ 1000; omega), fun m hm => ?_⟩
    refine ⟨m, _, rfl, .inl ⟨SqL.of upd_same, fun p hp => ?_⟩⟩
    refine k _ p ((s1.trans (same_upd hm)).trans (same_upd hp)) ?_
    rw [upd_same, rep_one]
    show some (HO.tup (List.replicate P.toNat (V.int 0))) = some (HO.tup ((List.replicate P.toNat 0).map V.int))
    rw [List.map_replicate]
/-! filled_up -/
theorem scFill : FnScope ["rules", "begun", "found"] ["rules", "begun"] (defScope sFill) := ⟨rfl, rfl, rfl, by decide +kernel, rfl, by decide +kernel, by decide +kernel⟩
def spFill : Sp := fun vs H Q _ => ∃ (a b : Addr) (P D B S : Int) (ms : List Int), vs = [.ref a, .ref b] ∧ H a = some (rulO P D B S) ∧ H b = some (tupI ms) ∧ 1 ≤ ms.length ∧ (ms.length : Int) ≤ P ∧ P ≤ 24 ∧
  ∀ (ns : List Int) H' p, Same H H' → H' p = some (tupI ns) → (ns.length : Int) = P → (∀ i, i < ms.length → gd ns i = gd ms i) → (∀ i, ms.length ≤ i + 1 → i + 1 < ns.length → gd ns (i + 1) = max 0 (gd ns i - S)) → Q (.ref p) H'
theorem max_is (x : Int) : (if x > 0 then x else 0) = max 0 x := by
  by_cases h : x > 0
  · rw [if_pos h]; omega
  · rw [if_neg h]; omega
theorem atI_lastI {ns : List Int} (h : 1 ≤ ns.length) : atI (ivs ns) (-1) = some (V.int (gd ns (ns.length - 1))) := by
  have e : ivs ns = ivs ns.dropLast ++ [V.int (gd ns (ns.length - 1))] := by
    have hn : ns ≠ [] := fun z => by rw [z] at h; exact absurd h (by decide)
    have g : gd ns (ns.length - 1) = ns.getLast hn := gd_of (by rw [List.getLast_eq_getElem]; exact List.getElem?_eq_getElem (by omega))
    rw [g]
    show ns.map V.int = ns.dropLast.map V.int ++ [ns.getLast hn].map V.int
    rw [← List.map_append, List.dropLast_concat_getLast]
  rw [e]
  exact atI_last _ _
theorem ok_fill {f : Addr} {fd : FuncData} (F : Fun K "filled_up" "filled_up" sFill f fd) (T : Bl mg) : FnOk P w K mg base CX0 1 f fd ["rules", "begun"] spFill := by
  refine F.ok scFill (fun vs H Q E h => ?_) (fun cdv A outer s H vs Q E hr h => ?_)
  · obtain ⟨a, b, P, D, B, S, ms, rfl, _⟩ := h
    rfl
  · obtain ⟨a, b, P, D, B, S, ms, rfl, hA, hB, h1, hP, h24, k⟩ := h
    refine ⟨_, pss_cons (ps_set (i := 2) scFill.nd rfl (.inl rfl) (pe_callTy call_list_of (by rfl) T.list b_list (pa_cons (pv 1) pa_nil)))
      (pss_cons (ps_while PassesOwn.never (pt_cmpR op_lt (pe_callB call_len_seq (by rfl) T.len b_len (pa_cons (pv 2) pa_nil)) (pe_ix ix_tup (pv 0) pe_int (fun _ _ => rfl)) (nomark _))
        (pss_one (ps_expr (pe_bm PySem.F.plainAttrs_list PySem.F.slot_list_append PySem.F.type_list_append mt_append (pv 2)
          (pa_cons (pe_callB (call_max2 rfl) (by rfl) T.max b_max (pa_cons pe_int (pa_cons (pe_op op_sub (pe_ix ix_list (pv 2) (pe_un un_neg pe_int) (fun _ _ => rfl)) (pe_ix ix_tup (pv 0) pe_int (fun _ _ => rfl))) pa_nil))) pa_nil)))))
      (pss_one (ps_ret (pe_callTy call_tuple_of (by rfl) T.tuple b_tuple (pa_cons (pv 2) pa_nil))))), ?_⟩
    -- found = list(begun)
    refine ⟨.ref b, rfl, b, ivs ms, rfl, .inr (SqT.of hB), fun l hl => ?_⟩
    have nl : ∀ c o, H c = some o → c ≠ l := fun c o e => ne_of_none e hl
    refine while_by (fun σ H' => ∃ ns : List Int, σ = [some (.ref a), some (.ref b), some (.ref l)] ∧ Same H H' ∧ H' l = some (.lst (ivs ns)) ∧ ms.length ≤ ns.length ∧ (ns.length : Int) ≤ P ∧
        (∀ i, i < ms.length → gd ns i = gd ms i) ∧ (∀ i, ms.length ≤ i + 1 → i + 1 < ns.length → gd ns (i + 1) = max 0 (gd ns i - S)))
      (fun σ H' => match H' l with | some (.lst xs) => P.toNat - xs.length | _ => 0) ⟨ms, rfl, same_upd hl, upd_same, Nat.le_refl _, hP, fun _ _ => rfl, fun i h2 h3 => absurd h3 (by omega)⟩ ?_ ?_
    · rintro σ H1 ⟨ns, rfl, s1, eL, hm, hle, hlo, hup⟩
      refine ⟨.ref l, rfl, l, ivs ns, rfl, .inl (SqL.of eL), .ref a, rfl, a, _, 0, _, rfl, rfl, SqT.of (s1 _ _ hA), atI_nat (j := 0) rfl, _, P, rfl, rfl, _, rfl, ite2 (fun e => ?_) (fun e => ?_)⟩
      · have hlt : (ns.length : Int) < P := by
          have := of_decide_eq_true e
          rw [len_ivs] at this
          exact this
        refine ⟨.ref l, rfl, .inl ⟨rfl, _, SqL.of eL⟩, .ref l, rfl, 1, rfl, l, _, -1, _, rfl, rfl, SqL.of eL, atI_lastI (by omega), .ref a, rfl, a, _, 3, _, rfl, rfl, SqT.of (s1 _ _ hA), atI_nat (j := 3) rfl, _, _, rfl, rfl, 0, _, rfl,
          l, _, _, rfl, rfl, eL, ?_, ?_⟩
        · rw [len_ivs]
          exact small1000 (by omega)
        · rw [max_is]
          refine ⟨⟨ns ++ [max 0 (gd ns (ns.length - 1) - S)], rfl, same_own s1 hl, ?_, ?_, ?_, ?_, ?_⟩, ?_⟩
          · rw [upd_same]
            show some (HO.lst (ns.map V.int ++ [V.int _])) = some (HO.lst ((ns ++ [_]).map V.int))
            rw [List.map_append]
            rfl
          · rw [List.length_append]
            omega
          · rw [List.length_append]
            show ((ns.length + 1 : Nat) : Int) ≤ P
            omega
          · intro i hi
            rw [gd_app_lt (by omega)]
            exact hlo i hi
          · intro i h2 h3
            rw [List.length_append] at h3
            have h3' : i + 1 < ns.length + 1 := h3
            rw [gd_app_lt (show i < ns.length by omega)]
            by_cases q : i + 1 < ns.length
            · rw [gd_app_lt q]
              exact hup i h2 q
            · have e2 : i + 1 = ns.length := by omega
              rw [e2, gd_app_at, show ns.length - 1 = i by omega]
          · show (match (upd H1 l (HO.lst (ivs ns ++ [V.int (max 0 (gd ns (ns.length - 1) - S))]))) l with | some (.lst xs) => P.toNat - xs.length | _ => 0) < (match H1 l with | some (.lst xs) => P.toNat - xs.length | _ => 0)
            rw [upd_same, eL]
            show P.toNat - (ivs ns ++ [V.int _]).length < P.toNat - (ivs ns).length
            rw [List.length_append, len_ivs]
            show P.toNat - (ns.length + 1) < P.toNat - ns.length
            omega
      · have hge : ¬ (ns.length : Int) < P := fun q => e (decide_eq_true (by rw [len_ivs]; exact q))
        refine ⟨.ref l, rfl, l, _, rfl, .inl ⟨SqL.of eL, fun p hp => ?_⟩⟩
        exact k ns _ p (s1.trans (same_upd hp)) upd_same (by omega) hlo hup
    · rintro σ H1 Q1 Q2 hq ⟨v, e1, p, ys, e2, e3, v2, e4, q0, xs, i0, v0, e5, e6, e7, e8, i1, j1, e9, e10, k1, e11, q1⟩
      exact ⟨v, e1, p, ys, e2, e3, v2, e4, q0, xs, i0, v0, e5, e6, e7, e8, i1, j1, e9, e10, k1, e11, hq _ _ q1⟩
end
end Ws

/-! next_cuts, can_file -/
namespace Ws
open L2 PySem PySem.Spec PyProof.Rows
theorem cut_to {ns : List Int} {t : Nat} (h : t < ns.length) : cutV (ivs ns) none (some (t : Int)) = ivs (ns.take t) := by
  unfold cutV
  rw [HT.sIx_none, HT.sIx_nat, len_ivs, Nat.min_eq_left (Nat.le_of_lt h), List.drop_zero, Nat.sub_zero]
  exact (List.map_take).symm
section
variable {K : PySem.W.Frag} {mg : Str → Option Value} {P : Program} {w : World} {base : Heap}
theorem scNext : FnScope ["rules", "one", "at", "deeper"] ["rules", "one"] (defScope sNext) := ⟨rfl, rfl, rfl, by decide +kernel, rfl, by decide +kernel, by decide +kernel⟩
def spNext : Sp := fun vs H Q _ => ∃ (a b : Addr) (P D B S : Int) (ns : List Int), vs = [.ref a, .ref b] ∧ H a = some (rulO P D B S) ∧ H b = some (tupI ns) ∧ 1 ≤ P ∧ P ≤ 24 ∧ (ns.length : Int) = P ∧
  (∀ H', Same H H' → (∀ j, j < ns.length → ¬ CanF D S (gd ns) j) → Q .non H') ∧
  (∀ (ms : List Int) (t : Nat) H' p, Same H H' → H' p = some (tupI ms) → ms.length = ns.length → NextF ns.length D S (gd ns) (gd ms) t → Q (.ref p) H')
theorem ok_next {f fF : Addr} {fd fdF : FuncData} (F : Fun K "next_cuts" "next_cuts" sNext f fd) (T : Bl mg) (FF : Fun K "filled_up" "filled_up" sFill fF fdF) (bF : Binds K fdF ["rules", "begun"] []) (gF : mg "filled_up" = some (.ref fF)) :
    FnOk P w K mg base CX0 2 f fd ["rules", "one"] spNext := by
  have GF : FnOk P w K mg base CX0 1 fF fdF ["rules", "begun"] spFill := ok_fill FF T
  refine F.ok scNext (fun vs H Q E h => ?_) (fun cdv A outer s H vs Q E hr h => ?_)
  · obtain ⟨a, b, P, D, B, S, ns, rfl, _⟩ := h
    rfl
  · obtain ⟨a, b, P, D, B, S, ns, rfl, hA, hB, h1, h24, hP, kN, kS⟩ := h
    refine ⟨_, pss_cons (ps_for PassesOwn.never rfl (pi_revR (by rfl) T.reversed (prg_1 (by rfl) T.range (pe_ix ix_tup (pv 0) pe_int (fun _ _ => rfl)))) (pg_name (i := 2) scNext.nd rfl (.inl rfl))
        (pss_cons (ps_set (i := 3) scNext.nd rfl (.inl rfl) (pe_op op_add (pe_ix ix_tup (pv 1) (pv 2) (fun _ _ => rfl)) pe_int))
        (pss_one (ps_if (PW.pt (pw_and (pt_cmpR op_lt (pv 3) (pe_ix ix_tup (pv 0) pe_int (fun _ _ => rfl)) (nomark _)) (pw_and1 (PW.pt (pw_or (pt_cmpR op_eq (pv 2) pe_int (nomark _))
            (pw_or1 (pt_cmpR op_le (pe_op op_sub (pv 3) (pe_ix ix_tup (pv 1) (pe_op op_sub (pv 2) pe_int) (fun _ _ => rfl))) (pe_ix ix_tup (pv 0) pe_int (fun _ _ => rfl)) (nomark _))))))))
          (pss_one (ps_ret (pe_call GF hr rfl gF FF.kp bF .nil pass0 (pa_cons (pv 0) (pa_cons (pe_op op_catA (pe_slice sl_tupA (pv 1) po_none (po_some (pv 2))) (pe_tup (pa_cons (pv 3) pa_nil))) pa_nil))))) pss_nil))))
      (pss_one (ps_ret pe_non)), ?_⟩
    -- for at in reversed(range(rules[0]))
    refine ⟨.ref a, rfl, a, _, 0, _, rfl, rfl, SqT.of hA, atI_nat (j := 0) rfl, P, rfl, by decide, by decide, by omega, by omega, for_any (J := Itc (0 + (((P - 0).toNat : Nat) : Int) - 1) (-1) (P - 0).toNat) (n := (P - 0).toNat)
      (fun i σ H' => (∃ v2 v3 : Option V, σ = [some (.ref a), some (.ref b), v2, v3]) ∧ H' = H ∧ ∀ j, ns.length - i ≤ j → j < ns.length → ¬ CanF D S (gd ns) j)
      ⟨⟨none, none, rfl⟩, rfl, fun j h2 h3 => absurd h3 (by omega)⟩ (fun i σ H' hi _ => hi) (fun σ H' _ => Nat.le_refl _) ?_ ?_⟩
    · rintro i v σ H1 H2 hi ⟨⟨v2, v3, rfl⟩, rfl, hno⟩ ⟨rfl, hv⟩
      have hn : (P - 0).toNat = ns.length := by omega
      rw [hn] at hi hv
      obtain ⟨t, et⟩ : ∃ t : Nat, t = ns.length - 1 - i := ⟨_, rfl⟩
      have ht : t < ns.length := by omega
      have eat : (0 : Int) + ((ns.length : Nat) : Int) - 1 + (i : Nat) * (-1) = (t : Int) := by omega
      rw [eat] at hv
      subst hv
      have fin : ∀ (H3 : Hp) (m : Addr), CanF D S (gd ns) t → Same H2 H3 → H3 m = some (tupI (ns.take t ++ [gd ns t + 1])) → spFill [.ref a, .ref m] H3 Q E0 := by
        intro H3 m hc s3 hm
        have hlm : (ns.take t ++ [gd ns t + 1]).length = t + 1 := by
          rw [List.length_append, List.length_take, Nat.min_eq_left (Nat.le_of_lt ht)]
          rfl
        refine ⟨a, m, P, D, B, S, _, rfl, s3 _ _ hA, hm, by omega, by omega, h24, fun ms H4 p s4 hp hl hlo hup => ?_⟩
        refine kS ms t H4 p (s3.trans s4) hp (by omega) ⟨ht, hc, fun j h2 h3 => hno j (by omega) h3, fun j hj => ?_, ?_, fun j hj hj2 => hup j (by omega) (by omega)⟩
        · rw [hlo j (by omega), gd_app_lt (by rw [List.length_take]; omega), gd_take hj]
        · have e := hlo t (by omega)
          have e2 : gd (ns.take t ++ [gd ns t + 1]) t = gd ns t + 1 := by
            have q := gd_app_at (ns := ns.take t) (x := gd ns t + 1)
            rw [List.length_take, Nat.min_eq_left (Nat.le_of_lt ht)] at q
            exact q
          rw [e, e2]
      have go : ∀ j, ns.length - (i + 1) ≤ j → j < ns.length → ¬ CanF D S (gd ns) t → ¬ CanF D S (gd ns) j := by
        intro j h2 h3 hc
        by_cases q : j = t
        · subst q; exact hc
        · exact hno j (by omega) h3
      -- deeper = one[at] + 1
      refine ⟨.ref b, rfl, .int t, rfl, b, ivs ns, t, _, rfl, rfl, SqT.of hB, atI_nat (at_int ht), _, 1, rfl, rfl, ?_⟩
      -- deeper < rules[1]
      refine ⟨_, rfl, .ref a, rfl, a, _, 1, _, rfl, rfl, SqT.of hA, atI_nat (j := 1) rfl, _, D, rfl, rfl, _, rfl, ite2 (fun e1 => ?_) (fun e1 => ?_)⟩
      · have c1 : gd ns t + 1 < D := of_decide_eq_true e1
        -- at == 0
        refine ⟨.int t, rfl, rfl, _, rfl, ite2 (fun e2 => ?_) (fun e2 => ?_)⟩
        · have c2 : t = 0 := by
            have := V.int.inj (of_decide_eq_true e2)
            omega
          refine iteT ?_
          refine ⟨.ref a, rfl, .ref b, rfl, .int t, rfl, t, rfl, b, ivs ns, rfl, SqT.of hB, fun hw => ?_, fun _ p hp => ?_⟩
          · have q := hw.2
            rw [len_ivs, HT.sIx_nat] at q
            omega
          · rw [cut_to ht]
            refine ⟨_, rfl, line100 (by show 1 ≤ 1000; decide), fun q hq => ?_⟩
            have s1 : Same H2 (upd H2 p (.tup (ivs (ns.take t)))) := same_upd hp
            have s2 : Same (upd H2 p (.tup (ivs (ns.take t)))) (upd (upd H2 p (.tup (ivs (ns.take t)))) q (.tup [.int (gd ns t + 1)])) := same_upd hq
            refine ⟨p, q, _, _, rfl, rfl, SqT.of (s2 _ _ upd_same), SqT.of upd_same, ?_, fun e0 => ?_, fun _ h => ?_, fun _ _ r hr2 => ?_⟩
            · rw [len_ivs, List.length_take]
              exact line100 (by show min t ns.length + 1 ≤ 1000; omega)
            · refine fin _ q ⟨c1, .inl c2⟩ (s1.trans s2) ?_
              rw [upd_same, c2]
              rfl
            · cases h
            · refine fin _ r ⟨c1, .inl c2⟩ ((s1.trans s2).trans (same_upd hr2)) ?_
              rw [upd_same]
              show some (HO.tup ((ns.take t).map V.int ++ [V.int (gd ns t + 1)])) = some (HO.tup ((ns.take t ++ [gd ns t + 1]).map V.int))
              rw [List.map_append]
              rfl
        · have c2 : t ≠ 0 := fun q => e2 (decide_eq_true (by rw [q]; rfl))
          -- deeper - one[at - 1] <= rules[3]
          have eq1 : ((t : Int) - 1) = ((t - 1 : Nat) : Int) := by omega
          refine ⟨_, rfl, .ref b, rfl, .int t, rfl, t, 1, rfl, rfl, b, ivs ns, (t : Int) - 1, .int (gd ns (t - 1)), rfl, rfl, SqT.of hB, ?_, _, _, rfl, rfl, .ref a, rfl, a, _, 3, _, rfl, rfl, SqT.of hA, atI_nat (j := 3) rfl, _, S, rfl, rfl, _, rfl, ite2 (fun e3 => ?_) (fun e3 => ?_)⟩
          · rw [eq1]
            exact atI_nat (at_int (by omega))
          · have c3 : gd ns t + 1 - gd ns (t - 1) ≤ S := of_decide_eq_true e3
            refine ⟨.ref a, rfl, .ref b, rfl, .int t, rfl, t, rfl, b, ivs ns, rfl, SqT.of hB, fun hw => ?_, fun _ p hp => ?_⟩
            · have q := hw.2
              rw [len_ivs, HT.sIx_nat] at q
              omega
            · rw [cut_to ht]
              refine ⟨_, rfl, line100 (by show 1 ≤ 1000; decide), fun q hq => ?_⟩
              have s1 : Same H2 (upd H2 p (.tup (ivs (ns.take t)))) := same_upd hp
              have s2 : Same (upd H2 p (.tup (ivs (ns.take t)))) (upd (upd H2 p (.tup (ivs (ns.take t)))) q (.tup [.int (gd ns t + 1)])) := same_upd hq
              refine ⟨p, q, _, _, rfl, rfl, SqT.of (s2 _ _ upd_same), SqT.of upd_same, ?_, fun e0 => ?_, fun _ h => ?_, fun _ _ r hr2 => ?_⟩
              · rw [len_ivs, List.length_take]
                exact line100 (by show min t ns.length + 1 ≤ 1000; omega)
              · have e00 := congrArg List.length e0
                rw [len_ivs, List.length_take] at e00
                have e01 : min t ns.length = 0 := e00
                omega
              · cases h
              · refine fin _ r ⟨c1, .inr c3⟩ ((s1.trans s2).trans (same_upd hr2)) ?_
                rw [upd_same]
                show some (HO.tup ((ns.take t).map V.int ++ [V.int (gd ns t + 1)])) = some (HO.tup ((ns.take t ++ [gd ns t + 1]).map V.int))
                rw [List.map_append]
                rfl
          · have c3 : ¬ gd ns t + 1 - gd ns (t - 1) ≤ S := fun q => e3 (decide_eq_true q)
            refine ⟨⟨_, _, rfl⟩, rfl, fun j h2 h3 => go j h2 h3 fun hc => ?_⟩
            rcases hc.2 with z | z
            · exact c2 z
            · exact c3 z
      · have c1 : ¬ gd ns t + 1 < D := fun q => e1 (decide_eq_true q)
        refine iteF ⟨⟨_, _, rfl⟩, rfl, fun j h2 h3 => go j h2 h3 fun hc => c1 hc.1⟩
    · rintro σ H1 ⟨⟨v2, v3, rfl⟩, rfl, hno⟩
      exact kN H1 (Same.refl _) fun j hj => hno j (by omega) hj
/-! can_file -/
theorem scFile : FnScope ["one", "other", "here", "there"] ["one", "other"] (defScope sFile) := ⟨rfl, rfl, rfl, by decide +kernel, rfl, by decide +kernel, by decide +kernel⟩
def spFile : Sp := fun vs H Q _ => ∃ (a b : Addr) (xs ys : List Int), vs = [.ref a, .ref b] ∧ H a = some (tupI xs) ∧ H b = some (tupI ys) ∧ xs.length = ys.length ∧
  ∀ (k : Bool) H', Same H H' → (k = true ↔ ∀ i, i < xs.length → gd xs i ≤ gd ys i) → Q (.bl k) H'
theorem ok_file {f : Addr} {fd : FuncData} (F : Fun K "can_file" "can_file" sFile f fd) (T : Bl mg) : FnOk P w K mg base CX0 1 f fd ["one", "other"] spFile := by
  refine F.ok scFile (fun vs H Q E h => ?_) (fun cdv A outer s H vs Q E hr h => ?_)
  · obtain ⟨a, b, xs, ys, rfl, _⟩ := h
    rfl
  · obtain ⟨a, b, xs, ys, rfl, hA, hB, hl, k⟩ := h
    refine ⟨_, pss_cons (ps_for PassesOwn.never rfl (RZ.pi_zipA (by rfl) T.zip (pa_cons (pv 0) (pa_cons (pv 1) pa_nil)))
        (pg_tup rfl (pgs_cons (pg_name (i := 2) scFile.nd rfl (.inl rfl)) (pgs_cons (pg_name (i := 3) scFile.nd rfl (.inl rfl)) pgs_nil)))
        (pss_one (ps_if (pt_cmpR op_lt (pv 3) (pv 2) (nomark _)) (pss_one (ps_ret pe_bl)) pss_nil)))
      (pss_one (ps_ret pe_bl)), ?_⟩
    refine ⟨.ref a, rfl, .ref b, rfl, a, b, ivs xs, ivs ys, rfl, .inr ⟨SqT.of hA, SqT.of hB, for_zip2 (K := K) (a := a) (b := b) (xs := ivs xs) (ys := ivs ys) (n := xs.length) ?_
      (fun i σ H' => (∃ v2 v3 : Option V, σ = [some (.ref a), some (.ref b), v2, v3]) ∧ Same H H' ∧ ∀ j, j < i → gd xs j ≤ gd ys j)
      ⟨⟨none, none, rfl⟩, Same.refl _, fun j hj => absurd hj (Nat.not_lt_zero _)⟩ (fun i σ H' h => ⟨SqT.of (h.2.1 _ _ hA), SqT.of (h.2.1 _ _ hB)⟩) ?_ ?_⟩⟩
    · rw [len_ivs, len_ivs]
      omega
    · rintro i x y TT σ H2 hi hx hy ⟨⟨v2, v3, rfl⟩, s2, hn⟩ hT
      obtain ⟨_, rfl⟩ := int_at hx
      obtain ⟨_, rfl⟩ := int_at hy
      refine ⟨TT, _, rfl, SqT.of upd_same, rfl, _, _, rfl, _, _, rfl, rfl, ?_⟩
      refine ⟨_, rfl, _, rfl, gd ys i, gd xs i, rfl, rfl, _, rfl, ite2 (fun e => ?_) (fun e => ?_)⟩
      · have q : gd ys i < gd xs i := of_decide_eq_true e
        exact k false _ (s2.trans (same_upd hT)) ⟨fun z => (by cases z), fun z => absurd (z i hi) (by omega)⟩
      · have q : ¬ gd ys i < gd xs i := fun q => e (decide_eq_true q)
        refine ⟨⟨_, _, rfl⟩, s2.trans (same_upd hT), fun j hj => ?_⟩
        by_cases z : j = i
        · subst z; omega
        · exact hn j (by omega)
    · rintro σ H2 ⟨⟨v2, v3, rfl⟩, s2, hn⟩
      exact k true H2 s2 ⟨fun _ => hn, fun _ => rfl⟩
end
end Ws

/-! _law_mixed, _law_rules, _law_cuts -/
namespace Ws
open L2 PySem PySem.Spec PyProof.Rows
theorem sh_list (ns : List Int) : SeqAt.shaped (.list (ns.map PyData.int)) = true := PySem.W.ke_shaped_ints ns
theorem sh_tup (ns : List Int) : SeqAt.shaped (.tuple (ns.map PyData.int)) = true := by
  simp [SeqAt.shaped, PyData.canLay0, PyData.depth, PySem.W.ke_canLayAll0, PySem.W.ke_depthAll]
theorem dp_ints {K : PySem.W.Frag} {H : Hp} : ∀ ns : List Int, DpAll K H (ivs ns) (ns.map PyData.int)
  | [] => .nil
  | x :: r => .cons (.int x) (dp_ints r)
theorem eqv_ints (ns : List Int) : ∀ ms : List Int, PyData.eqvAll (ns.map PyData.int) (ms.map PyData.int) = decide (ns = ms) := by
  induction ns with
  | nil => intro ms; cases ms <;> simp [PyData.eqvAll]
  | cons a r ih =>
    intro ms
    cases ms with
    | nil => simp [PyData.eqvAll]
    | cons b t =>
      rw [List.map_cons, List.map_cons, PyData.eqvAll, PyData.eqv, ih t]
      by_cases q : a = b
      · subst q
        by_cases z : r = t <;> simp [z]
      · simp [q]
theorem eqv_list (ns ms : List Int) : PyData.eqv (.list (ns.map PyData.int)) (.list (ms.map PyData.int)) = decide (ns = ms) := by
  simp only [PyData.eqv]
  exact eqv_ints ns ms
theorem eqv_tup (ns ms : List Int) : PyData.eqv (.tuple (ns.map PyData.int)) (.tuple (ms.map PyData.int)) = decide (ns = ms) := by
  simp only [PyData.eqv]
  exact eqv_ints ns ms
theorem okF_app {ns : List Int} {D S x : Int} (o : OkF ns.length D S (gd ns)) (hx : 0 ≤ x ∧ x < D) (hn : 1 ≤ ns.length → gd ns (ns.length - 1) - x ≤ S ∧ x - gd ns (ns.length - 1) ≤ S) : OkF (ns.length + 1) D S (gd (ns ++ [x])) := by
  refine ⟨fun i hi => ?_, fun i hi => ?_⟩
  · by_cases q : i < ns.length
    · rw [gd_app_lt q]; exact o.dep i q
    · have e : i = ns.length := by omega
      rw [e, gd_app_at]
      exact hx
  · rw [gd_app_lt (show i < ns.length by omega)]
    by_cases q : i + 1 < ns.length
    · rw [gd_app_lt q]; exact o.near i q
    · have e : i + 1 = ns.length := by omega
      have z := hn (by omega)
      rw [e, gd_app_at]
      rw [show ns.length - 1 = i by omega] at z
      exact z
section
variable {K : PySem.W.Frag} {mg : Str → Option Value} {P : Program} {w : World} {base : Heap}
/-! _law_mixed -/
theorem scMixed : FnScope ["_law_script", "_law_k"] ["_law_script", "_law_k"] (defScope sMixed) := ⟨rfl, rfl, rfl, by decide +kernel, rfl, by decide +kernel, by decide +kernel⟩
def spMixed (K : PySem.W.Frag) : Sp := fun vs H Q _ => ∃ (a : Addr) (sc : List Int) (k : Int), vs = [.ref a, .int k] ∧ SqL K H a (ivs sc) ∧ 0 ≤ k ∧ k ≤ 1000 ∧ ∀ (z : Int) H', Same H H' → Q (.int z) H'
theorem ok_mixed {f : Addr} {fd : FuncData} (F : Fun K "_law_mixed" "_law_mixed" sMixed f fd) (T : Bl mg) : FnOk P w K mg base CX0 1 f fd ["_law_script", "_law_k"] (spMixed K) := by
  refine F.ok scMixed (fun vs H Q E h => ?_) (fun cdv A outer s H vs Q E hr h => ?_)
  · obtain ⟨a, sc, k, rfl, _⟩ := h
    rfl
  · obtain ⟨a, sc, k, rfl, hS, h0, h1, q⟩ := h
    refine ⟨_, pss_cons (ps_if (pt_cmpR (op_eqD hr.units) (pv 0) (pe_lst pa_nil) (nomark _)) (pss_one (ps_ret (pv 1))) pss_nil)
      (pss_one (ps_ret (pe_op op_mod (pe_op op_mul (pe_op op_add (pe_op op_add (pe_ix ix_list (pv 0) (pe_op op_mod (pv 1) (pe_callB call_len_seq (by rfl) T.len b_len (pa_cons (pv 0) pa_nil))) (fun _ _ => rfl)) pe_int) (pv 1))
        (pe_op op_add pe_int (pe_op op_mul pe_int (pv 1)))) pe_int))), ?_⟩
    refine ⟨.ref a, rfl, Nat.zero_le _, fun l hl => ?_⟩
    have s1 : Same H (upd H l (.lst [])) := same_upd hl
    have hS1 := s1.seq hS
    refine ⟨.list (sc.map PyData.int), .list [], .lst hS1 (dp_ints sc), .lst (SqL.of upd_same) .nil, sh_list sc, sh_list [], _, rfl, ite2 (fun e => ?_) (fun e => ?_)⟩
    · exact ⟨.int k, rfl, q k _ s1⟩
    · have hne : sc ≠ [] := fun z => e (by
        have q := eqv_list sc []
        rw [z] at q ⊢
        exact q)
      have hlen : 0 < sc.length := List.length_pos_iff.mpr hne
      obtain ⟨j, ej, hj⟩ : ∃ j : Nat, k % ((ivs sc).length : Int) = (j : Int) ∧ j < sc.length := by
        rw [len_ivs]
        have m0 := Int.emod_nonneg k (show (sc.length : Int) ≠ 0 by omega)
        have m1 := Int.emod_lt_of_pos k (show (0 : Int) < sc.length by omega)
        exact ⟨(k % (sc.length : Int)).toNat, by omega, by omega⟩
      refine ⟨.ref a, rfl, .int k, rfl, .ref a, rfl, a, ivs sc, rfl, .inl hS1, k, _, rfl, rfl, ?_, a, ivs sc, _, .int (gd sc j), rfl, rfl, hS1, ?_, _, 1, rfl, rfl, .int k, rfl, _, _, rfl, rfl,
        .int k, rfl, 7919, k, rfl, rfl, .inl ⟨by decide, by decide⟩, 48271, _, rfl, rfl, _, _, rfl, rfl, .inr ⟨by omega, by omega⟩, _, 2147483647, rfl, rfl, ?_, q _ _ s1⟩
      · show (0 : Int) < ((ivs sc).length : Nat)
        rw [len_ivs]
        omega
      · rw [ej]
        exact atI_nat (at_int hj)
      · show (0 : Int) < 2147483647
        decide
/-! _law_rules -/
theorem scRules : FnScope ["_law_script", "_law_depths", "_law_places"] ["_law_script"] (defScope sRules) := ⟨rfl, rfl, rfl, by decide +kernel, rfl, by decide +kernel, by decide +kernel⟩
structure RulOk (P D B S : Int) : Prop where
  p1 : 1 ≤ P
  p24 : P ≤ 24
  d2 : 2 ≤ D
  d20 : D ≤ 20
  s1 : 1 ≤ S
  sd : S ≤ D - 1
def spRules (K : PySem.W.Frag) : Sp := fun vs H Q _ => ∃ (a : Addr) (sc : List Int), vs = [.ref a] ∧ SqL K H a (ivs sc) ∧ ∀ (P D B S : Int) H' p, RulOk P D B S → Same H H' → H' p = some (rulO P D B S) → Q (.ref p) H'
theorem ok_rules {f fM : Addr} {fd fdM : FuncData} (F : Fun K "_law_rules" "_law_rules" sRules f fd) (T : Bl mg) (FM : Fun K "_law_mixed" "_law_mixed" sMixed fM fdM) (bM : Binds K fdM ["_law_script", "_law_k"] []) (gM : mg "_law_mixed" = some (.ref fM)) :
    FnOk P w K mg base CX0 2 f fd ["_law_script"] (spRules K) := by
  have GM : FnOk P w K mg base CX0 1 fM fdM ["_law_script", "_law_k"] (spMixed K) := ok_mixed FM T
  refine F.ok scRules (fun vs H Q E h => ?_) (fun cdv A outer s H vs Q E hr h => ?_)
  · obtain ⟨a, sc, rfl, _⟩ := h
    rfl
  · obtain ⟨a, sc, rfl, hS, q⟩ := h
    refine ⟨_, pss_cons (ps_set (i := 1) scRules.nd rfl (.inl rfl) (pe_op op_add pe_int (pe_op op_mod (pe_call GM hr rfl gM FM.kp bM .nil pass0 (pa_cons (pv 0) (pa_cons pe_int pa_nil))) pe_int)))
      (pss_cons (ps_set (i := 2) scRules.nd rfl (.inl rfl) (pe_op op_add pe_int (pe_op op_mod (pe_call GM hr rfl gM FM.kp bM .nil pass0 (pa_cons (pv 0) (pa_cons pe_int pa_nil))) pe_int)))
      (pss_one (ps_ret (pe_tup (pa_cons (pv 2) (pa_cons (pv 1) (pa_cons (pe_op op_add pe_int (pe_op op_mod (pe_call GM hr rfl gM FM.kp bM .nil pass0 (pa_cons (pv 0) (pa_cons pe_int pa_nil))) (pv 1)))
        (pa_cons (pe_op op_add pe_int (pe_op op_mod (pe_call GM hr rfl gM FM.kp bM .nil pass0 (pa_cons (pv 0) (pa_cons pe_int pa_nil))) (pe_op op_sub (pv 1) pe_int))) pa_nil)))))))), ?_⟩
    refine ⟨.ref a, rfl, a, sc, 0, rfl, hS, by decide, by decide, fun z0 H0 s0 => ⟨z0, 19, rfl, rfl, by show (0 : Int) < 19; decide, 2, _, rfl, rfl, ?_⟩⟩
    refine ⟨.ref a, rfl, a, sc, 1, rfl, s0.seq hS, by decide, by decide, fun z1 H1 s1 => ⟨z1, 24, rfl, rfl, by show (0 : Int) < 24; decide, 1, _, rfl, rfl, ?_⟩⟩
    have d0 := Int.emod_nonneg z0 (show (19 : Int) ≠ 0 by decide)
    have d1 := Int.emod_lt_of_pos z0 (show (0 : Int) < 19 by decide)
    have p0 := Int.emod_nonneg z1 (show (24 : Int) ≠ 0 by decide)
    have p1 := Int.emod_lt_of_pos z1 (show (0 : Int) < 24 by decide)
    refine ⟨.int (1 + z1 % 24), rfl, .int (2 + z0 % 19), rfl, ?_⟩
    refine ⟨.ref a, rfl, a, sc, 2, rfl, s1.seq (s0.seq hS), by decide, by decide, fun z2 H2 s2 => ⟨.int (2 + z0 % 19), rfl, z2, _, rfl, rfl, by show (0 : Int) < 2 + z0 % 19; omega, 1, _, rfl, rfl, ?_⟩⟩
    refine ⟨.ref a, rfl, a, sc, 3, rfl, s2.seq (s1.seq (s0.seq hS)), by decide, by decide, fun z3 H3 s3 => ⟨.int (2 + z0 % 19), rfl, _, 1, rfl, rfl, z3, _, rfl, rfl, by show (0 : Int) < 2 + z0 % 19 - 1; omega, 1, _, rfl, rfl, ?_⟩⟩
    refine ⟨line100 (by show 4 ≤ 1000; decide), fun p hp => ?_⟩
    have t0 := Int.emod_nonneg z3 (show (2 + z0 % 19 - 1 : Int) ≠ 0 by omega)
    have t1 := Int.emod_lt_of_pos z3 (show (0 : Int) < 2 + z0 % 19 - 1 by omega)
    exact q (1 + z1 % 24) (2 + z0 % 19) (1 + z2 % (2 + z0 % 19)) (1 + z3 % (2 + z0 % 19 - 1)) _ p ⟨by omega, by omega, by omega, by omega, by omega, by omega⟩ (((s0.trans s1).trans (s2.trans s3)).trans (same_upd hp)) upd_same
/-! _law_cuts -/
theorem scCuts : FnScope ["_law_rules_here", "_law_script", "_law_begin", "_law_found", "_law_k", "_law_low", "_law_high"] ["_law_rules_here", "_law_script", "_law_begin"] (defScope sCuts) := ⟨rfl, rfl, rfl, by decide +kernel, rfl, by decide +kernel, by decide +kernel⟩
def spCuts (K : PySem.W.Frag) : Sp := fun vs H Q _ => ∃ (a b : Addr) (P D B S g : Int) (sc : List Int), vs = [.ref a, .ref b, .int g] ∧ H a = some (rulO P D B S) ∧ SqL K H b (ivs sc) ∧ RulOk P D B S ∧ 0 ≤ g ∧ g ≤ 900 ∧
  ∀ (ns : List Int) H' p, Same H H' → H' p = some (tupI ns) → OkL P D S ns → Q (.ref p) H'
theorem ok_cuts {f fM : Addr} {fd fdM : FuncData} (F : Fun K "_law_cuts" "_law_cuts" sCuts f fd) (T : Bl mg) (FM : Fun K "_law_mixed" "_law_mixed" sMixed fM fdM) (bM : Binds K fdM ["_law_script", "_law_k"] []) (gM : mg "_law_mixed" = some (.ref fM)) :
    FnOk P w K mg base CX0 2 f fd ["_law_rules_here", "_law_script", "_law_begin"] (spCuts K) := by
  have GM : FnOk P w K mg base CX0 1 fM fdM ["_law_script", "_law_k"] (spMixed K) := ok_mixed FM T
  refine F.ok scCuts (fun vs H Q E h => ?_) (fun cdv A outer s H vs Q E hr h => ?_)
  · obtain ⟨a, b, P, D, B, S, g, sc, rfl, _⟩ := h
    rfl
  · obtain ⟨a, b, P, D, B, S, g, sc, rfl, hA, hS, R, h0, h1, q⟩ := h
    refine ⟨_, pss_cons (ps_set (i := 3) scCuts.nd rfl (.inl rfl) (pe_lst pa_nil))
      (pss_cons (ps_for PassesOwn.never rfl (pi_range1 rfl T.range (pa_cons (pe_ix ix_tup (pv 0) pe_int (fun _ _ => rfl)) pa_nil)) (pg_name (i := 4) scCuts.nd rfl (.inl rfl))
        (pss_cons (ps_set (i := 5) scCuts.nd rfl (.inl rfl) pe_int)
        (pss_cons (ps_set (i := 6) scCuts.nd rfl (.inl rfl) (pe_op op_sub (pe_ix ix_tup (pv 0) pe_int (fun _ _ => rfl)) pe_int))
        (pss_cons (ps_if (pt_cmpR (op_neD hr.units) (pv 3) (pe_lst pa_nil) (nomark _))
            (pss_cons (ps_set (i := 5) scCuts.nd rfl (.inl rfl) (pe_callB (call_max2 rfl) (by rfl) T.max b_max (pa_cons (pv 5) (pa_cons (pe_op op_sub (pe_ix ix_list (pv 3) (pe_un un_neg pe_int) (fun _ _ => rfl)) (pe_ix ix_tup (pv 0) pe_int (fun _ _ => rfl))) pa_nil))))
            (pss_one (ps_set (i := 6) scCuts.nd rfl (.inl rfl) (pe_callB (call_min2 rfl) (by rfl) T.min b_min (pa_cons (pv 6) (pa_cons (pe_op op_add (pe_ix ix_list (pv 3) (pe_un un_neg pe_int) (fun _ _ => rfl)) (pe_ix ix_tup (pv 0) pe_int (fun _ _ => rfl))) pa_nil))))))
            pss_nil)
        (pss_one (ps_expr (pe_bm PySem.F.plainAttrs_list PySem.F.slot_list_append PySem.F.type_list_append mt_append (pv 3)
          (pa_cons (pe_op op_add (pv 5) (pe_op op_mod (pe_call GM hr rfl gM FM.kp bM .nil pass0 (pa_cons (pv 1) (pa_cons (pe_op op_add (pv 2) (pv 4)) pa_nil))) (pe_op op_add (pe_op op_sub (pv 6) (pv 5)) pe_int))) pa_nil))))))))
      (pss_one (ps_ret (pe_callTy call_tuple_of (by rfl) T.tuple b_tuple (pa_cons (pv 3) pa_nil))))), ?_⟩
    obtain ⟨rp1, rp24, rd2, rd20, rs1, rsd⟩ := R
    -- found = []
    refine ⟨Nat.zero_le _, fun l hl => ?_⟩
    have s0 : Same H (upd H l (.lst [])) := same_upd hl
    refine ⟨.ref a, rfl, a, _, 0, _, rfl, rfl, SqT.of (s0 _ _ hA), atI_nat (j := 0) rfl, P, rfl, by omega, by omega, for_range (lo := 0) (n := P.toNat)
      (fun i σ H' => ∃ (ns : List Int) (v4 v5 v6 : Option V), σ = [some (.ref a), some (.ref b), some (.int g), some (.ref l), v4, v5, v6] ∧ Same H H' ∧ H' l = some (.lst (ivs ns)) ∧ ns.length = i ∧ OkF ns.length D S (gd ns))
      ⟨[], none, none, none, rfl, s0, upd_same, rfl, ⟨fun i hi => absurd hi (Nat.not_lt_zero _), fun i hi => absurd hi (Nat.not_lt_zero _)⟩⟩ ?_ ?_⟩
    · rintro i σ H1 hi ⟨ns, v4, v5, v6, rfl, s1, eL, el, ok⟩
      -- low = 0, high = rules[1] - 1
      refine ⟨.ref a, rfl, a, _, 1, _, rfl, rfl, SqT.of (s1 _ _ hA), atI_nat (j := 1) rfl, D, 1, rfl, rfl, ?_⟩
      -- found != []
      refine ⟨.ref l, rfl, Nat.zero_le _, fun m hm => ?_⟩
      have s2 : Same H1 (upd H1 m (.lst [])) := same_upd hm
      have eL2 := s2 _ _ eL
      have s12 := s1.trans s2
      generalize hH2 : upd H1 m (.lst []) = H2 at s2 eL2 s12
      have eM : H2 m = some (.lst []) := by rw [← hH2, upd_same]
      refine ⟨.list (ns.map PyData.int), .list [], .lst (SqL.of eL2) (dp_ints ns), .lst (SqL.of eM) .nil, sh_list ns, sh_list [], _, rfl, ?_⟩
      have ev : PyData.eqv (.list (ns.map PyData.int)) (.list []) = decide (ns = []) := eqv_list ns []
      rw [ev]
      by_cases hne : ns = []
      · rw [decide_eq_true hne]
        refine iteF ?_
        refine ⟨.ref l, rfl, .inl ⟨rfl, _, SqL.of eL2⟩, .int 0, rfl, .ref b, rfl, .int g, rfl, .int (0 + i), rfl, _, _, rfl, rfl, b, sc, _, rfl, s12.seq hS, by omega, by omega, fun z H4 s4 => ?_⟩
        have s124 := s12.trans s4
        have eL4 := s4 _ _ eL2
        have m0 := Int.emod_nonneg z (show (D - 1 - 0 + 1 : Int) ≠ 0 by omega)
        have m1 := Int.emod_lt_of_pos z (show (0 : Int) < D - 1 - 0 + 1 by omega)
        refine ⟨.int (D - 1), rfl, .int 0, rfl, _, _, rfl, rfl, _, 1, rfl, rfl, z, _, rfl, rfl, by show (0 : Int) < D - 1 - 0 + 1; omega, 0, _, rfl, rfl, l, _, _, rfl, rfl, eL4, ?_, ?_⟩
        · rw [len_ivs]
          exact small1000 (by omega)
        · refine ⟨ns ++ [0 + z % (D - 1 - 0 + 1)], _, _, _, rfl, same_own s124 hl, ?_, ?_, ?_⟩
          · rw [upd_same]
            show some (HO.lst (ns.map V.int ++ [V.int _])) = some (HO.lst ((ns ++ [_]).map V.int))
            rw [List.map_append]
            rfl
          · rw [List.length_append]
            show ns.length + 1 = i + 1
            omega
          · rw [List.length_append]
            refine okF_app ok ⟨by omega, by omega⟩ fun hq => ?_
            rw [hne] at hq
            exact absurd hq (by decide)
      · rw [decide_eq_false hne]
        refine iteT ?_
        have hpos : 1 ≤ ns.length := List.length_pos_iff.mpr hne
        have hlast := ok.dep (ns.length - 1) (by omega)
        obtain ⟨t, et⟩ : ∃ t, gd ns (ns.length - 1) = t := ⟨_, rfl⟩
        rw [et] at hlast
        have hat := atI_lastI hpos
        rw [et] at hat
        refine ⟨.int 0, rfl, .ref l, rfl, 1, rfl, l, _, -1, _, rfl, rfl, SqL.of eL2, hat, .ref a, rfl, a, _, 3, _, rfl, rfl, SqT.of (s12 _ _ hA), atI_nat (j := 3) rfl, t, S, rfl, rfl, 0, _, rfl, ?_⟩
        refine ⟨.int (D - 1), rfl, .ref l, rfl, 1, rfl, l, _, -1, _, rfl, rfl, SqL.of eL2, hat, .ref a, rfl, a, _, 3, _, rfl, rfl, SqT.of (s12 _ _ hA), atI_nat (j := 3) rfl, t, S, rfl, rfl, D - 1, _, rfl, ?_⟩
        obtain ⟨lo, elo⟩ : ∃ lo, (if t - S > 0 then t - S else 0) = lo := ⟨_, rfl⟩
        obtain ⟨hh, ehi⟩ : ∃ hh, (if t + S < D - 1 then t + S else D - 1) = hh := ⟨_, rfl⟩
        rw [elo, ehi]
        have flo : 0 ≤ lo ∧ t - S ≤ lo ∧ lo ≤ t := by
          rw [← elo]
          split <;> omega
        have fhi : hh ≤ D - 1 ∧ hh ≤ t + S ∧ t ≤ hh := by
          rw [← ehi]
          split <;> omega
        refine ⟨.ref l, rfl, .inl ⟨rfl, _, SqL.of eL2⟩, .int lo, rfl, .ref b, rfl, .int g, rfl, .int (0 + i), rfl, _, _, rfl, rfl, b, sc, _, rfl, s12.seq hS, by omega, by omega, fun z H4 s4 => ?_⟩
        have s124 := s12.trans s4
        have eL4 := s4 _ _ eL2
        have m0 := Int.emod_nonneg z (show (hh - lo + 1 : Int) ≠ 0 by omega)
        have m1 := Int.emod_lt_of_pos z (show (0 : Int) < hh - lo + 1 by omega)
        refine ⟨.int hh, rfl, .int lo, rfl, _, _, rfl, rfl, _, 1, rfl, rfl, z, _, rfl, rfl, by show (0 : Int) < hh - lo + 1; omega, lo, _, rfl, rfl, l, _, _, rfl, rfl, eL4, ?_, ?_⟩
        · rw [len_ivs]
          exact small1000 (by omega)
        · refine ⟨ns ++ [lo + z % (hh - lo + 1)], _, _, _, rfl, same_own s124 hl, ?_, ?_, ?_⟩
          · rw [upd_same]
            show some (HO.lst (ns.map V.int ++ [V.int _])) = some (HO.lst ((ns ++ [_]).map V.int))
            rw [List.map_append]
            rfl
          · rw [List.length_append]
            show ns.length + 1 = i + 1
            omega
          · rw [List.length_append]
            refine okF_app ok ⟨by omega, by omega⟩ fun hq => ?_
            rw [et]
            omega
    · rintro σ H1 ⟨ns, v4, v5, v6, rfl, s1, eL, el, ok⟩
      refine ⟨.ref l, rfl, l, _, rfl, .inl ⟨SqL.of eL, fun p hp => ?_⟩⟩
      exact q ns _ p (s1.trans (same_upd hp)) upd_same ⟨by omega, ok⟩
end
end Ws

/-! _law_read, _law_written -/
namespace Ws
open L2 PySem PySem.Spec PyProof.Rows
theorem sh_none : SeqAt.shaped .none = true := by
  simp [SeqAt.shaped, PyData.canLay0, PyData.depth]
theorem eqv_none : PyData.eqv .none .none = true := by
  simp [PyData.eqv]
theorem OkL.small {P D S : Int} {ns : List Int} (o : OkL P D S ns) (h : D ≤ 1000) : Small ns := fun i hi => by
  have q := o.2.dep i hi
  omega
section
variable {K : PySem.W.Frag} {mg : Str → Option Value} {P : Program} {w : World} {base : Heap}
theorem scLread : FnScope ["_law_rules_here", "_law_word", "_law_refused", "_law_found"] ["_law_rules_here", "_law_word"] (defScope sLread) := ⟨rfl, rfl, rfl, by decide +kernel, rfl, by decide +kernel, by decide +kernel⟩
def spLread : Sp := fun vs H Q _ => ∃ (a : Addr) (P D B S : Int) (ns : List Int), vs = [.ref a, .str (joined ns)] ∧ H a = some (rulO P D B S) ∧ Small ns ∧ 1 ≤ ns.length ∧ ns.length ≤ 24 ∧
  (OkL P D S ns → ∀ H' p, Same H H' → H' p = some (tupI ns) → Q (.ref p) H') ∧ (¬ OkL P D S ns → ∀ H', Same H H' → Q .non H')
theorem ok_lread {f fR C : Addr} {fd fdR : FuncData} (F : Fun K "_law_read" "_law_read" sLread f fd) (T : Bl mg) (X : ExcT K mg C) (GR : FnOk P w K mg base (L2.CX P w) 3 fR fdR ["rules", "text"] (spRead C)) (kR : PySem.W.keepIn K (.ref fR) = true) (bR : Binds K fdR ["rules", "text"] []) (gR : mg "read_cuts" = some (.ref fR)) :
    FnOk P w K mg base CX0 4 f fd ["_law_rules_here", "_law_word"] spLread := by
  refine F.ok scLread (fun vs H Q E h => ?_) (fun cdv A outer s H vs Q E hr h => ?_)
  · obtain ⟨a, P, D, B, S, ns, rfl, _⟩ := h
    rfl
  · obtain ⟨a, P, D, B, S, ns, rfl, hA, hs, h1, h24, kY, kN⟩ := h
    refine ⟨_, pss_cons (ps_set (i := 2) scLread.nd rfl (.inl rfl) pe_bl)
      (pss_cons (ps_set (i := 3) scLread.nd rfl (.inl rfl) pe_non)
      (pss_cons (ps_try_only (tb := fun W => tAsg (tCallS (spRead C) (WE W) (tCons (tVar 0) (tCons (tVar 1) tNil))) (gName 3)) (ts := fun _ _ _ => tAsg (tC (.bl true)) (gName 2)) (Wout := fun _ _ _ _ => False) rfl rfl ⟨rfl, by decide, Or.inl X.g⟩ takes0
          (fun W pn xe tk _ => pss_one (ps_set (i := 3) scLread.nd rfl (Or.inl rfl) (by exact (pe_callS GR hr rfl gR kR bR (fun σ => passAt tk σ) (by exact (pa_cons (pv 0) (pa_cons (pv 1) pa_nil)))))))
          (fun a oe cls d pn _ _ => pss_one (ps_set (i := 2) scLread.nd rfl (Or.inl rfl) pe_bl)))
      (pss_cons (ps_if (pt_val (pv 2)) (pss_one (ps_ret pe_non)) pss_nil)
      (pss_one (ps_ret (pv 3)))))), ?_⟩
    refine ⟨.ref a, rfl, .str (joined ns), rfl, a, P, D, B, S, ns, rfl, hA, hs, h1, h24, fun ok H1 p s1 hp => ?_, fun nok H1 s1 => ?_⟩
    · exact ⟨.bl false, rfl, false, rfl, iteF ⟨.ref p, rfl, kY ok H1 p s1 hp⟩⟩
    · exact ⟨true, X.e, fun _ a0 _ => ⟨.bl true, rfl, true, rfl, iteT (kN nok H1 s1)⟩, fun q => Bool.noConfusion q⟩
/-! _law_written -/
theorem scWritten : FnScope ["_law_rules_here", "_law_one", "_law_word", "_law_places", "_law_depths", "_law_heights", "_law_step", "_law_others", "_law_other", "_law_due"] ["_law_rules_here", "_law_one"] (defScope sWritten) := ⟨rfl, rfl, rfl, by decide +kernel, rfl, by decide +kernel, by decide +kernel⟩
def spWritten : Sp := fun vs H Q _ => ∃ (a b : Addr) (P D B S : Int) (ns : List Int), vs = [.ref a, .ref b] ∧ H a = some (rulO P D B S) ∧ H b = some (tupI ns) ∧ RulOk P D B S ∧ OkL P D S ns ∧ ∀ H', Same H H' → Q (.bl true) H'
theorem ok_written {f fS fL fI : Addr} {fd fdS fdL fdI : FuncData} (F : Fun K "_law_written" "_law_written" sWritten f fd) (T : Bl mg)
    (GS : FnOk P w K mg base CX0 1 fS fdS ["one"] spShown) (kS : PySem.W.keepIn K (.ref fS) = true) (bS : Binds K fdS ["one"] []) (gS : mg "shown_cuts" = some (.ref fS))
    (GL : FnOk P w K mg base CX0 4 fL fdL ["_law_rules_here", "_law_word"] spLread) (kL : PySem.W.keepIn K (.ref fL) = true) (bL : Binds K fdL ["_law_rules_here", "_law_word"] []) (gL : mg "_law_read" = some (.ref fL))
    (GI : FnOk P w K mg base CX0 2 fI fdI ["rules", "thing"] spIs) (kI : PySem.W.keepIn K (.ref fI) = true) (bI : Binds K fdI ["rules", "thing"] []) (gI : mg "is_cuts" = some (.ref fI)) :
    FnOk P w K mg base CX0 5 f fd ["_law_rules_here", "_law_one"] spWritten := by
  refine F.ok scWritten (fun vs H Q E h => ?_) (fun cdv A outer s H vs Q E hr h => ?_)
  · obtain ⟨a, b, P, D, B, S, ns, rfl, _⟩ := h
    rfl
  · obtain ⟨a, b, P, D, B, S, ns, rfl, hA, hB, R, ok, k⟩ := h
    have hr1 : Room 1 _ := Room.mono hr (by decide)
    have hr2 : Room 2 _ := Room.mono hr (by decide)
    refine ⟨_, pss_cons (ps_set (i := 2) scWritten.nd rfl (.inl rfl) (pe_call GS hr1 rfl gS kS bS .nil pass0 (pa_cons (pv 1) pa_nil)))
      (pss_cons (ps_if (PW.pt (pw_or (pt_not (pt_val (pe_callB call_isi (by rfl) T.isi b_isi (pa_cons (pv 2) (pa_cons (pe_bltn (v := .ty "str") (by rfl) T.str b_str rfl) pa_nil)))))
          (pw_or1 (pt_cmpR (op_neD hr.units) (pe_call GL hr rfl gL kL bL .nil pass0 (pa_cons (pv 0) (pa_cons (pv 2) pa_nil))) (pv 1) (nomark _))))) (pss_one (ps_ret pe_bl)) pss_nil)
      (pss_cons (ps_asg (pv 0) (pg_tup (by rfl) (pgs_cons (pg_name (i := 3) scWritten.nd rfl (.inl rfl)) (pgs_cons (pg_name (i := 4) scWritten.nd rfl (.inl rfl)) (pgs_cons (pg_name (i := 5) scWritten.nd rfl (.inl rfl)) (pgs_cons (pg_name (i := 6) scWritten.nd rfl (.inl rfl)) pgs_nil))))))
      (pss_cons (ps_set (i := 7) scWritten.nd rfl (.inl rfl) (pe_lst (pa_cons (pe_tup (pa_cons (pv 3) (pa_cons (pv 4) (pa_cons (pv 5) (pa_cons (pe_callB (call_max2 rfl) (by rfl) T.max b_max (pa_cons pe_int (pa_cons (pe_op op_sub (pv 6) pe_int) pa_nil))) pa_nil)))))
          (pa_cons (pe_tup (pa_cons (pv 3) (pa_cons (pe_callB (call_max2 rfl) (by rfl) T.max b_max (pa_cons pe_int (pa_cons (pe_op op_sub (pv 4) pe_int) pa_nil))) (pa_cons pe_int (pa_cons pe_int pa_nil))))) pa_nil))))
      (pss_cons (ps_for PassesOwn.never rfl (pi_list (pe_op op_cat (pv 7) (pe_lst (pa_cons (pe_tup (pa_cons (pe_callB (call_max2 rfl) (by rfl) T.max b_max (pa_cons pe_int (pa_cons (pe_op op_sub (pv 3) pe_int) pa_nil))) (pa_cons (pv 4) (pa_cons pe_int (pa_cons (pe_op op_sub (pv 4) pe_int) pa_nil))))) pa_nil)))) (pg_name (i := 8) scWritten.nd rfl (.inl rfl))
          (pss_cons (ps_set (i := 9) scWritten.nd rfl (.inl rfl) pe_non)
          (pss_cons (ps_if (pt_val (pe_call GI hr2 rfl gI kI bI .nil pass0 (pa_cons (pv 8) (pa_cons (pv 1) pa_nil)))) (pss_one (ps_set (i := 9) scWritten.nd rfl (.inl rfl) (pv 1))) pss_nil)
          (pss_one (ps_if (pt_cmpR (op_neD hr.units) (pe_call GL hr rfl gL kL bL .nil pass0 (pa_cons (pv 8) (pa_cons (pv 2) pa_nil))) (pv 9) (nomark _)) (pss_one (ps_ret pe_bl)) pss_nil)))))
      (pss_one (ps_ret pe_bl)))))), ?_⟩
    obtain ⟨rp1, rp24, rd2, rd20, rs1, rsd⟩ := R
    have hs : Small ns := ok.small (by omega)
    have hl := ok.1
    have h1 : 1 ≤ ns.length := by omega
    have h24 : ns.length ≤ 24 := by omega
    -- word = shown_cuts(one)
    refine ⟨.ref b, rfl, b, ns, rfl, hB, hs, h24, fun H1 s1 => ?_⟩
    refine ⟨.str (joined ns), rfl, .str (joined ns), .ty "str", .type "str", .type "str", true, rfl, .ty "str", .base (.str _), kit_ty (by decide +kernel), true, rfl, iteF ?_⟩
    -- _law_read(rules, word) != one
    refine ⟨.ref a, rfl, .str (joined ns), rfl, a, P, D, B, S, ns, rfl, s1 _ _ hA, hs, h1, h24, fun _ H2 p s2 hp => ?_, fun nok => absurd ok nok⟩
    have s12 := s1.trans s2
    refine ⟨.ref b, rfl, .tuple (ns.map PyData.int), .tuple (ns.map PyData.int), .tup (SqT.of hp) (dp_ints ns), .tup (SqT.of (s12 _ _ hB)) (dp_ints ns), sh_tup ns, sh_tup ns, false, congrArg V.bl (by rw [eqv_tup, decide_eq_true rfl]; rfl), iteF ?_⟩
    -- places, depths, heights, step = rules
    refine ⟨.ref a, rfl, a, _, rfl, SqT.of (s12 _ _ hA), rfl, _, _, rfl, _, _, rfl, _, _, rfl, _, _, rfl, rfl, ?_⟩
    -- others
    refine ⟨.int P, rfl, .int D, rfl, .int B, rfl, .int S, rfl, S, 1, rfl, rfl, 1, _, rfl, line100 (by show 4 ≤ 1000; decide), fun t1 ht1 => ?_⟩
    refine ⟨.int P, rfl, .int D, rfl, D, 1, rfl, rfl, 2, _, rfl, line100 (by show 4 ≤ 1000; decide), fun t2 ht2 => ?_⟩
    refine ⟨line100 (by show 2 ≤ 1000; decide), fun l hl => ?_⟩
    refine ⟨.ref l, rfl, .int P, rfl, P, 1, rfl, rfl, 1, _, rfl, .int D, rfl, .int D, rfl, D, 1, rfl, rfl, line100 (by show 4 ≤ 1000; decide), fun t3 ht3 => ?_⟩
    refine ⟨line100 (by show 1 ≤ 1000; decide), fun m hm => ?_⟩
    have u1 := same_upd (o := rulO P D B (if S - 1 > 1 then S - 1 else 1)) ht1
    have u2 := same_upd (o := rulO P (if D - 1 > 2 then D - 1 else 2) 1 1) ht2
    have u3 := same_upd (o := .lst [.ref t1, .ref t2]) hl
    have u4 := same_upd (o := rulO (if P - 1 > 1 then P - 1 else 1) D 1 (D - 1)) ht3
    have u5 := same_upd (o := .lst [.ref t3]) hm
    refine ⟨l, m, _, _, rfl, rfl, u5 _ _ (u4 _ _ upd_same), upd_same, line100 (by show 2 + 1 ≤ 1000; decide), fun n hn => ?_⟩
    have u6 := same_upd (o := .lst ([.ref t1, .ref t2] ++ [.ref t3])) hn
    have a1 : Same H _ := (((s12.trans u1).trans u2).trans u3).trans ((u4.trans u5).trans u6)
    have f1 := u6 _ _ (u5 _ _ (u4 _ _ (u3 _ _ (u2 _ _ (upd_same (a := t1))))))
    have f2 := u6 _ _ (u5 _ _ (u4 _ _ (u3 _ _ (upd_same (a := t2)))))
    have f3 := u6 _ _ (u5 _ _ (upd_same (a := t3)))
    have f4 := upd_same (H := upd (upd (upd (upd (upd H2 t1 (rulO P D B (if S - 1 > 1 then S - 1 else 1))) t2 (rulO P (if D - 1 > 2 then D - 1 else 2) 1 1)) l (.lst [.ref t1, .ref t2])) t3 (rulO (if P - 1 > 1 then P - 1 else 1) D 1 (D - 1))) m (.lst [.ref t3])) (a := n) (o := .lst ([.ref t1, .ref t2] ++ [.ref t3]))
    refine ⟨n, rfl, ⟨_, SqL.of f4⟩, ?_⟩
    clear u1 u2 u3 u4 u5 u6
    generalize upd (upd (upd (upd (upd (upd H2 t1 (rulO P D B (if S - 1 > 1 then S - 1 else 1))) t2 (rulO P (if D - 1 > 2 then D - 1 else 2) 1 1)) l (.lst [.ref t1, .ref t2])) t3 (rulO (if P - 1 > 1 then P - 1 else 1) D 1 (D - 1))) m (.lst [.ref t3])) n (.lst ([.ref t1, .ref t2] ++ [.ref t3])) = H3 at a1 f1 f2 f3 f4 ⊢
    have rules : ∀ (i : Nat) (x : V), ([.ref t1, .ref t2] ++ [.ref t3] : List V)[i]? = some x → ∃ (t : Addr) (P' D' B' S' : Int), x = .ref t ∧ H3 t = some (rulO P' D' B' S') := by
      intro i x hx
      match i, hx with
      | 0, hx => exact ⟨t1, _, _, _, _, (Option.some.inj hx).symm, f1⟩
      | 1, hx => exact ⟨t2, _, _, _, _, (Option.some.inj hx).symm, f2⟩
      | 2, hx => exact ⟨t3, _, _, _, _, (Option.some.inj hx).symm, f3⟩
      | i + 3, hx => cases hx
    refine for_list (K := K) (a := n) (xs := [.ref t1, .ref t2] ++ [.ref t3])
      (fun _ σ H' => (∃ v8 v9 : Option V, σ = [some (.ref a), some (.ref b), some (.str (joined ns)), some (.int P), some (.int D), some (.int B), some (.int S), some (.ref l), v8, v9]) ∧ Same H3 H')
      ⟨⟨none, none, rfl⟩, Same.refl _⟩ (fun i σ H' _ h => SqL.of (h.2 _ _ f4)) ?_ ?_
    · rintro i x σ H4 hi ⟨⟨v8, v9, rfl⟩, s4⟩
      obtain ⟨t, P', D', B', S', rfl, ht⟩ := rules i x hi
      have ht4 := s4 _ _ ht
      have hB4 := s4 _ _ (a1 _ _ hB)
      -- if is_cuts(other, one): due = one
      refine ⟨.ref t, rfl, .ref b, rfl, t, b, P', D', B', S', ns, rfl, ht4, hB4, h1, by omega, fun c H5 s5 hc => ⟨c, rfl, ?_⟩⟩
      cases c with
      | true =>
        refine iteT ⟨.ref b, rfl, ?_⟩
        refine ⟨.ref t, rfl, .str (joined ns), rfl, t, P', D', B', S', ns, rfl, s5 _ _ ht4, hs, h1, h24, fun _ H6 p s6 hp => ?_, fun nok => absurd (hc.mp rfl) nok⟩
        refine ⟨.ref b, rfl, .tuple (ns.map PyData.int), .tuple (ns.map PyData.int), .tup (SqT.of hp) (dp_ints ns), .tup (SqT.of (s6 _ _ (s5 _ _ hB4))) (dp_ints ns), sh_tup ns, sh_tup ns, false, congrArg V.bl (by rw [eqv_tup, decide_eq_true rfl]; rfl), iteF ?_⟩
        exact ⟨⟨_, _, rfl⟩, s4.trans (s5.trans s6)⟩
      | false =>
        refine iteF ?_
        refine ⟨.ref t, rfl, .str (joined ns), rfl, t, P', D', B', S', ns, rfl, s5 _ _ ht4, hs, h1, h24, fun okk => ?_, fun _ H6 s6 => ?_⟩
        · have z := hc.mpr okk
          cases z
        · refine ⟨.non, rfl, .none, .none, .non, .non, sh_none, sh_none, false, congrArg V.bl (by rw [eqv_none]; rfl), iteF ?_⟩
          exact ⟨⟨_, _, rfl⟩, s4.trans (s5.trans s6)⟩
    · rintro σ H4 ⟨⟨v8, v9, rfl⟩, s4⟩
      exact k H4 (a1.trans s4)
end
end Ws

/-! _law_between, law -/
namespace Ws
open L2 PySem PySem.Spec PyProof.Rows
/-- what next_cuts hands back: nothing lies behind, or nothing lies between -/
def LaterOk (H : Hp) (D S : Int) (ns : List Int) (v : V) : Prop :=
  (v = .non ∧ ∀ d, OkF ns.length D S d → ¬ LexF ns.length (gd ns) d) ∨
  ∃ (q : Addr) (ms : List Int), v = .ref q ∧ H q = some (tupI ms) ∧ ms.length = ns.length ∧ ∀ d, OkF ns.length D S d → LexF ns.length (gd ns) d → ¬ LexF ns.length d (gd ms)
theorem gd_rep (n : Nat) (i : Nat) : gd (List.replicate n 0) i = 0 := by
  unfold gd
  rw [List.getD_eq_getElem?_getD, List.getElem?_replicate]
  split <;> rfl
theorem zero_least {P : Nat} {D S : Int} {f g : Nat → Int} (o : OkF P D S f) (hg : ∀ i, g i = 0) : ¬ LexF P f g := by
  rintro ⟨j, hj, _, lj⟩
  have h := (o.dep j hj).1
  rw [hg j] at lj
  omega
section
variable {K : PySem.W.Frag} {mg : Str → Option Value} {P : Program} {w : World} {base : Heap}
theorem scBetween : FnScope ["_law_rules_here", "_law_one", "_law_later", "_law_script", "_law_begin", "_law_k", "_law_drawn"] ["_law_rules_here", "_law_one", "_law_later", "_law_script", "_law_begin"] (defScope sBetween) := ⟨rfl, rfl, rfl, by decide +kernel, rfl, by decide +kernel, by decide +kernel⟩
def spBetween (K : PySem.W.Frag) : Sp := fun vs H Q _ => ∃ (r o a : Addr) (v : V) (P D B S g : Int) (ns sc : List Int), vs = [.ref r, .ref o, v, .ref a, .int g] ∧ H r = some (rulO P D B S) ∧ H o = some (tupI ns) ∧ SqL K H a (ivs sc) ∧ RulOk P D B S ∧ OkL P D S ns ∧ LaterOk H D S ns v ∧
  0 ≤ g ∧ g ≤ 800 ∧ ∀ H', Same H H' → Q (.bl true) H'
theorem ok_between {f fC fF : Addr} {fd fdC fdF : FuncData} (F : Fun K "_law_between" "_law_between" sBetween f fd) (T : Bl mg)
    (GC : FnOk P w K mg base CX0 2 fC fdC ["_law_rules_here", "_law_script", "_law_begin"] (spCuts K)) (kC : PySem.W.keepIn K (.ref fC) = true) (bC : Binds K fdC ["_law_rules_here", "_law_script", "_law_begin"] []) (gC : mg "_law_cuts" = some (.ref fC))
    (GF : FnOk P w K mg base CX0 1 fF fdF ["one", "other"] spFile) (kF : PySem.W.keepIn K (.ref fF) = true) (bF : Binds K fdF ["one", "other"] []) (gF : mg "can_file" = some (.ref fF)) :
    FnOk P w K mg base CX0 3 f fd ["_law_rules_here", "_law_one", "_law_later", "_law_script", "_law_begin"] (spBetween K) := by
  refine F.ok scBetween (fun vs H Q E h => ?_) (fun cdv A outer s H vs Q E hr h => ?_)
  · obtain ⟨r, o, a, v, P, D, B, S, g, ns, sc, rfl, _⟩ := h
    rfl
  · obtain ⟨r, o, a, v, P, D, B, S, g, ns, sc, rfl, hR, hO, hS, R, ok, hL, h0, h1, k⟩ := h
    have hr1 : Room 1 _ := Room.mono hr (by decide)
    refine ⟨_, pss_cons (ps_for PassesOwn.never rfl (pi_range1 rfl T.range (pa_cons pe_int pa_nil)) (pg_name (i := 5) scBetween.nd rfl (.inl rfl))
        (pss_cons (ps_set (i := 6) scBetween.nd rfl (.inl rfl) (pe_call GC hr rfl gC kC bC .nil pass0 (pa_cons (pv 0) (pa_cons (pv 3) (pa_cons (pe_op op_add (pv 4) (pe_op op_mul pe_int (pv 5))) pa_nil)))))
        (pss_cons (ps_if (PW.pt (pw_or (PW.pt (pw_and (pt_cmpR (op_gtI hr.units0) (pv 6) (pv 1) (nomark _)) (pw_and1 (pt_cmpR op_isN (pv 2) pe_non (nomark _)))))
            (pw_or1 (PW.pt (pw_and (pt_cmpR (op_gtI hr.units0) (pv 6) (pv 1) (nomark _)) (pw_and1 (pt_cmpR (op_ltI hr.units0) (pv 6) (pv 2) (nomark _)))))))) (pss_one (ps_ret pe_bl)) pss_nil)
        (pss_one (ps_if (PW.pt (pw_or (PW.pt (pw_and (pt_val (pe_call GF hr1 rfl gF kF bF .nil pass0 (pa_cons (pv 1) (pa_cons (pv 6) pa_nil)))) (pw_and1 (pt_cmpR (op_ltI hr.units0) (pv 6) (pv 1) (nomark _)))))
            (pw_or1 (PW.pt (pw_and (pt_val (pe_call GF hr1 rfl gF kF bF .nil pass0 (pa_cons (pv 6) (pa_cons (pv 1) pa_nil)))) (pw_and1 (pt_cmpR (op_ltI hr.units0) (pv 1) (pv 6) (nomark _)))))))) (pss_one (ps_ret pe_bl)) pss_nil)))))
      (pss_one (ps_ret pe_bl)), ?_⟩
    refine ⟨3, rfl, by decide, by decide, for_range (lo := 0) (n := 3) (fun i σ H' => (∃ v5 v6 : Option V, σ = [some (.ref r), some (.ref o), some v, some (.ref a), some (.int g), v5, v6]) ∧ Same H H')
      ⟨⟨none, none, rfl⟩, Same.refl _⟩ ?_ ?_⟩
    · rintro i σ H1 hi ⟨⟨v5, v6, rfl⟩, s1⟩
      -- drawn = _law_cuts(rules, script, begin + 7 * k)
      refine ⟨.ref r, rfl, .ref a, rfl, .int g, rfl, .int (0 + i), rfl, 7, _, rfl, rfl, .inl ⟨by decide, by decide⟩, g, _, rfl, rfl, ?_⟩
      refine ⟨r, a, P, D, B, S, _, sc, rfl, s1 _ _ hR, s1.seq hS, R, by omega, by omega, fun ds H2 p s2 hp od => ?_⟩
      have s12 := s1.trans s2
      have hO2 := s12 _ _ hO
      have el : ds.length = ns.length := by
        have e1 := od.1
        have e2 := ok.1
        omega
      have od2 : OkF ns.length D S (gd ds) := by rw [← el]; exact od.2
      -- the second if and the turn's end, from any heap
      by_cases hg : LexF ns.length (gd ns) (gd ds)
      · -- drawn > one
        refine ⟨.ref p, rfl, .ref o, rfl, p, o, ds, ns, rfl, rfl, SqT.of hp, SqT.of hO2, el, fun k1 e1 => ?_⟩
        have z1 : k1 = true := e1.mpr (by rw [el]; exact hg)
        subst z1
        refine ⟨true, rfl, iteT ?_⟩
        rcases hL with ⟨rfl, hn⟩ | ⟨q, ms, rfl, hq, hlm, hn⟩
        · exact absurd hg (hn _ od2)
        refine ⟨.ref q, rfl, rfl, false, rfl, iteF ?_⟩
        refine ⟨.ref p, rfl, .ref o, rfl, p, o, ds, ns, rfl, rfl, SqT.of hp, SqT.of hO2, el, fun k2 e2 => ?_⟩
        have z2 : k2 = true := e2.mpr (by rw [el]; exact hg)
        subst z2
        refine ⟨true, rfl, iteT ?_⟩
        refine ⟨.ref p, rfl, .ref q, rfl, p, q, ds, ms, rfl, rfl, SqT.of hp, SqT.of (s12 _ _ hq), by omega, fun k3 e3 => ⟨k3, rfl, ?_⟩⟩
        cases k3 with
        | true =>
          have z : LexF ds.length (gd ds) (gd ms) := e3.mp rfl
          rw [el] at z
          exact absurd z (hn _ od2 hg)
        | false =>
          refine iteF ?_
          -- can_file(one, drawn) and drawn < one
          refine ⟨.ref o, rfl, .ref p, rfl, o, p, ns, ds, rfl, hO2, hp, el.symm, fun k4 H3 s3 e4 => ⟨k4, rfl, ?_⟩⟩
          have s13 := s12.trans s3
          have second : ∀ H3, Same H2 H3 → ∀ (Q' : Bool → Hp → Prop), (∀ H4, Same H3 H4 → Q' false H4) → ∀ k5 : Bool, (k5 = true ↔ ∀ i, i < ds.length → gd ds i ≤ gd ns i) → k5 = false := by
            intro H3 _ Q' _ k5 e5
            cases k5 with
            | false => rfl
            | true =>
              refine absurd hg (file_le fun i hi => ?_)
              exact e5.mp rfl i (by omega)
          cases k4 with
          | true =>
            refine iteT ⟨.ref p, rfl, .ref o, rfl, p, o, ds, ns, rfl, rfl, SqT.of (s3 _ _ hp), SqT.of (s3 _ _ hO2), el, fun k5 e5 => ⟨k5, rfl, ?_⟩⟩
            cases k5 with
            | true =>
              have z : LexF ds.length (gd ds) (gd ns) := e5.mp rfl
              rw [el] at z
              exact absurd z (lexF_asymm hg)
            | false =>
              refine iteF ⟨.ref p, rfl, .ref o, rfl, p, o, ds, ns, rfl, s3 _ _ hp, s3 _ _ hO2, el, fun k6 H4 s4 e6 => ⟨k6, rfl, ?_⟩⟩
              have z6 := second H3 s3 (fun _ _ => True) (fun _ _ => trivial) k6 e6
              subst z6
              exact iteF ⟨⟨_, _, rfl⟩, s13.trans s4⟩
          | false =>
            refine iteF ⟨.ref p, rfl, .ref o, rfl, p, o, ds, ns, rfl, s3 _ _ hp, s3 _ _ hO2, el, fun k6 H4 s4 e6 => ⟨k6, rfl, ?_⟩⟩
            have z6 := second H3 s3 (fun _ _ => True) (fun _ _ => trivial) k6 e6
            subst z6
            exact iteF ⟨⟨_, _, rfl⟩, s13.trans s4⟩
      · refine ⟨.ref p, rfl, .ref o, rfl, p, o, ds, ns, rfl, rfl, SqT.of hp, SqT.of hO2, el, fun k1 e1 => ⟨k1, rfl, ?_⟩⟩
        have z1 : k1 = false := by
          cases k1 with
          | false => rfl
          | true =>
            have z : LexF ds.length (gd ns) (gd ds) := e1.mp rfl
            rw [el] at z
            exact absurd z hg
        subst z1
        refine iteF ?_
        refine ⟨.ref p, rfl, .ref o, rfl, p, o, ds, ns, rfl, rfl, SqT.of hp, SqT.of hO2, el, fun k2 e2 => ⟨k2, rfl, ?_⟩⟩
        have z2 : k2 = false := by
          cases k2 with
          | false => rfl
          | true =>
            have z : LexF ds.length (gd ns) (gd ds) := e2.mp rfl
            rw [el] at z
            exact absurd z hg
        subst z2
        refine iteF ?_
        -- can_file(one, drawn) and drawn < one
        refine ⟨.ref o, rfl, .ref p, rfl, o, p, ns, ds, rfl, hO2, hp, el.symm, fun k4 H3 s3 e4 => ⟨k4, rfl, ?_⟩⟩
        have s13 := s12.trans s3
        have last : ∀ (k7 : Bool), (k7 = true ↔ LexF ns.length (gd ns) (gd ds)) → k7 = false := by
          intro k7 e7
          cases k7 with
          | false => rfl
          | true => exact absurd (e7.mp rfl) hg
        cases k4 with
        | true =>
          refine iteT ⟨.ref p, rfl, .ref o, rfl, p, o, ds, ns, rfl, rfl, SqT.of (s3 _ _ hp), SqT.of (s3 _ _ hO2), el, fun k5 e5 => ⟨k5, rfl, ?_⟩⟩
          cases k5 with
          | true =>
            have z : LexF ds.length (gd ds) (gd ns) := e5.mp rfl
            rw [el] at z
            exact absurd z (file_le fun i hi => e4.mp rfl i hi)
          | false =>
            refine iteF ⟨.ref p, rfl, .ref o, rfl, p, o, ds, ns, rfl, s3 _ _ hp, s3 _ _ hO2, el, fun k6 H4 s4 e6 => ⟨k6, rfl, ?_⟩⟩
            cases k6 with
            | false => exact iteF ⟨⟨_, _, rfl⟩, s13.trans s4⟩
            | true =>
              refine iteT ⟨.ref o, rfl, .ref p, rfl, o, p, ns, ds, rfl, rfl, SqT.of (s4 _ _ (s3 _ _ hO2)), SqT.of (s4 _ _ (s3 _ _ hp)), el.symm, fun k7 e7 => ⟨k7, rfl, ?_⟩⟩
              have z7 := last k7 e7
              subst z7
              exact iteF ⟨⟨_, _, rfl⟩, s13.trans s4⟩
        | false =>
          refine iteF ⟨.ref p, rfl, .ref o, rfl, p, o, ds, ns, rfl, s3 _ _ hp, s3 _ _ hO2, el, fun k6 H4 s4 e6 => ⟨k6, rfl, ?_⟩⟩
          cases k6 with
          | false => exact iteF ⟨⟨_, _, rfl⟩, s13.trans s4⟩
          | true =>
            refine iteT ⟨.ref o, rfl, .ref p, rfl, o, p, ns, ds, rfl, rfl, SqT.of (s4 _ _ (s3 _ _ hO2)), SqT.of (s4 _ _ (s3 _ _ hp)), el.symm, fun k7 e7 => ⟨k7, rfl, ?_⟩⟩
            have z7 := last k7 e7
            subst z7
            exact iteF ⟨⟨_, _, rfl⟩, s13.trans s4⟩
    · rintro σ H1 ⟨⟨v5, v6, rfl⟩, s1⟩
      exact k H1 s1
/-! law -/
theorem scLaw : FnScope ["_law_script", "_law_rules_here", "_law_one", "_law_k", "_law_later"] ["_law_script"] (defScope sLaw) := ⟨rfl, rfl, rfl, by decide +kernel, rfl, by decide +kernel, by decide +kernel⟩
def spLaw (K : PySem.W.Frag) : Sp := fun vs H Q _ => ∃ (a : Addr) (sc : List Int), vs = [.ref a] ∧ SqL K H a (ivs sc) ∧ sc.length ≤ 63 ∧ ∀ H', Q (.bl true) H'
theorem ok_law {f fR fC fN fB fI fW fZ : Addr} {fd fdR fdC fdN fdB fdI fdW fdZ : FuncData} (F : Fun K "law" "law" sLaw f fd) (T : Bl mg)
    (GR : FnOk P w K mg base CX0 2 fR fdR ["_law_script"] (spRules K)) (kR : PySem.W.keepIn K (.ref fR) = true) (bR : Binds K fdR ["_law_script"] []) (gR : mg "_law_rules" = some (.ref fR))
    (GC : FnOk P w K mg base CX0 2 fC fdC ["_law_rules_here", "_law_script", "_law_begin"] (spCuts K)) (kC : PySem.W.keepIn K (.ref fC) = true) (bC : Binds K fdC ["_law_rules_here", "_law_script", "_law_begin"] []) (gC : mg "_law_cuts" = some (.ref fC))
    (GN : FnOk P w K mg base CX0 2 fN fdN ["rules", "one"] spNext) (kN : PySem.W.keepIn K (.ref fN) = true) (bN : Binds K fdN ["rules", "one"] []) (gN : mg "next_cuts" = some (.ref fN))
    (GB : FnOk P w K mg base CX0 3 fB fdB ["_law_rules_here", "_law_one", "_law_later", "_law_script", "_law_begin"] (spBetween K)) (kB : PySem.W.keepIn K (.ref fB) = true) (bB : Binds K fdB ["_law_rules_here", "_law_one", "_law_later", "_law_script", "_law_begin"] []) (gB : mg "_law_between" = some (.ref fB))
    (GI : FnOk P w K mg base CX0 2 fI fdI ["rules", "thing"] spIs) (kI : PySem.W.keepIn K (.ref fI) = true) (bI : Binds K fdI ["rules", "thing"] []) (gI : mg "is_cuts" = some (.ref fI))
    (GW : FnOk P w K mg base CX0 5 fW fdW ["_law_rules_here", "_law_one"] spWritten) (kW : PySem.W.keepIn K (.ref fW) = true) (bW : Binds K fdW ["_law_rules_here", "_law_one"] []) (gW : mg "_law_written" = some (.ref fW))
    (GZ : FnOk P w K mg base CX0 1 fZ fdZ ["rules"] spFirst) (kZ : PySem.W.keepIn K (.ref fZ) = true) (bZ : Binds K fdZ ["rules"] []) (gZ : mg "first_cuts" = some (.ref fZ)) :
    FnOk P w K mg base CX0 6 f fd ["_law_script"] (spLaw K) := by
  refine F.ok scLaw (fun vs H Q E h => ?_) (fun cdv A outer s H vs Q E hr h => ?_)
  · obtain ⟨a, sc, rfl, _⟩ := h
    rfl
  · obtain ⟨a, sc, rfl, hS, hlen, k⟩ := h
    have hr1 : Room 1 _ := Room.mono hr (by decide)
    have hr2 : Room 2 _ := Room.mono hr (by decide)
    have hr3 : Room 3 _ := hr.mono (by decide)
    refine ⟨_, pss_cons (ps_set (i := 1) scLaw.nd rfl (.inl rfl) (pe_call GR hr2 rfl gR kR bR .nil pass0 (pa_cons (pv 0) pa_nil)))
      (pss_cons (ps_set (i := 2) scLaw.nd rfl (.inl rfl) (pe_call GC hr2 rfl gC kC bC .nil pass0 (pa_cons (pv 1) (pa_cons (pv 0) (pa_cons pe_int pa_nil)))))
      (pss_cons (ps_for PassesOwn.never rfl (pi_range1 rfl T.range (pa_cons (pe_callB (call_min2 rfl) (by rfl) T.min b_min (pa_cons (pe_callB call_len_seq (by rfl) T.len b_len (pa_cons (pv 0) pa_nil)) (pa_cons pe_int pa_nil))) pa_nil)) (pg_name (i := 3) scLaw.nd rfl (.inl rfl))
        (pss_cons (ps_set (i := 4) scLaw.nd rfl (.inl rfl) (pe_call GN hr2 rfl gN kN bN .nil pass0 (pa_cons (pv 1) (pa_cons (pv 2) pa_nil))))
        (pss_cons (ps_if (pt_not (pt_val (pe_call GB hr3 rfl gB kB bB .nil pass0 (pa_cons (pv 1) (pa_cons (pv 2) (pa_cons (pv 4) (pa_cons (pv 0) (pa_cons (pe_op op_add pe_int (pv 3)) pa_nil)))))))) (pss_one (ps_ret pe_bl)) pss_nil)
        (pss_cons (ps_if (PW.pt (pw_or (pt_cmpR op_isN (pv 4) pe_non (nomark _)) (pw_or1 (pt_cmpR op_eq (pe_op op_mod (pe_ix ix_list (pv 0) (pv 3) (fun _ _ => rfl)) pe_int) pe_int (nomark _)))))
            (pss_one (ps_set (i := 4) scLaw.nd rfl (.inl rfl) (pe_call GC hr2 rfl gC kC bC .nil pass0 (pa_cons (pv 1) (pa_cons (pv 0) (pa_cons (pe_op op_add pe_int (pv 3)) pa_nil))))))
            (pss_one (ps_if (PW.pt (pw_or (pt_not (pt_val (pe_call GI hr2 rfl gI kI bI .nil pass0 (pa_cons (pv 1) (pa_cons (pv 4) pa_nil))))) (pw_or1 (pt_not (pt_cmpR (op_gtI hr.units0) (pv 4) (pv 2) (nomark _)))))) (pss_one (ps_ret pe_bl)) pss_nil)))
        (pss_cons (ps_if (pt_not (pt_val (pe_call GW hr rfl gW kW bW .nil pass0 (pa_cons (pv 1) (pa_cons (pv 4) pa_nil))))) (pss_one (ps_ret pe_bl)) pss_nil)
        (pss_one (ps_set (i := 2) scLaw.nd rfl (.inl rfl) (pv 4))))))))
      (pss_one (ps_ret (pe_and (pe_call GW hr rfl gW kW bW .nil pass0 (pa_cons (pv 1) (pa_cons (pv 2) pa_nil)))
        (pe_one (pe_not (pe_cmpR (op_ltI hr.units0) (pv 2) (pe_call GZ hr1 rfl gZ kZ bZ .nil pass0 (pa_cons (pv 1) pa_nil)) (nomark _))))))))), ?_⟩
    -- rules, one
    refine ⟨.ref a, rfl, a, sc, rfl, hS, fun P D B S H1 r R s1 hr' => ?_⟩
    refine ⟨.ref r, rfl, .ref a, rfl, r, a, P, D, B, S, 4, sc, rfl, hr', s1.seq hS, R, by decide, by decide, fun ns0 H2 o0 s2 ho0 ok0 => ?_⟩
    have s12 := s1.trans s2
    obtain ⟨n, en, hn, hn2⟩ : ∃ n : Nat, (if (60 : Int) < ((ivs sc).length : Nat) then (60 : Int) else ((ivs sc).length : Nat)) = (n : Int) ∧ n ≤ 60 ∧ n ≤ sc.length := by
      rw [len_ivs]
      by_cases q : (60 : Int) < (sc.length : Nat)
      · exact ⟨60, by rw [if_pos q]; rfl, Nat.le_refl _, by omega⟩
      · exact ⟨sc.length, by rw [if_neg q], by omega, Nat.le_refl _⟩
    refine ⟨.ref a, rfl, a, ivs sc, rfl, .inl (s12.seq hS), _, 60, rfl, _, rfl, ?_⟩
    rw [en]
    refine ⟨by omega, by omega, for_range (lo := 0) (n := ((n : Nat) : Int).toNat) (fun i σ H' => ∃ (o : Addr) (ns : List Int) (v3 v4 : Option V), σ = [some (.ref a), some (.ref r), some (.ref o), v3, v4] ∧ Same H2 H' ∧ H' o = some (tupI ns) ∧ OkL P D S ns)
      ⟨o0, ns0, none, none, rfl, Same.refl _, ho0, ok0⟩ ?_ ?_⟩
    · rintro i σ H3 hi ⟨o, ns, v3, v4, rfl, s3, ho, ok⟩
      have hi' : i < n := by omega
      have hR3 := s3 _ _ (s2 _ _ hr')
      have hS3 : SqL K H3 a (ivs sc) := s3.seq (s12.seq hS)
      -- later = next_cuts(rules, one)
      refine ⟨.ref r, rfl, .ref o, rfl, r, o, P, D, B, S, ns, rfl, hR3, ho, R.p1, R.p24, ok.1, fun H4 s4 hno => ?_, fun ms t H4 q s4 hq hl N => ?_⟩
      · -- none
        refine ⟨.ref r, rfl, .ref o, rfl, .non, rfl, .ref a, rfl, .int (0 + i), rfl, 5, _, rfl, rfl, ?_⟩
        refine ⟨r, o, a, .non, P, D, B, S, _, ns, sc, rfl, s4 _ _ hR3, s4 _ _ ho, s4.seq hS3, R, ok, .inl ⟨rfl, fun d od => next_none od hno⟩, by omega, by omega, fun H5 s5 => ⟨true, rfl, iteF ?_⟩⟩
        refine ⟨.non, rfl, rfl, true, rfl, iteT ?_⟩
        refine ⟨.ref r, rfl, .ref a, rfl, .int (0 + i), rfl, 11, _, rfl, rfl, ?_⟩
        have s45 := s4.trans s5
        refine ⟨r, a, P, D, B, S, _, sc, rfl, s45 _ _ hR3, s45.seq hS3, R, by omega, by omega, fun ds H6 p s6 hp od => ?_⟩
        have s46 := s45.trans s6
        refine ⟨.ref r, rfl, .ref p, rfl, r, p, P, D, B, S, ds, rfl, s46 _ _ hR3, hp, R, od, fun H7 s7 => ⟨true, rfl, iteF ?_⟩⟩
        exact ⟨.ref p, rfl, p, ds, _, _, rfl, s3.trans (s46.trans s7), s7 _ _ hp, od⟩
      · have okm : OkL P D S ms := ⟨by rw [hl]; exact ok.1, by rw [hl]; exact N.ok ok.2 (by have := R.s1; omega)⟩
        refine ⟨.ref r, rfl, .ref o, rfl, .ref q, rfl, .ref a, rfl, .int (0 + i), rfl, 5, _, rfl, rfl, ?_⟩
        refine ⟨r, o, a, .ref q, P, D, B, S, _, ns, sc, rfl, s4 _ _ hR3, s4 _ _ ho, s4.seq hS3, R, ok, .inr ⟨q, ms, rfl, hq, hl, fun d od hd => N.least od hd⟩, by omega, by omega, fun H5 s5 => ⟨true, rfl, iteF ?_⟩⟩
        have s45 := s4.trans s5
        refine ⟨.ref q, rfl, rfl, false, rfl, iteF ?_⟩
        -- script[k] % 4 == 3
        have ei : (0 : Int) + (i : Nat) = ((i : Nat) : Int) := by omega
        refine ⟨.ref a, rfl, .int (0 + i), rfl, a, ivs sc, _, .int (gd sc i), rfl, rfl, s45.seq hS3, ?_, gd sc i, 4, rfl, rfl, by show (0 : Int) < 4; decide, rfl, _, rfl, ite2 (fun e => ?_) (fun e => ?_)⟩
        · rw [ei]
          exact atI_nat (at_int (by omega))
        · refine ⟨.ref r, rfl, .ref a, rfl, .int (0 + i), rfl, 11, _, rfl, rfl, ?_⟩
          refine ⟨r, a, P, D, B, S, _, sc, rfl, s45 _ _ hR3, s45.seq hS3, R, by omega, by omega, fun ds H6 p s6 hp od => ?_⟩
          have s46 := s45.trans s6
          refine ⟨.ref r, rfl, .ref p, rfl, r, p, P, D, B, S, ds, rfl, s46 _ _ hR3, hp, R, od, fun H7 s7 => ⟨true, rfl, iteF ?_⟩⟩
          exact ⟨.ref p, rfl, p, ds, _, _, rfl, s3.trans (s46.trans s7), s7 _ _ hp, od⟩
        · -- is_cuts(rules, later), later > one
          have hl1 : 1 ≤ ms.length := by
            have e1 := ok.1
            have e2 := R.p1
            omega
          have hl24 : ms.length ≤ 1000 := by
            have e1 := ok.1
            have e2 := R.p24
            omega
          refine ⟨.ref r, rfl, .ref q, rfl, r, q, P, D, B, S, ms, rfl, s45 _ _ hR3, s5 _ _ hq, hl1, hl24, fun c H6 s6 hc => ?_⟩
          have zc : c = true := hc.mpr okm
          subst zc
          have s46 := s45.trans s6
          refine ⟨true, rfl, iteF ?_⟩
          refine ⟨.ref q, rfl, .ref o, rfl, q, o, ms, ns, rfl, rfl, SqT.of (s6 _ _ (s5 _ _ hq)), SqT.of (s46 _ _ ho), hl, fun c2 hc2 => ?_⟩
          have zc2 : c2 = true := hc2.mpr (by rw [hl]; exact N.lex)
          subst zc2
          refine ⟨true, rfl, iteF ?_⟩
          refine ⟨.ref r, rfl, .ref q, rfl, r, q, P, D, B, S, ms, rfl, s46 _ _ hR3, s6 _ _ (s5 _ _ hq), R, okm, fun H7 s7 => ⟨true, rfl, iteF ?_⟩⟩
          exact ⟨.ref q, rfl, q, ms, _, _, rfl, s3.trans (s46.trans s7), s7 _ _ (s6 _ _ (s5 _ _ hq)), okm⟩
    · rintro σ H3 ⟨o, ns, v3, v4, rfl, s3, ho, ok⟩
      have hR3 := s3 _ _ (s2 _ _ hr')
      refine ⟨.ref r, rfl, .ref o, rfl, r, o, P, D, B, S, ns, rfl, hR3, ho, R, ok, fun H4 s4 => ⟨true, rfl, iteT ?_⟩⟩
      refine ⟨.ref o, rfl, .ref r, rfl, r, P, D, B, S, rfl, s4 _ _ hR3, R.p1, R.p24, fun H5 z s5 hz => ?_⟩
      refine ⟨o, z, ns, _, rfl, rfl, SqT.of (s5 _ _ (s4 _ _ ho)), SqT.of hz, ?_, fun c hc => ?_⟩
      · rw [List.length_replicate]
        have e1 := ok.1
        omega
      · have zc : c = false := by
          cases c with
          | false => rfl
          | true => exact absurd (hc.mp rfl) (zero_least ok.2 (gd_rep _))
        subst zc
        exact ⟨false, rfl, k H5⟩
end
end Ws

/-! The end: what the top has left, the law's own head. -/
namespace Ws
open L2 PySem PySem.Spec PyProof.Rows
theorem all_mk {l : PySem.W.OpenLaw} {w : World} {K : PySem.W.Frag} {h : Heap} {mg : Str → Option Value} {fa C f1 f2 f3 f4 f5 f6 f7 f8 f9 f10 f11 f12 f13 f14 f15 f16 f17 : Addr} (X : K.In h) (G : h.Ns mainGlobals mg) (hfa : mg "law" = some (.ref fa))
    {od1 an1 od2 an2 od3 an3 od4 an4 od5 an5 od6 an6 od7 an7 od8 an8 od9 an9 od10 an10 od11 an11 od12 an12 od13 an13 od14 an14 od15 an15 od16 an16 od17 an17 : Option Addr} {sl1 sl2 sl3 sl4 sl5 sl6 sl7 sl8 sl9 sl10 sl11 sl12 sl13 sl14 sl15 sl16 sl17 : Array (Option Value)} {oc1 kV1 dc1 pm1 cd1 ct1 oc2 kV2 dc2 pm2 cd2 ct2 oc3 kV3 dc3 pm3 cd3 ct3 oc4 kV4 dc4 pm4 cd4 ct4 oc5 kV5 dc5 pm5 cd5 ct5 oc6 kV6 dc6 pm6 cd6 ct6 oc7 kV7 dc7 pm7 cd7 ct7 oc8 kV8 dc8 pm8 cd8 ct8 oc9 kV9 dc9 pm9 cd9 ct9 oc10 kV10 dc10 pm10 cd10 ct10 oc11 kV11 dc11 pm11 cd11 ct11 oc12 kV12 dc12 pm12 cd12 ct12 oc13 kV13 dc13 pm13 cd13 ct13 oc14 kV14 dc14 pm14 cd14 ct14 oc15 kV15 dc15 pm15 cd15 ct15 oc16 kV16 dc16 pm16 cd16 ct16 oc17 kV17 dc17 pm17 cd17 ct17 : Value} {tF : Tok}
    (a1 : PySem.W.nsIn K mainGlobals "is_whole" = some (some (.ref f1))) (l1 : K.lookup f1 = some ⟨oc1, od1, .func (PySem.W.fnOf "is_whole" "is_whole" (defArgs sWhole) (defBody sWhole) (defScope sWhole) .none kV1 dc1 pm1 an1 cd1 ct1), sl1⟩) (c1 : PySem.W.codeIn K cd1 "is_whole" = true) (k1 : PySem.W.keepIn K (.ref f1) = true)
    (a2 : PySem.W.nsIn K mainGlobals "is_number" = some (some (.ref f2))) (l2 : K.lookup f2 = some ⟨oc2, od2, .func (PySem.W.fnOf "is_number" "is_number" (defArgs sNum) (defBody sNum) (defScope sNum) .none kV2 dc2 pm2 an2 cd2 ct2), sl2⟩) (c2 : PySem.W.codeIn K cd2 "is_number" = true) (k2 : PySem.W.keepIn K (.ref f2) = true)
    (a3 : PySem.W.nsIn K mainGlobals "numbers_in" = some (some (.ref f3))) (l3 : K.lookup f3 = some ⟨oc3, od3, .func (PySem.W.fnOf "numbers_in" "numbers_in" (defArgs sNums) (defBody sNums) (defScope sNums) .none kV3 dc3 pm3 an3 cd3 ct3), sl3⟩) (c3 : PySem.W.codeIn K cd3 "numbers_in" = true) (k3 : PySem.W.keepIn K (.ref f3) = true)
    (a4 : PySem.W.nsIn K mainGlobals "is_cuts" = some (some (.ref f4))) (l4 : K.lookup f4 = some ⟨oc4, od4, .func (PySem.W.fnOf "is_cuts" "is_cuts" (defArgs sIs) (defBody sIs) (defScope sIs) .none kV4 dc4 pm4 an4 cd4 ct4), sl4⟩) (c4 : PySem.W.codeIn K cd4 "is_cuts" = true) (k4 : PySem.W.keepIn K (.ref f4) = true)
    (a5 : PySem.W.nsIn K mainGlobals "read_cuts" = some (some (.ref f5))) (l5 : K.lookup f5 = some ⟨oc5, od5, .func (PySem.W.fnOf "read_cuts" "read_cuts" (defArgs sRead) (defBody sRead) (defScope sRead) .none kV5 dc5 pm5 an5 cd5 ct5), sl5⟩) (c5 : PySem.W.codeIn K cd5 "read_cuts" = true) (k5 : PySem.W.keepIn K (.ref f5) = true)
    (a6 : PySem.W.nsIn K mainGlobals "shown_cuts" = some (some (.ref f6))) (l6 : K.lookup f6 = some ⟨oc6, od6, .func (PySem.W.fnOf "shown_cuts" "shown_cuts" (defArgs sShown) (defBody sShown) (defScope sShown) .none kV6 dc6 pm6 an6 cd6 ct6), sl6⟩) (c6 : PySem.W.codeIn K cd6 "shown_cuts" = true) (k6 : PySem.W.keepIn K (.ref f6) = true)
    (a7 : PySem.W.nsIn K mainGlobals "first_cuts" = some (some (.ref f7))) (l7 : K.lookup f7 = some ⟨oc7, od7, .func (PySem.W.fnOf "first_cuts" "first_cuts" (defArgs sFirst) (defBody sFirst) (defScope sFirst) .none kV7 dc7 pm7 an7 cd7 ct7), sl7⟩) (c7 : PySem.W.codeIn K cd7 "first_cuts" = true) (k7 : PySem.W.keepIn K (.ref f7) = true)
    (a8 : PySem.W.nsIn K mainGlobals "filled_up" = some (some (.ref f8))) (l8 : K.lookup f8 = some ⟨oc8, od8, .func (PySem.W.fnOf "filled_up" "filled_up" (defArgs sFill) (defBody sFill) (defScope sFill) .none kV8 dc8 pm8 an8 cd8 ct8), sl8⟩) (c8 : PySem.W.codeIn K cd8 "filled_up" = true) (k8 : PySem.W.keepIn K (.ref f8) = true)
    (a9 : PySem.W.nsIn K mainGlobals "next_cuts" = some (some (.ref f9))) (l9 : K.lookup f9 = some ⟨oc9, od9, .func (PySem.W.fnOf "next_cuts" "next_cuts" (defArgs sNext) (defBody sNext) (defScope sNext) .none kV9 dc9 pm9 an9 cd9 ct9), sl9⟩) (c9 : PySem.W.codeIn K cd9 "next_cuts" = true) (k9 : PySem.W.keepIn K (.ref f9) = true)
    (a10 : PySem.W.nsIn K mainGlobals "can_file" = some (some (.ref f10))) (l10 : K.lookup f10 = some ⟨oc10, od10, .func (PySem.W.fnOf "can_file" "can_file" (defArgs sFile) (defBody sFile) (defScope sFile) .none kV10 dc10 pm10 an10 cd10 ct10), sl10⟩) (c10 : PySem.W.codeIn K cd10 "can_file" = true) (k10 : PySem.W.keepIn K (.ref f10) = true)
    (a11 : PySem.W.nsIn K mainGlobals "_law_mixed" = some (some (.ref f11))) (l11 : K.lookup f11 = some ⟨oc11, od11, .func (PySem.W.fnOf "_law_mixed" "_law_mixed" (defArgs sMixed) (defBody sMixed) (defScope sMixed) .none kV11 dc11 pm11 an11 cd11 ct11), sl11⟩) (c11 : PySem.W.codeIn K cd11 "_law_mixed" = true) (k11 : PySem.W.keepIn K (.ref f11) = true)
    (a12 : PySem.W.nsIn K mainGlobals "_law_rules" = some (some (.ref f12))) (l12 : K.lookup f12 = some ⟨oc12, od12, .func (PySem.W.fnOf "_law_rules" "_law_rules" (defArgs sRules) (defBody sRules) (defScope sRules) .none kV12 dc12 pm12 an12 cd12 ct12), sl12⟩) (c12 : PySem.W.codeIn K cd12 "_law_rules" = true) (k12 : PySem.W.keepIn K (.ref f12) = true)
    (a13 : PySem.W.nsIn K mainGlobals "_law_cuts" = some (some (.ref f13))) (l13 : K.lookup f13 = some ⟨oc13, od13, .func (PySem.W.fnOf "_law_cuts" "_law_cuts" (defArgs sCuts) (defBody sCuts) (defScope sCuts) .none kV13 dc13 pm13 an13 cd13 ct13), sl13⟩) (c13 : PySem.W.codeIn K cd13 "_law_cuts" = true) (k13 : PySem.W.keepIn K (.ref f13) = true)
    (a14 : PySem.W.nsIn K mainGlobals "_law_read" = some (some (.ref f14))) (l14 : K.lookup f14 = some ⟨oc14, od14, .func (PySem.W.fnOf "_law_read" "_law_read" (defArgs sLread) (defBody sLread) (defScope sLread) .none kV14 dc14 pm14 an14 cd14 ct14), sl14⟩) (c14 : PySem.W.codeIn K cd14 "_law_read" = true) (k14 : PySem.W.keepIn K (.ref f14) = true)
    (a15 : PySem.W.nsIn K mainGlobals "_law_written" = some (some (.ref f15))) (l15 : K.lookup f15 = some ⟨oc15, od15, .func (PySem.W.fnOf "_law_written" "_law_written" (defArgs sWritten) (defBody sWritten) (defScope sWritten) .none kV15 dc15 pm15 an15 cd15 ct15), sl15⟩) (c15 : PySem.W.codeIn K cd15 "_law_written" = true) (k15 : PySem.W.keepIn K (.ref f15) = true)
    (a16 : PySem.W.nsIn K mainGlobals "_law_between" = some (some (.ref f16))) (l16 : K.lookup f16 = some ⟨oc16, od16, .func (PySem.W.fnOf "_law_between" "_law_between" (defArgs sBetween) (defBody sBetween) (defScope sBetween) .none kV16 dc16 pm16 an16 cd16 ct16), sl16⟩) (c16 : PySem.W.codeIn K cd16 "_law_between" = true) (k16 : PySem.W.keepIn K (.ref f16) = true)
    (a17 : PySem.W.nsIn K mainGlobals "law" = some (some (.ref f17))) (l17 : K.lookup f17 = some ⟨oc17, od17, .func (PySem.W.fnOf "law" "law" (defArgs sLaw) (defBody sLaw) (defScope sLaw) .none kV17 dc17 pm17 an17 cd17 ct17), sl17⟩) (c17 : PySem.W.codeIn K cd17 "law" = true) (k17 : PySem.W.keepIn K (.ref f17) = true)
    (z0 : PySem.W.nsIn K mainGlobals "isinstance" = some none)
    (z1 : PySem.W.nsIn K mainGlobals "int" = some none)
    (z2 : PySem.W.nsIn K mainGlobals "bool" = some none)
    (z3 : PySem.W.nsIn K mainGlobals "tuple" = some none)
    (z4 : PySem.W.nsIn K mainGlobals "str" = some none)
    (z5 : PySem.W.nsIn K mainGlobals "len" = some none)
    (z6 : PySem.W.nsIn K mainGlobals "zip" = some none)
    (z7 : PySem.W.nsIn K mainGlobals "abs" = some none)
    (z8 : PySem.W.nsIn K mainGlobals "range" = some none)
    (z9 : PySem.W.nsIn K mainGlobals "reversed" = some none)
    (z10 : PySem.W.nsIn K mainGlobals "list" = some none)
    (z11 : PySem.W.nsIn K mainGlobals "max" = some none)
    (z12 : PySem.W.nsIn K mainGlobals "min" = some none)
    (aF : PySem.W.nsIn K mainGlobals "FIGURES" = some (some (.str "0123456789" tF))) (aX : PySem.W.nsIn K mainGlobals "NoCuts" = some (some (.ref C)))
    (xX : PySem.W.excIn K C [.type "ValueError", .type "Exception", .type "BaseException", .type "object"] "ValueError.__new__" = true) (kX : PySem.W.keepIn K (.ref C) = true) (bX : PySem.W.subIn K (.ref C) (.type "BaseException") = some true)
    (tX : PySem.W.typeIn K (.ref C) = some (.type "type")) (iX : PySem.W.isClsIn K C = true) (sX : PySem.W.subIn K (.ref C) (.ref C) = some true) :
    ∃ fd : FuncData, (∀ (s : Shared) (v : Value), BindsTo s fd ⟨[v], []⟩ [("_law_script", v)]) ∧ ∀ base : Heap, K.In base → base.Ns mainGlobals mg → FnOk l.prog w K mg base CX0 6 fa fd ["_law_script"] (spLaw K) := by
  have e := hfa.symm.trans (PySem.W.mg_of X G a17)
  cases e
  have F1 := fun_mk (st := sWhole) l1 c1 k1
  have b1 := F1.binds (ps := ["thing"]) fun _ _ _ _ _ _ us hl => match us, hl with | [_], _ => rfl
  have g1 := PySem.W.mg_of X G a1
  have F2 := fun_mk (st := sNum) l2 c2 k2
  have b2 := F2.binds (ps := ["word"]) fun _ _ _ _ _ _ us hl => match us, hl with | [_], _ => rfl
  have g2 := PySem.W.mg_of X G a2
  have F3 := fun_mk (st := sNums) l3 c3 k3
  have b3 := F3.binds (ps := ["text", "mark"]) fun _ _ _ _ _ _ us hl => match us, hl with | [_, _], _ => rfl
  have g3 := PySem.W.mg_of X G a3
  have F4 := fun_mk (st := sIs) l4 c4 k4
  have b4 := F4.binds (ps := ["rules", "thing"]) fun _ _ _ _ _ _ us hl => match us, hl with | [_, _], _ => rfl
  have g4 := PySem.W.mg_of X G a4
  have F5 := fun_mk (st := sRead) l5 c5 k5
  have b5 := F5.binds (ps := ["rules", "text"]) fun _ _ _ _ _ _ us hl => match us, hl with | [_, _], _ => rfl
  have g5 := PySem.W.mg_of X G a5
  have F6 := fun_mk (st := sShown) l6 c6 k6
  have b6 := F6.binds (ps := ["one"]) fun _ _ _ _ _ _ us hl => match us, hl with | [_], _ => rfl
  have g6 := PySem.W.mg_of X G a6
  have F7 := fun_mk (st := sFirst) l7 c7 k7
  have b7 := F7.binds (ps := ["rules"]) fun _ _ _ _ _ _ us hl => match us, hl with | [_], _ => rfl
  have g7 := PySem.W.mg_of X G a7
  have F8 := fun_mk (st := sFill) l8 c8 k8
  have b8 := F8.binds (ps := ["rules", "begun"]) fun _ _ _ _ _ _ us hl => match us, hl with | [_, _], _ => rfl
  have g8 := PySem.W.mg_of X G a8
  have F9 := fun_mk (st := sNext) l9 c9 k9
  have b9 := F9.binds (ps := ["rules", "one"]) fun _ _ _ _ _ _ us hl => match us, hl with | [_, _], _ => rfl
  have g9 := PySem.W.mg_of X G a9
  have F10 := fun_mk (st := sFile) l10 c10 k10
  have b10 := F10.binds (ps := ["one", "other"]) fun _ _ _ _ _ _ us hl => match us, hl with | [_, _], _ => rfl
  have g10 := PySem.W.mg_of X G a10
  have F11 := fun_mk (st := sMixed) l11 c11 k11
  have b11 := F11.binds (ps := ["_law_script", "_law_k"]) fun _ _ _ _ _ _ us hl => match us, hl with | [_, _], _ => rfl
  have g11 := PySem.W.mg_of X G a11
  have F12 := fun_mk (st := sRules) l12 c12 k12
  have b12 := F12.binds (ps := ["_law_script"]) fun _ _ _ _ _ _ us hl => match us, hl with | [_], _ => rfl
  have g12 := PySem.W.mg_of X G a12
  have F13 := fun_mk (st := sCuts) l13 c13 k13
  have b13 := F13.binds (ps := ["_law_rules_here", "_law_script", "_law_begin"]) fun _ _ _ _ _ _ us hl => match us, hl with | [_, _, _], _ => rfl
  have g13 := PySem.W.mg_of X G a13
  have F14 := fun_mk (st := sLread) l14 c14 k14
  have b14 := F14.binds (ps := ["_law_rules_here", "_law_word"]) fun _ _ _ _ _ _ us hl => match us, hl with | [_, _], _ => rfl
  have g14 := PySem.W.mg_of X G a14
  have F15 := fun_mk (st := sWritten) l15 c15 k15
  have b15 := F15.binds (ps := ["_law_rules_here", "_law_one"]) fun _ _ _ _ _ _ us hl => match us, hl with | [_, _], _ => rfl
  have g15 := PySem.W.mg_of X G a15
  have F16 := fun_mk (st := sBetween) l16 c16 k16
  have b16 := F16.binds (ps := ["_law_rules_here", "_law_one", "_law_later", "_law_script", "_law_begin"]) fun _ _ _ _ _ _ us hl => match us, hl with | [_, _, _, _, _], _ => rfl
  have g16 := PySem.W.mg_of X G a16
  have F17 := fun_mk (st := sLaw) l17 c17 k17
  have T : Bl mg := ⟨PySem.W.mg_none_of X G z0, PySem.W.mg_none_of X G z1, PySem.W.mg_none_of X G z2, PySem.W.mg_none_of X G z3, PySem.W.mg_none_of X G z4, PySem.W.mg_none_of X G z5, PySem.W.mg_none_of X G z6, PySem.W.mg_none_of X G z7, PySem.W.mg_none_of X G z8, PySem.W.mg_none_of X G z9, PySem.W.mg_none_of X G z10, PySem.W.mg_none_of X G z11, PySem.W.mg_none_of X G z12, ⟨_, PySem.W.mg_of X G aF⟩⟩
  have XT : ExcT K mg C := ⟨PySem.W.mg_of X G aX, xX, kX, bX, tX, exm_same bX iX tX sX⟩
  refine ⟨PySem.W.fnOf "law" "law" (defArgs sLaw) (defBody sLaw) (defScope sLaw) .none kV17 dc17 pm17 an17 cd17 ct17, fun s v => .of_eq rfl, fun base _ _ => ?_⟩
  have GI : FnOk l.prog w K mg base CX0 2 _ _ ["rules", "thing"] spIs := ok_is F4 T F1 b1 g1
  have GRd : FnOk l.prog w K mg base (L2.CX l.prog w) 3 _ _ ["rules", "text"] (spRead C) := ok_read F5 T XT F3 b3 g3 F2 b2 g2 F4 b4 g4 F1 b1 g1
  have GSh : FnOk l.prog w K mg base CX0 1 _ _ ["one"] spShown := ok_shown F6 T
  have GZ : FnOk l.prog w K mg base CX0 1 _ _ ["rules"] spFirst := ok_first F7 T
  have GN : FnOk l.prog w K mg base CX0 2 _ _ ["rules", "one"] spNext := ok_next F9 T F8 b8 g8
  have GF : FnOk l.prog w K mg base CX0 1 _ _ ["one", "other"] spFile := ok_file F10 T
  have GR : FnOk l.prog w K mg base CX0 2 _ _ ["_law_script"] (spRules K) := ok_rules F12 T F11 b11 g11
  have GC : FnOk l.prog w K mg base CX0 2 _ _ ["_law_rules_here", "_law_script", "_law_begin"] (spCuts K) := ok_cuts F13 T F11 b11 g11
  have GL : FnOk l.prog w K mg base CX0 4 _ _ ["_law_rules_here", "_law_word"] spLread := ok_lread F14 T XT GRd F5.kp b5 g5
  have GW : FnOk l.prog w K mg base CX0 5 _ _ ["_law_rules_here", "_law_one"] spWritten := ok_written F15 T GSh F6.kp b6 g6 GL F14.kp b14 g14 GI F4.kp b4 g4
  have GB : FnOk l.prog w K mg base CX0 3 _ _ ["_law_rules_here", "_law_one", "_law_later", "_law_script", "_law_begin"] (spBetween K) := ok_between F16 T GC F13.kp b13 g13 GF F10.kp b10 g10
  exact ok_law F17 T GR F12.kp b12 g12 GC F13.kp b13 g13 GN F9.kp b9 g9 GB F16.kp b16 g16 GI F4.kp b4 g4 GW F15.kp b15 g15 GZ F7.kp b7 g7
end Ws
open PySem PySem.W PyProof.Rows
set_option maxRecDepth 100000 in
set_option maxHeartbeats 0 in
theorem PySem.Challenge.cw_wardsmith_k08_whole_in_order_holds : PySem.Challenge.rw_wardsmith_k08_whole_in_order.Holds := by
  w_on; o_law; k_head; (case hw => w_witness2)
  k_fill
  refine L2.walk_of (l := PySem.Challenge.rw_wardsmith_k08_whole_in_order) (n := 63) (k := 6) (x := "_law_script") (CX := fun _ => L2.CX0) (sp := fun w => Ws.spLaw _) rfl (by decide) rfl ⟨rfl, by decide, by decide⟩ (fun w h Y => PySem.W.kIn_of Y) ?F (fun _ _ a ns hl _ hS => ⟨a, ns, rfl, hS, hl, fun _ => rfl⟩) (fun _ _ _ _ _ h => h)
  case F =>
    intro w mg fa h KX G hmg
    refine' Ws.all_mk KX G hmg ?a1 ?l1 ?c1 ?k1 ?a2 ?l2 ?c2 ?k2 ?a3 ?l3 ?c3 ?k3 ?a4 ?l4 ?c4 ?k4 ?a5 ?l5 ?c5 ?k5 ?a6 ?l6 ?c6 ?k6 ?a7 ?l7 ?c7 ?k7 ?a8 ?l8 ?c8 ?k8 ?a9 ?l9 ?c9 ?k9 ?a10 ?l10 ?c10 ?k10 ?a11 ?l11 ?c11 ?k11 ?a12 ?l12 ?c12 ?k12 ?a13 ?l13 ?c13 ?k13 ?a14 ?l14 ?c14 ?k14 ?a15 ?l15 ?c15 ?k15 ?a16 ?l16 ?c16 ?k16 ?a17 ?l17 ?c17 ?k17 ?z0 ?z1 ?z2 ?z3 ?z4 ?z5 ?z6 ?z7 ?z8 ?z9 ?z10 ?z11 ?z12 ?aF ?aX ?xX ?kX ?bX ?tX ?iX ?sX
    (case a1 => k_is)
    (case l1 => k_is)
    (case c1 => k_is)
    (case k1 => k_is)
    (case a2 => k_is)
    (case l2 => k_is)
    (case c2 => k_is)
    (case k2 => k_is)
    (case a3 => k_is)
    (case l3 => k_is)
    (case c3 => k_is)
    (case k3 => k_is)
    (case a4 => k_is)
    (case l4 => k_is)
    (case c4 => k_is)
    (case k4 => k_is)
    (case a5 => k_is)
    (case l5 => k_is)
    (case c5 => k_is)
    (case k5 => k_is)
    (case a6 => k_is)
    (case l6 => k_is)
    (case c6 => k_is)
    (case k6 => k_is)
    (case a7 => k_is)
    (case l7 => k_is)
    (case c7 => k_is)
    (case k7 => k_is)
    (case a8 => k_is)
    (case l8 => k_is)
    (case c8 => k_is)
    (case k8 => k_is)
    (case a9 => k_is)
    (case l9 => k_is)
    (case c9 => k_is)
    (case k9 => k_is)
    (case a10 => k_is)
    (case l10 => k_is)
    (case c10 => k_is)
    (case k10 => k_is)
    (case a11 => k_is)
    (case l11 => k_is)
    (case c11 => k_is)
    (case k11 => k_is)
    (case a12 => k_is)
    (case l12 => k_is)
    (case c12 => k_is)
    (case k12 => k_is)
    (case a13 => k_is)
    (case l13 => k_is)
    (case c13 => k_is)
    (case k13 => k_is)
    (case a14 => k_is)
    (case l14 => k_is)
    (case c14 => k_is)
    (case k14 => k_is)
    (case a15 => k_is)
    (case l15 => k_is)
    (case c15 => k_is)
    (case k15 => k_is)
    (case a16 => k_is)
    (case l16 => k_is)
    (case c16 => k_is)
    (case k16 => k_is)
    (case a17 => k_is)
    (case l17 => k_is)
    (case c17 => k_is)
    (case k17 => k_is)
    (case z0 => k_is)
    (case z1 => k_is)
    (case z2 => k_is)
    (case z3 => k_is)
    (case z4 => k_is)
    (case z5 => k_is)
    (case z6 => k_is)
    (case z7 => k_is)
    (case z8 => k_is)
    (case z9 => k_is)
    (case z10 => k_is)
    (case z11 => k_is)
    (case z12 => k_is)
    (case aF => k_is)
    (case aX => k_is)
    (case xX => k_exc)
    (case kX => k_is)
    (case bX => k_is)
    (case tX => k_is)
    (case iX => k_is)
    (case sX => first | k_is | rfl)
