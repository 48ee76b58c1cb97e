import PyProof.Rows.All
import Wide.All
import OpenK.AllK
import Wide.FinOn
import HandS.ForMost
import HandS.IsInst
import HandS.Walk
import HandS.Conv
import HandS.TupAny
import HandS.Style
import HandS.Flow
import HandS.Strs
import HandS.EndBits
import HandS.SortInts
import HandS.Small
import HandS.ExcIs
import HandS.ExcOwn
import HandS.ExcValue
import HandS.WordsExc
import KE.SortData
import PyProof.ListStr
import PyProof.MaxThree
import KE.GoesEnum
import KE.GoesMore
import KE.GoesZip
import KE.DataMinMax
import PyProof.Rows.RowBridgeK
import HandS.SetFor
import PyProof.StrOps2
import HandS.SetTxt0
import HandS.TupSets
import PyProof.ExcBaseAll.ValueError
import HandS.Text
import PySem.Challenge.RW_slipwords_k72_whole_texts
set_option Elab.async false
set_option linter.all false
set_option maxRecDepth 100000
set_option maxHeartbeats 4000000
namespace SW
variable {α : Type}

/-- one slip; what is put in or changed to has the property P -/
inductive Slip (P : α → Prop) : List α → List α → Prop
  | ins (c : α) (u : List α) (h : P c) : Slip P u (c :: u)
  | del (c : α) (u : List α) : Slip P (c :: u) u
  | chg (c d : α) (u : List α) (h : P d) (n : c ≠ d) : Slip P (c :: u) (d :: u)
  | exc (c d : α) (u : List α) (n : c ≠ d) : Slip P (c :: d :: u) (d :: c :: u)
  | cons (c : α) {u v : List α} (h : Slip P u v) : Slip P (c :: u) (c :: v)

/-- alignments with their cost -/
inductive Al : List α → List α → Nat → Prop
  | nil : Al [] [] 0
  | del {x : α} {u v : List α} {n : Nat} (h : Al u v n) : Al (x :: u) v (n + 1)
  | ins {y : α} {u v : List α} {n : Nat} (h : Al u v n) : Al u (y :: v) (n + 1)
  | same {x : α} {u v : List α} {n : Nat} (h : Al u v n) : Al (x :: u) (x :: v) n
  | sub {x y : α} {u v : List α} {n : Nat} (h : Al u v n) : Al (x :: u) (y :: v) (n + 1)
  | exc {x y : α} {p q u v : List α} {n : Nat} (h : Al u v n) : Al (x :: (p ++ y :: u)) (y :: (q ++ x :: v)) (n + p.length + q.length + 1)

def Le (u v : List α) (n : Nat) : Prop := ∃ m, m ≤ n ∧ Al u v m

theorem Le.mono {u v : List α} {n m : Nat} (h : Le u v n) (k : n ≤ m) : Le u v m := let ⟨a, b, c⟩ := h; ⟨a, Nat.le_trans b k, c⟩
theorem Al.le {u v : List α} {n m : Nat} (h : Al u v n) (k : n ≤ m) : Le u v m := ⟨n, k, h⟩
theorem Le.del {x : α} {u v : List α} {n m : Nat} (h : Le u v n) (k : n + 1 ≤ m) : Le (x :: u) v m := let ⟨_, b, c⟩ := h; ⟨_, by omega, c.del⟩
theorem Le.ins {y : α} {u v : List α} {n m : Nat} (h : Le u v n) (k : n + 1 ≤ m) : Le u (y :: v) m := let ⟨_, b, c⟩ := h; ⟨_, by omega, c.ins⟩
theorem Le.same {x : α} {u v : List α} {n : Nat} (h : Le u v n) : Le (x :: u) (x :: v) n := let ⟨_, b, c⟩ := h; ⟨_, b, c.same⟩
theorem Le.sub {x y : α} {u v : List α} {n m : Nat} (h : Le u v n) (k : n + 1 ≤ m) : Le (x :: u) (y :: v) m := let ⟨_, b, c⟩ := h; ⟨_, by omega, c.sub⟩
theorem Le.exc {x y : α} {p q u v : List α} {n m : Nat} (h : Le u v n) (k : n + p.length + q.length + 1 ≤ m) : Le (x :: (p ++ y :: u)) (y :: (q ++ x :: v)) m :=
  let ⟨_, b, c⟩ := h; ⟨_, by omega, c.exc⟩
theorem Le.dels {u v : List α} {n : Nat} : ∀ (p : List α) {m : Nat}, Le u v n → n + p.length ≤ m → Le (p ++ u) v m
  | [], _, h, k => h.mono (by simpa using k)
  | x :: p, m, h, k => by
    have := Le.dels (m := n + p.length) p h (Nat.le_refl _)
    exact this.del (by simp at k; omega)
theorem Le.inss {u v : List α} {n : Nat} : ∀ (p : List α) {m : Nat}, Le u v n → n + p.length ≤ m → Le u (p ++ v) m
  | [], _, h, k => h.mono (by simpa using k)
  | x :: p, m, h, k => by
    have := Le.inss (m := n + p.length) p h (Nat.le_refl _)
    exact this.ins (by simp at k; omega)
theorem Al.refl : ∀ u : List α, Al u u 0
  | [] => .nil
  | _ :: u => (Al.refl u).same
theorem Al.symm {u v : List α} {n : Nat} (h : Al u v n) : Al v u n := by
  induction h with
  | nil => exact .nil
  | del _ ih => exact ih.ins
  | ins _ ih => exact ih.del
  | same _ ih => exact ih.same
  | sub _ ih => exact ih.sub
  | @exc x y p q u v n _ ih =>
    have := Al.exc (x := y) (y := x) (p := q) (q := p) ih
    have e : n + q.length + p.length + 1 = n + p.length + q.length + 1 := by omega
    rw [e] at this
    exact this
theorem Le.symm {u v : List α} {n : Nat} (h : Le u v n) : Le v u n := let ⟨m, a, b⟩ := h; ⟨m, a, b.symm⟩

/-- what becomes of the first letter of the second string -/
theorem strip {u t : List α} {n : Nat} (h : Al u t n) : ∀ {z : α} {v : List α}, t = z :: v → ∃ p u', u = p ++ u' ∧
    ((∃ k, n = p.length + k + 1 ∧ Al u' v k) ∨ (∃ u'' k, u' = z :: u'' ∧ n = p.length + k ∧ Al u'' v k) ∨ (∃ s u'' k, u' = s :: u'' ∧ n = p.length + k + 1 ∧ Al u'' v k) ∨
      (∃ s r q u'' v'' k, u' = s :: (r ++ z :: u'') ∧ v = q ++ s :: v'' ∧ n = p.length + (k + r.length + q.length + 1) ∧ Al u'' v'' k)) := by
  induction h with
  | nil => intro z v e; cases e
  | @del x u v' n h ih =>
    intro z v e
    obtain ⟨p, u', e1, h1⟩ := ih e
    refine ⟨x :: p, u', by rw [e1]; rfl, ?_⟩
    rcases h1 with ⟨k, a, b⟩ | ⟨u2, k, a, b, c⟩ | ⟨s, u2, k, a, b, c⟩ | ⟨s, r, q, u2, v2, k, a, b, c, d⟩
    · exact .inl ⟨k, by simp; omega, b⟩
    · exact .inr (.inl ⟨u2, k, a, by simp; omega, c⟩)
    · exact .inr (.inr (.inl ⟨s, u2, k, a, by simp; omega, c⟩))
    · exact .inr (.inr (.inr ⟨s, r, q, u2, v2, k, a, b, by simp; omega, d⟩))
  | @ins y u v' n h ih =>
    intro z v e
    cases e
    exact ⟨[], u, rfl, .inl ⟨n, by simp, h⟩⟩
  | @same x u v' n h ih =>
    intro z v e
    cases e
    exact ⟨[], x :: u, rfl, .inr (.inl ⟨u, n, rfl, by simp, h⟩)⟩
  | @sub x y u v' n h ih =>
    intro z v e
    cases e
    exact ⟨[], x :: u, rfl, .inr (.inr (.inl ⟨x, u, n, rfl, by simp, h⟩))⟩
  | @exc x y p q u v' n h ih =>
    intro z v e
    cases e
    exact ⟨[], x :: (p ++ y :: u), rfl, .inr (.inr (.inr ⟨x, p, q, u, v', n, rfl, rfl, by simp, h⟩))⟩

/-- y u to z y v, where u leads to z v -/
theorem swapHead {u v : List α} {z : α} (y : α) {n : Nat} (h : Al u (z :: v) n) : Le (y :: u) (z :: y :: v) (n + 1) := by
  obtain ⟨p, u', rfl, h1⟩ := strip h rfl
  rcases h1 with ⟨k, a, b⟩ | ⟨u2, k, rfl, b, c⟩ | ⟨s, u2, k, rfl, b, c⟩ | ⟨s, r, q, u2, v2, k, rfl, rfl, c, d⟩
  · exact ((b.le (Nat.le_refl k)).dels p (m := k + p.length) (by omega)).same.ins (by omega)
  · exact Le.exc (q := []) (c.le (Nat.le_refl k)) (by simp; omega)
  · exact (((c.le (Nat.le_refl k)).del (x := s) (Nat.le_refl _)).dels p (Nat.le_refl _)).same.ins (by omega)
  · have h1 : Le (r ++ z :: u2) v2 (k + 1 + r.length) := ((d.le (Nat.le_refl k)).del (x := z) (Nat.le_refl _)).dels r (Nat.le_refl _)
    have h2 : Le (s :: (r ++ z :: u2)) (q ++ s :: v2) (k + 1 + r.length + q.length) := (h1.same (x := s)).inss q (Nat.le_refl _)
    exact ((h2.dels p (Nat.le_refl _)).same (x := y)).ins (by omega)

/-- a slip of a string in two parts -/
theorem Slip.cut {P : α → Prop} : ∀ {q t w : List α}, Slip P (q ++ t) w → (∃ q', w = q' ++ t ∧ q'.length ≤ q.length + 1) ∨ (∃ t', w = q ++ t' ∧ Slip P t t') ∨ (∃ q1 a b t1, q = q1 ++ [a] ∧ t = b :: t1 ∧ w = q1 ++ b :: a :: t1)
  | [], t, w, h => .inr (.inl ⟨w, rfl, h⟩)
  | c :: q, t, w, h => by
    generalize e : c :: q ++ t = s at h
    cases h with
    | ins d _ hd => subst e; exact .inl ⟨d :: c :: q, rfl, by simp⟩
    | del d u => cases e; exact .inl ⟨q, rfl, by simp; omega⟩
    | chg d d' u hd n => cases e; exact .inl ⟨d' :: q, rfl, by simp⟩
    | exc d d' u n =>
      simp only [List.cons_append, List.cons.injEq] at e
      obtain ⟨rfl, e⟩ := e
      cases q with
      | nil => exact .inr (.inr ⟨[], c, d', u, rfl, by simpa using e, rfl⟩)
      | cons d2 q2 =>
        simp only [List.cons_append, List.cons.injEq] at e
        obtain ⟨rfl, rfl⟩ := e
        exact .inl ⟨d2 :: c :: q2, rfl, by simp⟩
    | @cons d u v hs =>
      simp only [List.cons_append, List.cons.injEq] at e
      obtain ⟨rfl, rfl⟩ := e
      rcases Slip.cut hs with ⟨q', e1, e2⟩ | ⟨t', e1, e2⟩ | ⟨q1, a, b, t1, e1, e2, e3⟩
      · exact .inl ⟨c :: q', by rw [e1]; rfl, by simp; omega⟩
      · exact .inr (.inl ⟨t', by rw [e1]; rfl, e2⟩)
      · exact .inr (.inr ⟨c :: q1, a, b, t1, by rw [e1]; rfl, e2, by rw [e3]; rfl⟩)

abbrev Slp (u v : List α) : Prop := Slip (fun _ => True) u v
theorem Slip.imp {P R : α → Prop} {u v : List α} (h : Slip P u v) (k : ∀ c, P c → R c) : Slip R u v := by
  induction h with
  | ins c u h => exact .ins c u (k c h)
  | del c u => exact .del c u
  | chg c d u h n => exact .chg c d u (k d h) n
  | exc c d u n => exact .exc c d u n
  | cons c _ ih => exact .cons c ih
theorem Slip.any {P : α → Prop} {u v : List α} (h : Slip P u v) : Slp u v := h.imp fun _ _ => trivial

/-- THE STEP: one slip more costs at most one more -/
theorem lip {u v : List α} {n : Nat} (h : Al u v n) : ∀ {w : List α}, Slp v w → Le u w (n + 1) := by
  induction h with
  | nil =>
    intro w s
    cases s with
    | ins c _ _ => exact (Al.nil.le (Nat.le_refl 0)).ins (by omega)
  | del h ih => intro w s; exact (ih s).del (by omega)
  | @ins y u v n h ih =>
    intro w s
    cases s with
    | ins c _ _ => exact ((h.le (Nat.le_refl _)).ins (Nat.le_refl _)).ins (by omega)
    | del _ _ => exact h.le (by omega)
    | chg _ d _ _ _ => exact (h.le (Nat.le_refl _)).ins (by omega)
    | exc _ d v' _ => exact (ih (w := d :: y :: v') (.cons d (.ins y v' trivial))).mono (by omega)
    | cons _ hs => exact (ih hs).ins (by omega)
  | @same x u v n h ih =>
    intro w s
    cases s with
    | ins c _ _ => exact (h.same.le (Nat.le_refl _)).ins (by omega)
    | del _ _ => exact (h.le (Nat.le_refl _)).del (by omega)
    | chg _ d _ _ _ => exact (h.le (Nat.le_refl _)).sub (by omega)
    | exc _ d v' _ => exact swapHead x h
    | cons _ hs => exact (ih hs).same
  | @sub x y u v n h ih =>
    intro w s
    cases s with
    | ins c _ _ => exact (h.sub.le (Nat.le_refl _)).ins (by omega)
    | del _ _ => exact (h.le (Nat.le_refl _)).del (by omega)
    | chg _ d _ _ _ => exact (h.le (Nat.le_refl _)).sub (by omega)
    | exc _ d v' ne => exact (ih (w := y :: v') (.chg d y v' trivial (Ne.symm ne))).sub (by omega)
    | cons _ hs => exact (ih hs).sub (by omega)
  | @exc x y p q u v n h ih =>
    intro w s
    have hn := h.le (Nat.le_refl n)
    -- y alone stays in its place
    have stay : ∀ {t : List α} {m : Nat}, Le u t m → Le (x :: (p ++ y :: u)) (y :: (q ++ t)) (m + p.length + q.length + 1) := fun {t m} ht =>
      ((((ht.inss q (Nat.le_refl _)).same (x := y)).dels p (Nat.le_refl _)).del (x := x) (Nat.le_refl _)).mono (by omega)
    -- x alone stays in its place
    have stay2 : Le (p ++ y :: u) v (n + 1 + p.length) := (hn.del (x := y) (Nat.le_refl _)).dels p (Nat.le_refl _)
    generalize e : q ++ x :: v = t0 at s
    cases s with
    | ins c _ _ => subst e; exact (Le.exc hn (Nat.le_refl _)).ins (by omega)
    | del _ _ => subst e; exact ((stay2.same (x := x)).inss q (Nat.le_refl _)).mono (by omega)
    | chg _ d _ _ _ => subst e; exact ((stay2.same (x := x)).inss q (Nat.le_refl _)).ins (by omega)
    | exc _ d t' ne =>
      cases q with
      | nil =>
        simp only [List.nil_append, List.cons.injEq] at e
        obtain ⟨rfl, rfl⟩ := e
        exact (((hn.same (x := y)).dels p (Nat.le_refl _)).same (x := x)).mono (by simp only [List.length_nil]; omega)
      | cons z q' =>
        simp only [List.cons_append, List.cons.injEq] at e
        obtain ⟨rfl, rfl⟩ := e
        exact (Le.exc (q := q') hn (Nat.le_refl _)).ins (by simp only [List.length_cons]; omega)
    | @cons _ _ t hs =>
      subst e
      rcases Slip.cut hs with ⟨q', rfl, e2⟩ | ⟨t', rfl, e2⟩ | ⟨q1, a, b, t1, rfl, e2, rfl⟩
      · exact Le.exc (q := q') hn (by omega)
      · cases e2 with
        | ins c _ _ =>
          have := Le.exc (x := x) (y := y) (p := p) (q := q ++ [c]) hn (Nat.le_refl _)
          simp only [List.append_assoc, List.singleton_append] at this
          exact this.mono (by simp; omega)
        | del _ _ => exact (stay hn).mono (by omega)
        | chg _ d _ _ _ => exact (stay (hn.ins (y := d) (Nat.le_refl _))).mono (by omega)
        | exc _ d v' _ => exact (stay (ih (w := d :: x :: v') (.cons d (.ins x v' trivial)))).mono (by omega)
        | cons _ h9 => exact Le.exc (ih h9) (by omega)
      · cases e2
        exact Le.exc (q := q1) (hn.ins (y := a) (Nat.le_refl _)) (by simp; omega)
/-! ### ways -/
inductive Path (P : α → Prop) : List α → List α → Nat → Prop
  | refl (u : List α) : Path P u u 0
  | step {u v w : List α} {n : Nat} (s : Slip P u v) (h : Path P v w n) : Path P u w (n + 1)
theorem Le.slip {u v w : List α} {n : Nat} (h : Le u v n) (s : Slp v w) : Le u w (n + 1) :=
  let ⟨_, a, b⟩ := h; (lip b s).mono (by omega)
theorem Le.refl (u : List α) : Le u u 0 := ⟨0, Nat.le_refl 0, Al.refl u⟩
theorem Slip.symm {P : α → Prop} {u v : List α} (h : Slip P u v) (hu : ∀ c ∈ u, P c) : Slip P v u := by
  induction h with
  | ins c u h => exact .del c u
  | del c u => exact .ins c u (hu c (by simp))
  | chg c d u h n => exact .chg d c u (hu c (by simp)) (Ne.symm n)
  | exc c d u n => exact .exc d c u (Ne.symm n)
  | cons c _ ih => exact .cons c (ih fun x hx => hu x (by simp [hx]))
theorem Slip.sym {u v : List α} (h : Slp u v) : Slp v u := h.symm fun _ _ => trivial
theorem Slip.letters {P : α → Prop} {u v : List α} (h : Slip P u v) (hu : ∀ c ∈ u, P c) : ∀ c ∈ v, P c := by
  induction h with
  | ins c u h => intro x hx; simp at hx; rcases hx with rfl | hx; exact h; exact hu x hx
  | del c u => intro x hx; exact hu x (by simp [hx])
  | chg c d u h n => intro x hx; simp at hx; rcases hx with rfl | hx; exact h; exact hu x (by simp [hx])
  | exc c d u n => intro x hx; simp at hx; exact hu x (by simp; rcases hx with h | h | h <;> simp [h])
  | cons c _ ih => intro x hx; simp at hx; rcases hx with rfl | hx; exact hu x (by simp); exact ih (fun y hy => hu y (by simp [hy])) x hx
theorem Slip.ne {P : α → Prop} {u v : List α} (h : Slip P u v) : u ≠ v := by
  induction h with
  | ins c u h => intro e; have := congrArg List.length e; simp at this
  | del c u => intro e; have := congrArg List.length e; simp at this
  | chg c d u h n => intro e; cases e; exact n rfl
  | exc c d u n => intro e; cases e; exact n rfl
  | cons c _ ih => intro e; cases e; exact ih rfl
theorem Slip.len {P : α → Prop} {u v : List α} (h : Slip P u v) : u.length ≤ v.length + 1 ∧ v.length ≤ u.length + 1 := by
  induction h with
  | ins c u h => simp only [List.length_cons]; omega
  | del c u => simp only [List.length_cons]; omega
  | chg c d u h n => simp only [List.length_cons]; omega
  | exc c d u n => simp only [List.length_cons]; omega
  | cons c _ ih => simp only [List.length_cons]; omega
theorem Path.trans {P : α → Prop} {u v w : List α} {n m : Nat} (h : Path P u v n) (k : Path P v w m) : Path P u w (n + m) := by
  induction h with
  | refl u => rw [Nat.zero_add]; exact k
  | @step _ _ _ n s _ ih => rw [show n + 1 + m = (n + m) + 1 by omega]; exact .step s (ih k)
theorem Path.cons {P : α → Prop} (c : α) {u v : List α} {n : Nat} (h : Path P u v n) : Path P (c :: u) (c :: v) n := by
  induction h with
  | refl u => exact .refl _
  | step s _ ih => exact .step (.cons c s) ih
theorem Path.one {P : α → Prop} {u v : List α} (s : Slip P u v) : Path P u v 1 := .step s (.refl _)
theorem Path.imp {P R : α → Prop} {u v : List α} {n : Nat} (h : Path P u v n) (k : ∀ c, P c → R c) : Path R u v n := by
  induction h with
  | refl u => exact .refl _
  | step s _ ih => exact .step (s.imp k) ih
theorem Le.path {P : α → Prop} {u v : List α} {n : Nat} (h : Path P u v n) : ∀ {t : List α} {m : Nat}, Le t u m → Le t v (m + n) := by
  induction h with
  | refl u => intro t m h; exact h
  | @step _ _ _ n s _ ih => intro t m h; rw [show m + (n + 1) = (m + 1) + n by omega]; exact ih (h.slip s.any)
theorem Path.le {P : α → Prop} {u v : List α} {n : Nat} (h : Path P u v n) : Le u v n := by
  have := Le.path h (Le.refl u)
  rw [Nat.zero_add] at this
  exact this
theorem path_dels {P : α → Prop} : ∀ (p u : List α), Path P (p ++ u) u p.length
  | [], u => .refl u
  | c :: p, u => .step (.del c (p ++ u)) (path_dels p u)
theorem path_inss {P : α → Prop} : ∀ (q u : List α), (∀ c ∈ q, P c) → Path P u (q ++ u) q.length
  | [], u, _ => .refl u
  | c :: q, u, h => (path_inss q u fun x hx => h x (by simp [hx])).trans (.one (.ins c (q ++ u) (h c (by simp))))
/-- an alignment is a way, no longer -/
theorem Al.path {P : α → Prop} {u v : List α} {n : Nat} (h : Al u v n) (hv : ∀ c ∈ v, P c) : ∃ m, m ≤ n ∧ Path P u v m := by
  induction h with
  | nil => exact ⟨0, Nat.le_refl 0, .refl _⟩
  | @del x u v n _ ih =>
    obtain ⟨m, a, b⟩ := ih hv
    exact ⟨m + 1, by omega, .step (.del x u) b⟩
  | @ins y u v n _ ih =>
    obtain ⟨m, a, b⟩ := ih fun c hc => hv c (by simp [hc])
    exact ⟨m + 1, by omega, b.trans (.one (.ins y v (hv y (by simp))))⟩
  | @same x u v n _ ih =>
    obtain ⟨m, a, b⟩ := ih fun c hc => hv c (by simp [hc])
    exact ⟨m, a, b.cons x⟩
  | @sub x y u v n _ ih =>
    obtain ⟨m, a, b⟩ := ih fun c hc => hv c (by simp [hc])
    rcases Classical.em (x = y) with rfl | ne
    · exact ⟨m, by omega, b.cons x⟩
    · exact ⟨m + 1, by omega, .step (.chg x y u (hv y (by simp)) ne) (b.cons y)⟩
  | @exc x y p q u v n _ ih =>
    obtain ⟨m, a, b⟩ := ih fun c hc => hv c (by simp [hc])
    have p1 : Path P (x :: (p ++ y :: u)) (x :: y :: u) p.length := (path_dels p (y :: u)).cons x
    have p3 : Path P (y :: x :: u) (y :: (q ++ x :: u)) q.length := (path_inss q (x :: u) fun c hc => hv c (by simp [hc])).cons y
    have p4 : Path P (y :: (q ++ x :: u)) (y :: (q ++ x :: v)) m := by
      have : ∀ r : List α, Path P (r ++ x :: u) (r ++ x :: v) m := fun r => by
        induction r with
        | nil => exact b.cons x
        | cons c r ih => exact ih.cons c
      exact (this q).cons y
    rcases Classical.em (x = y) with rfl | ne
    · exact ⟨p.length + (q.length + m), by omega, p1.trans (p3.trans p4)⟩
    · exact ⟨p.length + (1 + (q.length + m)), by omega, p1.trans ((Path.one (.exc x y u ne)).trans (p3.trans p4))⟩

/-! ### the fewest slips -/
theorem le_all (u v : List α) : Le u v (u.length + v.length) := by
  have h := (Le.refl ([] : List α)).inss v (m := v.length) (by simp)
  have := h.dels u (m := u.length + v.length) (by omega)
  simpa using this
theorem least (P : Nat → Prop) : ∀ n, P n → ∃ k, P k ∧ ∀ m, P m → k ≤ m := fun n => by
  induction n using Nat.strongRecOn with
  | ind n ih =>
    intro h
    rcases Classical.em (∃ m, m < n ∧ P m) with ⟨m, a, b⟩ | no
    · exact ih m a b
    · exact ⟨n, h, fun m hm => Nat.le_of_not_lt fun l => no ⟨m, l, hm⟩⟩
theorem dist_ex (u v : List α) : ∃ k, Le u v k ∧ ∀ m, Le u v m → k ≤ m := least _ _ (le_all u v)
noncomputable def dist (u v : List α) : Nat := Classical.choose (dist_ex u v)
theorem dist_le (u v : List α) : Le u v (dist u v) := (Classical.choose_spec (dist_ex u v)).1
theorem Le.dist {u v : List α} {n : Nat} (h : Le u v n) : dist u v ≤ n := (Classical.choose_spec (dist_ex u v)).2 n h
theorem le_iff {u v : List α} {n : Nat} : Le u v n ↔ dist u v ≤ n := ⟨Le.dist, fun h => (dist_le u v).mono h⟩
theorem dist_self (u : List α) : dist u u = 0 := Nat.le_zero.mp (Le.refl u).dist
theorem dist_symm (u v : List α) : dist u v = dist v u := Nat.le_antisymm (dist_le v u).symm.dist (dist_le u v).symm.dist
theorem dist_path {P : α → Prop} (u v : List α) (hv : ∀ c ∈ v, P c) : Path P u v (dist u v) := by
  obtain ⟨m, a, b⟩ := dist_le u v
  obtain ⟨k, c, d⟩ := b.path hv
  have := d.le.dist
  have e : k = dist u v := by omega
  rw [e] at d
  exact d
theorem Path.dist {P : α → Prop} {u v : List α} {n : Nat} (h : Path P u v n) : dist u v ≤ n := h.le.dist
theorem dist_tri (u v w : List α) : dist u w ≤ dist u v + dist v w :=
  ((dist_path (P := fun _ => True) u v fun _ _ => trivial).trans (dist_path (P := fun _ => True) v w fun _ _ => trivial)).dist
theorem dist_zero {u v : List α} : dist u v = 0 ↔ u = v := by
  constructor
  · intro h
    have := dist_path (P := fun _ => True) u v fun _ _ => trivial
    rw [h] at this
    cases this
    rfl
  · rintro rfl
    exact dist_self u
theorem slip_dist {P : α → Prop} {u v : List α} (h : Slip P u v) : dist u v = 1 := by
  have h1 := (Path.one h).dist
  have h2 : dist u v ≠ 0 := fun e => h.ne (dist_zero.mp e)
  omega
theorem Path.len {P : α → Prop} {u v : List α} {n : Nat} (h : Path P u v n) : u.length ≤ v.length + n ∧ v.length ≤ u.length + n := by
  induction h with
  | refl => omega
  | step s _ ih => have := s.len; omega
theorem dist_len (u v : List α) : u.length ≤ v.length + dist u v ∧ v.length ≤ u.length + dist u v :=
  (dist_path (P := fun _ => True) u v fun _ _ => trivial).len
theorem le_max : ∀ u v : List α, Le u v (max u.length v.length)
  | [], v => (le_all [] v).mono (by simp)
  | u, [] => (le_all u []).mono (by simp)
  | _ :: u, _ :: v => (le_max u v).sub (by simp only [List.length_cons]; omega)
theorem dist_max (u v : List α) : dist u v ≤ max u.length v.length := (le_max u v).dist
theorem dist_one {P : α → Prop} {u v : List α} (hv : ∀ c ∈ v, P c) : dist u v = 1 ↔ Slip P u v := by
  constructor
  · intro h
    have := dist_path u v hv
    rw [h] at this
    cases this with
    | step s h => cases h; exact s
  · exact slip_dist

/-! ### reversed -/
theorem Slip.pre {P : α → Prop} {u v : List α} (h : Slip P u v) : ∀ p : List α, Slip P (p ++ u) (p ++ v)
  | [] => h
  | c :: p => .cons c (h.pre p)
theorem Slip.app {P : α → Prop} {u v : List α} (h : Slip P u v) (t : List α) : Slip P (u ++ t) (v ++ t) := by
  induction h with
  | ins c u h => exact .ins c _ h
  | del c u => exact .del c _
  | chg c d u h n => exact .chg c d _ h n
  | exc c d u n => exact .exc c d _ n
  | cons c _ ih => exact .cons c ih
theorem Slip.rev {P : α → Prop} {u v : List α} (h : Slip P u v) : Slip P u.reverse v.reverse := by
  induction h with
  | ins c u h =>
    have := (Slip.ins c [] h).pre u.reverse
    simpa using this
  | del c u =>
    have := (Slip.del (P := P) c []).pre u.reverse
    simpa using this
  | chg c d u h n =>
    have := (Slip.chg c d [] h n).pre u.reverse
    simpa using this
  | exc c d u n =>
    have := (Slip.exc (P := P) d c [] (Ne.symm n)).pre u.reverse
    simpa using this
  | cons c _ ih =>
    have := ih.app [c]
    simpa using this
theorem Path.rev {P : α → Prop} {u v : List α} {n : Nat} (h : Path P u v n) : Path P u.reverse v.reverse n := by
  induction h with
  | refl u => exact .refl _
  | step s _ ih => exact .step s.rev ih
theorem dist_rev_le (u v : List α) : dist u.reverse v.reverse ≤ dist u v := (dist_path (P := fun _ => True) u v fun _ _ => trivial).rev.dist
theorem dist_rev (u v : List α) : dist u.reverse v.reverse = dist u v := by
  have h1 := dist_rev_le u v
  have h2 := dist_rev_le u.reverse v.reverse
  simp only [List.reverse_reverse] at h2
  omega
end SW

set_option linter.all false
namespace SW
variable {α : Type} [DecidableEq α]
/-- 1 + the place of the last c; 0 if there is none -/
def lastOcc (c : α) (l : List α) : Nat := match l.reverse.findIdx? (fun x => decide (x = c)) with
  | some k => l.length - k
  | none => 0
theorem lastOcc_nil (c : α) : lastOcc c [] = 0 := rfl
theorem lastOcc_snoc (c x : α) (l : List α) : lastOcc c (l ++ [x]) = if x = c then l.length + 1 else lastOcc c l := by
  unfold lastOcc
  rw [List.reverse_append, List.reverse_singleton, List.singleton_append, List.findIdx?_cons]
  by_cases h : x = c
  · simp [h]
  · rw [if_neg h]
    simp only [h, decide_false, Bool.false_eq_true, if_false]
    cases e : List.findIdx? (fun x => decide (x = c)) l.reverse with
    | none => rfl
    | some k => simp
theorem lastOcc_le (c : α) (l : List α) : lastOcc c l ≤ l.length := by
  unfold lastOcc
  split <;> omega
/-- split at the last c -/
theorem lastOcc_split {c : α} {l : List α} (h : 0 < lastOcc c l) : ∃ p r, l = p ++ c :: r ∧ c ∉ r ∧ lastOcc c l = p.length + 1 := by
  obtain ⟨l', rfl⟩ : ∃ l', l = l'.reverse := ⟨l.reverse, by simp⟩
  induction l' with
  | nil => exact absurd h (by simp [lastOcc_nil])
  | cons x l ih =>
    rw [List.reverse_cons, lastOcc_snoc] at h ⊢
    by_cases e : x = c
    · subst e
      exact ⟨l.reverse, [], by simp, by simp, by simp⟩
    · rw [if_neg e] at h ⊢
      obtain ⟨p, r, e1, e2, e3⟩ := ih h
      exact ⟨p, r ++ [x], by rw [e1]; simp, by simp [e2]; exact fun z => e z.symm, e3⟩
theorem lastOcc_zero {c : α} {l : List α} (h : lastOcc c l = 0) : c ∉ l := by
  obtain ⟨l', rfl⟩ : ∃ l', l = l'.reverse := ⟨l.reverse, by simp⟩
  induction l' with
  | nil => simp
  | cons x l ih =>
    rw [List.reverse_cons, lastOcc_snoc] at h
    by_cases e : x = c
    · rw [if_pos e] at h; omega
    · rw [if_neg e] at h
      rw [List.reverse_cons]
      simp only [List.mem_append, List.mem_singleton, not_or]
      exact ⟨ih h, fun z => e z.symm⟩
/-- the first y is the nearest -/
theorem split_far {y : α} {p r p' r' : List α} (h : p ++ y :: r = p' ++ y :: r') (hn : y ∉ p) : ∃ t, r = t ++ r' ∧ p'.length = p.length + t.length := by
  induction p generalizing p' with
  | nil =>
    cases p' with
    | nil => simp at h; exact ⟨[], by simpa using h, rfl⟩
    | cons a p' =>
      simp at h
      exact ⟨p' ++ [y], by rw [h.2]; simp, by simp⟩
  | cons b p ih =>
    cases p' with
    | nil =>
      simp at h
      exact absurd h.1 (fun z => hn (by simp [z]))
    | cons a p' =>
      simp at h
      obtain ⟨t, e1, e2⟩ := ih h.2 (fun z => hn (by simp [z]))
      exact ⟨t, e1, by simp; omega⟩
theorem dist_step_le {x y : α} {u v : List α} : dist (x :: u) (y :: v) ≤ dist u (y :: v) + 1 ∧ dist (x :: u) (y :: v) ≤ dist (x :: u) v + 1 ∧ dist (x :: u) (y :: v) ≤ dist u v + (if x = y then 0 else 1) := by
  refine ⟨((dist_le u (y :: v)).del (Nat.le_refl _)).dist, ((dist_le (x :: u) v).ins (Nat.le_refl _)).dist, ?_⟩
  by_cases e : x = y
  · subst e
    rw [if_pos rfl]
    exact (dist_le u v).same.dist
  · rw [if_neg e]
    exact ((dist_le u v).sub (Nat.le_refl _)).dist
theorem dist_exc_le {x y : α} {p q u v : List α} : dist (x :: (p ++ y :: u)) (y :: (q ++ x :: v)) ≤ dist u v + p.length + q.length + 1 := ((dist_le u v).exc (Nat.le_refl _)).dist
theorem dist_cons_cases {x y : α} {u v : List α} : (dist (x :: u) (y :: v) = dist u (y :: v) + 1) ∨ (dist (x :: u) (y :: v) = dist (x :: u) v + 1) ∨ (dist (x :: u) (y :: v) = dist u v + (if x = y then 0 else 1)) ∨
    ∃ p q u' v', u = p ++ y :: u' ∧ v = q ++ x :: v' ∧ dist (x :: u) (y :: v) = dist u' v' + p.length + q.length + 1 := by
  obtain ⟨m, hm, h⟩ := dist_le (x :: u) (y :: v)
  have hmin : ∀ k, Le (x :: u) (y :: v) k → dist (x :: u) (y :: v) ≤ k := fun k hk => hk.dist
  have em : dist (x :: u) (y :: v) = m := Nat.le_antisymm (hmin m (h.le (Nat.le_refl _))) hm
  obtain ⟨s1, s2, s3⟩ := dist_step_le (x := x) (y := y) (u := u) (v := v)
  generalize e1 : x :: u = a at h
  generalize e2 : y :: v = b at h
  cases h with
  | nil => cases e1
  | del h =>
    cases e1
    subst e2
    have := (h.le (Nat.le_refl _)).dist
    exact .inl (by omega)
  | ins h =>
    cases e2
    subst e1
    have := (h.le (Nat.le_refl _)).dist
    exact .inr (.inl (by omega))
  | same h =>
    cases e1; cases e2
    have := (h.le (Nat.le_refl _)).dist
    exact .inr (.inr (.inl (by rw [if_pos rfl] at s3 ⊢; omega)))
  | sub h =>
    cases e1; cases e2
    have := (h.le (Nat.le_refl _)).dist
    refine .inr (.inr (.inl ?_))
    by_cases e : x = y
    · rw [if_pos e] at s3 ⊢; omega
    · rw [if_neg e] at s3 ⊢; omega
  | @exc x' y' p q u' v' n h =>
    cases e1; cases e2
    refine .inr (.inr (.inr ⟨p, q, u', v', rfl, rfl, ?_⟩))
    have h1 := (h.le (Nat.le_refl _)).dist
    have h2 := dist_exc_le (x := x) (y := y) (p := p) (q := q) (u := u') (v := v')
    omega
/-- the table's value -/
noncomputable def tab (a b : List α) (i j : Nat) : Nat := dist (a.take i) (b.take j)
theorem dist_nil_l (v : List α) : dist [] v = v.length := by
  have h1 := dist_len ([] : List α) v
  have h2 := dist_max ([] : List α) v
  simp at h1 h2; omega
theorem dist_nil_r (v : List α) : dist v [] = v.length := by rw [dist_symm, dist_nil_l]
theorem tab_zero_l (a b : List α) (j : Nat) (h : j ≤ b.length) : tab a b 0 j = j := by
  unfold tab; rw [List.take_zero, dist_nil_l, List.length_take]; omega
theorem tab_zero_r (a b : List α) (i : Nat) (h : i ≤ a.length) : tab a b i 0 = i := by
  unfold tab; rw [List.take_zero, dist_nil_r, List.length_take]; omega
theorem tab_rev (a b : List α) (i j : Nat) : tab a b i j = dist (a.take i).reverse (b.take j).reverse := (dist_rev _ _).symm
theorem take_rev {a : List α} {i : Nat} {x : α} (h : a[i]? = some x) : (a.take (i + 1)).reverse = x :: (a.take i).reverse := by
  rw [List.take_succ, h]; simp
theorem tab_all (a b : List α) : tab a b a.length b.length = dist a b := by unfold tab; rw [List.take_length, List.take_length]
/-- the split at the last c of a prefix, reversed -/
theorem rev_split {a : List α} {i : Nat} {c : α} (hi : i ≤ a.length) (h : 0 < lastOcc c (a.take i)) : ∃ p, (a.take i).reverse = p ++ c :: (a.take (lastOcc c (a.take i) - 1)).reverse ∧ c ∉ p ∧ p.length + lastOcc c (a.take i) = i := by
  obtain ⟨p, r, e1, e2, e3⟩ := lastOcc_split h
  have hl : (a.take i).length = i := by rw [List.length_take]; omega
  have hp : p = a.take p.length := by
    have : p = (a.take i).take p.length := by rw [e1]; simp
    rw [List.take_take] at this
    rw [e1] at hl
    simp at hl
    rw [Nat.min_eq_left (by omega)] at this
    exact this
  refine ⟨r.reverse, ?_, by simpa using e2, ?_⟩
  · rw [e3, Nat.add_sub_cancel, ← hp]
    conv => lhs; rw [e1]
    simp
  · rw [e1] at hl
    simp at hl ⊢
    omega
theorem tab_step {a b : List α} {i j : Nat} {x y : α} (hx : a[i]? = some x) (hy : b[j]? = some y) :
    tab a b (i + 1) (j + 1) = (let best := min (tab a b i (j + 1) + 1) (min (tab a b (i + 1) j + 1) (tab a b i j + if x = y then 0 else 1))
      let k := lastOcc y (a.take i)
      let m := lastOcc x (b.take j)
      if 0 < k ∧ 0 < m then min best (tab a b (k - 1) (m - 1) + (i + 1 - k) + (j + 1 - m) - 1) else best) := by
  have hi : i < a.length := (List.getElem?_eq_some_iff.mp hx).1
  have hj : j < b.length := (List.getElem?_eq_some_iff.mp hy).1
  simp only [tab_rev]
  rw [take_rev hx, take_rev hy]
  obtain ⟨s1, s2, s3⟩ := dist_step_le (x := x) (y := y) (u := (a.take i).reverse) (v := (b.take j).reverse)
  by_cases hk : 0 < lastOcc y (a.take i) ∧ 0 < lastOcc x (b.take j)
  · rw [if_pos hk]
    obtain ⟨p, ep, np, lp⟩ := rev_split (by omega) hk.1
    obtain ⟨q, eq, nq, lq⟩ := rev_split (by omega) hk.2
    have s4 : dist (x :: (a.take i).reverse) (y :: (b.take j).reverse) ≤ dist (a.take (lastOcc y (a.take i) - 1)).reverse (b.take (lastOcc x (b.take j) - 1)).reverse + p.length + q.length + 1 := by
      conv => lhs; rw [ep, eq]
      exact dist_exc_le
    have low : dist (x :: (a.take i).reverse) (y :: (b.take j).reverse) = dist (a.take i).reverse (y :: (b.take j).reverse) + 1 ∨ dist (x :: (a.take i).reverse) (y :: (b.take j).reverse) = dist (x :: (a.take i).reverse) (b.take j).reverse + 1 ∨
        dist (x :: (a.take i).reverse) (y :: (b.take j).reverse) = dist (a.take i).reverse (b.take j).reverse + (if x = y then 0 else 1) ∨
        dist (a.take (lastOcc y (a.take i) - 1)).reverse (b.take (lastOcc x (b.take j) - 1)).reverse + p.length + q.length + 1 ≤ dist (x :: (a.take i).reverse) (y :: (b.take j).reverse) := by
      rcases dist_cons_cases (x := x) (y := y) (u := (a.take i).reverse) (v := (b.take j).reverse) with h | h | h | ⟨p', q', u', v', e1, e2, h⟩
      · exact .inl h
      · exact .inr (.inl h)
      · exact .inr (.inr (.inl h))
      · refine .inr (.inr (.inr ?_))
        rw [ep] at e1
        rw [eq] at e2
        obtain ⟨t, et, lt⟩ := split_far e1 np
        obtain ⟨r, er, lr⟩ := split_far e2 nq
        rw [h, et, er]
        have := (((dist_le u' v').dels t (Nat.le_refl _)).inss r (Nat.le_refl _)).dist
        omega
    generalize (if x = y then 0 else 1) = e at *
    omega
  · rw [if_neg hk]
    rcases dist_cons_cases (x := x) (y := y) (u := (a.take i).reverse) (v := (b.take j).reverse) with h | h | h | ⟨p', q', u', v', e1, e2, h⟩
    · generalize (if x = y then 0 else 1) = e at *
      omega
    · generalize (if x = y then 0 else 1) = e at *
      omega
    · generalize (if x = y then 0 else 1) = e at *
      omega
    · exfalso
      apply hk
      have h1 : y ∈ a.take i := by rw [← List.mem_reverse, e1]; simp
      have h2 : x ∈ b.take j := by rw [← List.mem_reverse, e2]; simp
      refine ⟨Nat.pos_of_ne_zero fun z => lastOcc_zero z h1, Nat.pos_of_ne_zero fun z => lastOcc_zero z h2⟩
end SW

set_option linter.all false
namespace SW
variable {α : Type} [DecidableEq α]
/-! ### slips without exchanges: alignments without exchange -/
inductive Al0 : List α → List α → Nat → Prop
  | nil : Al0 [] [] 0
  | del {x : α} {u v : List α} {n : Nat} (h : Al0 u v n) : Al0 (x :: u) v (n + 1)
  | ins {y : α} {u v : List α} {n : Nat} (h : Al0 u v n) : Al0 u (y :: v) (n + 1)
  | same {x : α} {u v : List α} {n : Nat} (h : Al0 u v n) : Al0 (x :: u) (x :: v) n
  | sub {x y : α} {u v : List α} {n : Nat} (h : Al0 u v n) : Al0 (x :: u) (y :: v) (n + 1)
theorem Al0.al {u v : List α} {n : Nat} (h : Al0 u v n) : Al u v n := by
  induction h with
  | nil => exact .nil
  | del _ ih => exact ih.del
  | ins _ ih => exact ih.ins
  | same _ ih => exact ih.same
  | sub _ ih => exact ih.sub
theorem Al0.symm {u v : List α} {n : Nat} (h : Al0 u v n) : Al0 v u n := by
  induction h with
  | nil => exact .nil
  | del _ ih => exact ih.ins
  | ins _ ih => exact ih.del
  | same _ ih => exact ih.same
  | sub _ ih => exact ih.sub
theorem Al0.refl : ∀ u : List α, Al0 u u 0
  | [] => .nil
  | _ :: u => (Al0.refl u).same
theorem Al0.dels {u v : List α} {n : Nat} (h : Al0 u v n) : ∀ p : List α, Al0 (p ++ u) v (n + p.length)
  | [] => h
  | x :: p => by
    have := (Al0.dels h p).del (x := x)
    exact this
theorem Al0.inss {u v : List α} {n : Nat} (h : Al0 u v n) : ∀ p : List α, Al0 u (p ++ v) (n + p.length)
  | [] => h
  | x :: p => by
    have := (Al0.inss h p).ins (y := x)
    exact this
theorem Al.al0 {u v : List α} {n : Nat} (h : Al u v n) : ∃ m, m ≤ 2 * n ∧ Al0 u v m := by
  induction h with
  | nil => exact ⟨0, by omega, .nil⟩
  | del _ ih => obtain ⟨m, hm, a⟩ := ih; exact ⟨_, by omega, a.del⟩
  | ins _ ih => obtain ⟨m, hm, a⟩ := ih; exact ⟨_, by omega, a.ins⟩
  | same _ ih => obtain ⟨m, hm, a⟩ := ih; exact ⟨_, hm, a.same⟩
  | sub _ ih => obtain ⟨m, hm, a⟩ := ih; exact ⟨_, by omega, a.sub⟩
  | @exc x y p q u v n _ ih =>
    obtain ⟨m, hm, a⟩ := ih
    have a1 : Al0 u (q ++ x :: v) (m + 1 + q.length) := Al0.inss (a.ins (y := x)) q
    have a2 : Al0 (y :: u) (y :: (q ++ x :: v)) (m + 1 + q.length) := a1.same
    have a3 := (Al0.dels a2 p).del (x := x)
    exact ⟨_, by omega, a3⟩
theorem al0_ex (u v : List α) : ∃ k, Al0 u v k ∧ ∀ m, Al0 u v m → k ≤ m := by
  have h : Al0 u v (v.length + u.length) := by
    have := ((Al0.inss (.nil : Al0 ([] : List α) [] 0) v)).dels u
    simpa using this
  exact least _ _ h
noncomputable def lev (u v : List α) : Nat := Classical.choose (al0_ex u v)
theorem lev_al (u v : List α) : Al0 u v (lev u v) := (Classical.choose_spec (al0_ex u v)).1
theorem lev_le {u v : List α} {n : Nat} (h : Al0 u v n) : lev u v ≤ n := (Classical.choose_spec (al0_ex u v)).2 n h
theorem lev_symm (u v : List α) : lev u v = lev v u := Nat.le_antisymm (lev_le (lev_al v u).symm) (lev_le (lev_al u v).symm)
theorem lev_self (u : List α) : lev u u = 0 := Nat.le_zero.mp (lev_le (Al0.refl u))
theorem dist_lev (u v : List α) : dist u v ≤ lev u v := ((lev_al u v).al.le (Nat.le_refl _)).dist
theorem lev_dist (u v : List α) : lev u v ≤ 2 * dist u v := by
  obtain ⟨m, hm, a⟩ := dist_le u v
  obtain ⟨k, hk, a0⟩ := a.al0
  exact Nat.le_trans (lev_le a0) (by omega)
theorem al0_len {u v : List α} {n : Nat} (h : Al0 u v n) : u.length ≤ v.length + n ∧ v.length ≤ u.length + n := by
  induction h with
  | nil => simp
  | del _ ih => simp; omega
  | ins _ ih => simp; omega
  | same _ ih => simp; omega
  | sub _ ih => simp; omega
theorem lev_nil_l (v : List α) : lev [] v = v.length := by
  have h1 := lev_le (Al0.inss (.nil : Al0 ([] : List α) [] 0) v)
  have h2 := al0_len (lev_al ([] : List α) v)
  simp at h1 h2
  omega
theorem lev_nil_r (v : List α) : lev v [] = v.length := by rw [lev_symm, lev_nil_l]
theorem lev_cons (x y : α) (u v : List α) : lev (x :: u) (y :: v) = min (lev u (y :: v) + 1) (min (lev (x :: u) v + 1) (lev u v + if x = y then 0 else 1)) := by
  have s1 := lev_le ((lev_al u (y :: v)).del (x := x))
  have s2 := lev_le ((lev_al (x :: u) v).ins (y := y))
  have s3 : lev (x :: u) (y :: v) ≤ lev u v + if x = y then 0 else 1 := by
    by_cases e : x = y
    · subst e; rw [if_pos rfl]; exact lev_le (lev_al u v).same
    · rw [if_neg e]; exact lev_le (lev_al u v).sub
  have h := lev_al (x :: u) (y :: v)
  generalize e1 : x :: u = a at h
  generalize e2 : y :: v = b at h
  generalize em : lev a b = m at h
  rw [e1, e2, em] at s1 s2 s3
  have goal : min (lev u b + 1) (min (lev a v + 1) (lev u v + if x = y then 0 else 1)) ≤ m := by
    cases h with
    | nil => cases e1
    | del h => cases e1; have := lev_le h; omega
    | ins h => cases e2; have := lev_le h; omega
    | same h => cases e1; cases e2; have := lev_le h; rw [if_pos rfl]; omega
    | sub h =>
      cases e1; cases e2
      have := lev_le h
      have : (if x = y then 0 else 1) ≤ 1 := by split <;> omega
      omega
  generalize (if x = y then 0 else 1) = e at *
  omega
theorem al0_app {u v : List α} {n : Nat} (h : Al0 u v n) : ∀ {u' v' : List α} {m : Nat}, Al0 u' v' m → Al0 (u ++ u') (v ++ v') (n + m) := by
  induction h with
  | nil => intro u' v' m k; simpa using k
  | @del x u v n _ ih => intro u' v' m k; have := (ih k).del (x := x); rw [show n + 1 + m = n + m + 1 from by omega]; exact this
  | @ins y u v n _ ih => intro u' v' m k; have := (ih k).ins (y := y); rw [show n + 1 + m = n + m + 1 from by omega]; exact this
  | same _ ih => intro u' v' m k; exact (ih k).same
  | @sub x y u v n _ ih => intro u' v' m k; have := (ih k).sub (x := x) (y := y); rw [show n + 1 + m = n + m + 1 from by omega]; exact this
theorem al0_rev {u v : List α} {n : Nat} (h : Al0 u v n) : Al0 u.reverse v.reverse n := by
  induction h with
  | nil => exact .nil
  | @del x u v n _ ih => have := al0_app ih (Al0.nil.del (x := x)); simpa using this
  | @ins y u v n _ ih => have := al0_app ih (Al0.nil.ins (y := y)); simpa using this
  | @same x u v n _ ih => have := al0_app ih (Al0.nil.same (x := x)); simpa using this
  | @sub x y u v n _ ih => have := al0_app ih (Al0.nil.sub (x := x) (y := y)); simpa using this
theorem lev_rev (u v : List α) : lev u.reverse v.reverse = lev u v := by
  have h1 := lev_le (al0_rev (lev_al u v))
  have h2 := lev_le (al0_rev (lev_al u.reverse v.reverse))
  simp at h2
  omega
noncomputable def levT (a b : List α) (i j : Nat) : Nat := lev (a.take i) (b.take j)
theorem levT_rev (a b : List α) (i j : Nat) : levT a b i j = lev (a.take i).reverse (b.take j).reverse := (lev_rev _ _).symm
theorem levT_zero_l (a b : List α) (j : Nat) (h : j ≤ b.length) : levT a b 0 j = j := by
  unfold levT; rw [List.take_zero, lev_nil_l, List.length_take]; omega
theorem levT_zero_r (a b : List α) (i : Nat) (h : i ≤ a.length) : levT a b i 0 = i := by
  unfold levT; rw [List.take_zero, lev_nil_r, List.length_take]; omega
theorem levT_step {a b : List α} {i j : Nat} {x y : α} (hx : a[i]? = some x) (hy : b[j]? = some y) :
    levT a b (i + 1) (j + 1) = min (levT a b i (j + 1) + 1) (min (levT a b (i + 1) j + 1) (levT a b i j + if x = y then 0 else 1)) := by
  simp only [levT_rev]
  rw [take_rev hx, take_rev hy, lev_cons]
theorem levT_all (a b : List α) : levT a b a.length b.length = lev a b := by unfold levT; rw [List.take_length, List.take_length]
/-! ### common parts -/
theorem lcs_ex (u v : List α) : ∃ k, (∃ c : List α, c.Sublist u ∧ c.Sublist v ∧ c.length = k) ∧ ∀ c : List α, c.Sublist u → c.Sublist v → c.length ≤ k := by
  have h : ∃ k, (∃ c : List α, c.Sublist u ∧ c.Sublist v ∧ u.length - c.length = k) ∧ ∀ m, (∃ c : List α, c.Sublist u ∧ c.Sublist v ∧ u.length - c.length = m) → k ≤ m :=
    least _ (u.length - 0) ⟨[], List.nil_sublist _, List.nil_sublist _, rfl⟩
  obtain ⟨k, ⟨c, h1, h2, h3⟩, h4⟩ := h
  refine ⟨c.length, ⟨c, h1, h2, rfl⟩, fun d d1 d2 => ?_⟩
  have := h4 _ ⟨d, d1, d2, rfl⟩
  have := h1.length_le
  have := d1.length_le
  omega
noncomputable def lcs (u v : List α) : Nat := Classical.choose (lcs_ex u v)
theorem lcs_get (u v : List α) : ∃ c : List α, c.Sublist u ∧ c.Sublist v ∧ c.length = lcs u v := (Classical.choose_spec (lcs_ex u v)).1
theorem lcs_ge {u v c : List α} (h1 : c.Sublist u) (h2 : c.Sublist v) : c.length ≤ lcs u v := (Classical.choose_spec (lcs_ex u v)).2 c h1 h2
theorem lcs_symm (u v : List α) : lcs u v = lcs v u := by
  obtain ⟨c, h1, h2, h3⟩ := lcs_get u v
  obtain ⟨d, g1, g2, g3⟩ := lcs_get v u
  have := lcs_ge h2 h1
  have := lcs_ge g2 g1
  omega
theorem lcs_rev (u v : List α) : lcs u.reverse v.reverse = lcs u v := by
  obtain ⟨c, h1, h2, h3⟩ := lcs_get u v
  obtain ⟨d, g1, g2, g3⟩ := lcs_get u.reverse v.reverse
  have a1 := lcs_ge (List.reverse_sublist.mpr h1) (List.reverse_sublist.mpr h2)
  have a2 := lcs_ge (u := u) (v := v) (c := d.reverse) (by have := List.reverse_sublist.mpr g1; simpa using this) (by have := List.reverse_sublist.mpr g2; simpa using this)
  simp at a1 a2
  omega
theorem lcs_nil_l (v : List α) : lcs [] v = 0 := by
  obtain ⟨c, h1, h2, h3⟩ := lcs_get [] v
  have := h1.length_le
  simp at this; rw [this] at h3; simpa using h3.symm
theorem lcs_nil_r (v : List α) : lcs v [] = 0 := by rw [lcs_symm, lcs_nil_l]
theorem lcs_le (u v : List α) : lcs u v ≤ u.length ∧ lcs u v ≤ v.length := by
  obtain ⟨c, h1, h2, h3⟩ := lcs_get u v
  have := h1.length_le
  have := h2.length_le
  omega
theorem lcs_self (u : List α) : lcs u u = u.length := by
  have := lcs_ge (List.Sublist.refl u) (List.Sublist.refl u)
  have := (lcs_le u u).1
  omega
theorem lcs_full {u v : List α} (h1 : lcs u v = u.length) (h2 : lcs u v = v.length) : u = v := by
  obtain ⟨c, a, b, e⟩ := lcs_get u v
  have e1 := a.eq_of_length (by omega)
  have e2 := b.eq_of_length (by omega)
  rw [← e1, ← e2]
theorem lcs_same (x : α) (u v : List α) : lcs (x :: u) (x :: v) = lcs u v + 1 := by
  obtain ⟨c, a, b, e⟩ := lcs_get u v
  have h1 := lcs_ge (a.cons_cons x) (b.cons_cons x)
  obtain ⟨d, g1, g2, g3⟩ := lcs_get (x :: u) (x :: v)
  have h2 : d.length ≤ lcs u v + 1 := by
    have := lcs_ge (u := u) (v := v) (c := d.tail) (by have := g1.tail; simpa using this) (by have := g2.tail; simpa using this)
    simp at this; omega
  simp at h1
  omega
theorem lcs_mono_l (x : α) (u v : List α) : lcs u v ≤ lcs (x :: u) v ∧ lcs (x :: u) v ≤ lcs u v + 1 := by
  obtain ⟨c, a, b, e⟩ := lcs_get u v
  have h1 := lcs_ge (a.cons x) b
  obtain ⟨d, g1, g2, g3⟩ := lcs_get (x :: u) v
  have h2 := lcs_ge (u := u) (v := v) (c := d.tail) (by have := g1.tail; simpa using this) ((List.tail_sublist d).trans g2)
  simp at h2
  omega
theorem lcs_mono_r (x : α) (u v : List α) : lcs u v ≤ lcs u (x :: v) ∧ lcs u (x :: v) ≤ lcs u v + 1 := by
  rw [lcs_symm u v, lcs_symm u (x :: v)]; exact lcs_mono_l x v u
theorem lcs_ne {x y : α} (h : x ≠ y) (u v : List α) : lcs (x :: u) (y :: v) = max (lcs u (y :: v)) (lcs (x :: u) v) := by
  have h1 := (lcs_mono_l x u (y :: v)).1
  have h2 := (lcs_mono_r y (x :: u) v).1
  obtain ⟨d, g1, g2, g3⟩ := lcs_get (x :: u) (y :: v)
  have h3 : lcs (x :: u) (y :: v) ≤ max (lcs u (y :: v)) (lcs (x :: u) v) := by
    cases g1 with
    | cons _ g1 =>
      have := lcs_ge g1 g2
      omega
    | cons_cons _ g1 =>
      cases g2 with
      | cons _ g2 =>
        have := lcs_ge (g1.cons_cons x) g2
        omega
      | cons_cons _ g2 => exact absurd rfl h
  omega
noncomputable def lcsT (a b : List α) (i j : Nat) : Nat := lcs (a.take i) (b.take j)
theorem lcsT_rev (a b : List α) (i j : Nat) : lcsT a b i j = lcs (a.take i).reverse (b.take j).reverse := (lcs_rev _ _).symm
theorem lcsT_zero_l (a b : List α) (j : Nat) : lcsT a b 0 j = 0 := by unfold lcsT; rw [List.take_zero, lcs_nil_l]
theorem lcsT_zero_r (a b : List α) (i : Nat) : lcsT a b i 0 = 0 := by unfold lcsT; rw [List.take_zero, lcs_nil_r]
theorem lcsT_step {a b : List α} {i j : Nat} {x y : α} (hx : a[i]? = some x) (hy : b[j]? = some y) :
    lcsT a b (i + 1) (j + 1) = if x = y then lcsT a b i j + 1 else max (lcsT a b i (j + 1)) (lcsT a b (i + 1) j) := by
  simp only [lcsT_rev]
  rw [take_rev hx, take_rev hy]
  by_cases e : x = y
  · subst e; rw [if_pos rfl, lcs_same]
  · rw [if_neg e, lcs_ne e]
theorem lcsT_all (a b : List α) : lcsT a b a.length b.length = lcs a b := by unfold lcsT; rw [List.take_length, List.take_length]
/-- leaving out and putting in alone -/
noncomputable def indT (a b : List α) (i j : Nat) : Nat := i + j - 2 * lcsT a b i j
theorem lcsT_le (a b : List α) (i j : Nat) : lcsT a b i j ≤ i ∧ lcsT a b i j ≤ j := by
  have := lcs_le (a.take i) (b.take j)
  rw [List.length_take, List.length_take] at this
  unfold lcsT
  omega
theorem indT_step {a b : List α} {i j : Nat} {x y : α} (hx : a[i]? = some x) (hy : b[j]? = some y) :
    indT a b (i + 1) (j + 1) = min (indT a b i j + if x = y then 0 else 2) (min (indT a b i (j + 1) + 1) (indT a b (i + 1) j + 1)) := by
  unfold indT
  rw [lcsT_step hx hy]
  have l1 := lcsT_le a b i j
  have l2 := lcsT_le a b i (j + 1)
  have l3 := lcsT_le a b (i + 1) j
  have m1 : lcsT a b i (j + 1) ≤ lcsT a b i j + 1 ∧ lcsT a b i j ≤ lcsT a b i (j + 1) := by
    simp only [lcsT_rev]; rw [take_rev hy]; have := lcs_mono_r y (a.take i).reverse (b.take j).reverse; omega
  have m2 : lcsT a b (i + 1) j ≤ lcsT a b i j + 1 ∧ lcsT a b i j ≤ lcsT a b (i + 1) j := by
    simp only [lcsT_rev]; rw [take_rev hx]; have := lcs_mono_l x (a.take i).reverse (b.take j).reverse; omega
  by_cases e : x = y
  · rw [if_pos e, if_pos e]; omega
  · rw [if_neg e, if_neg e]; omega
/-- places that differ -/
def ham : List α → List α → Nat
  | x :: u, y :: v => (if x = y then 0 else 1) + ham u v
  | _, _ => 0
theorem ham_al0 : ∀ {u v : List α}, u.length = v.length → Al0 u v (ham u v)
  | [], [], _ => .nil
  | x :: u, y :: v, h => by
    have ih := ham_al0 (u := u) (v := v) (by simpa using h)
    unfold ham
    by_cases e : x = y
    · subst e; rw [if_pos rfl, Nat.zero_add]; exact ih.same
    · rw [if_neg e, Nat.add_comm]; exact ih.sub
  | [], _ :: _, h => by simp at h
  | _ :: _, [], h => by simp at h
theorem lev_ham {u v : List α} (h : u.length = v.length) : lev u v ≤ ham u v := lev_le (ham_al0 h)
theorem ham_symm : ∀ u v : List α, ham u v = ham v u
  | [], [] => rfl
  | [], _ :: _ => rfl
  | _ :: _, [] => rfl
  | x :: u, y :: v => by
    unfold ham
    rw [ham_symm u v]
    by_cases e : x = y
    · subst e; rfl
    · rw [if_neg e, if_neg (Ne.symm e)]
theorem ham_self : ∀ u : List α, ham u u = 0
  | [] => rfl
  | x :: u => by unfold ham; rw [if_pos rfl, ham_self u]
/-- by places -/
theorem ham_count : ∀ u v : List α, u.length = v.length → ((List.range u.length).filter fun k => !decide (u[k]? = v[k]?)).length = ham u v
  | [], [], _ => rfl
  | x :: u, y :: v, h => by
    have ih := ham_count u v (by simpa using h)
    rw [List.length_cons, List.range_succ_eq_map, List.filter_cons]
    unfold ham
    have e2 : ((List.map Nat.succ (List.range u.length)).filter fun k => !decide ((x :: u)[k]? = (y :: v)[k]?)).length = ham u v := by
      rw [List.filter_map, List.length_map]
      exact ih
    by_cases e : x = y
    · subst e
      simp only [List.getElem?_cons_zero, decide_true, Bool.not_true, Bool.false_eq_true, if_false, if_true]
      rw [e2]; omega
    · have : ¬ (some x = some y) := fun z => e (Option.some.inj z)
      simp only [List.getElem?_cons_zero, this, decide_false, Bool.not_false, if_true, e, if_false, List.length_cons]
      rw [e2]; omega
  | [], _ :: _, h => by simp at h
  | _ :: _, [], h => by simp at h
end SW

set_option linter.all false
namespace SW
variable {α : Type} [DecidableEq α]
/-! ### words put together -/
theorem dist_dels (p u v : List α) : dist (p ++ u) v ≤ dist u v + p.length := ((dist_le u v).dels p (Nat.le_refl _)).dist
theorem dist_undels (p u v : List α) : dist u v ≤ dist (p ++ u) v + p.length := by
  have h1 := dist_tri u (p ++ u) v
  have h2 : dist u (p ++ u) ≤ p.length := by
    have := ((dist_le u u).inss p (Nat.le_refl _)).dist
    rw [dist_self] at this
    omega
  omega
theorem dist_uninss (p u v : List α) : dist u v ≤ dist u (p ++ v) + p.length := by rw [dist_symm u v, dist_symm u (p ++ v)]; exact dist_undels p v u
theorem dist_inss (p u v : List α) : dist u (p ++ v) ≤ dist u v + p.length := by rw [dist_symm u v, dist_symm u (p ++ v)]; exact dist_dels p v u
theorem dist_same (c : α) (u v : List α) : dist (c :: u) (c :: v) = dist u v := by
  have h0 : dist (c :: u) (c :: v) ≤ dist u v := (dist_le u v).same.dist
  have h1 : dist u v ≤ dist (c :: u) (c :: v) := by
    rcases dist_cons_cases (x := c) (y := c) (u := u) (v := v) with h | h | h | ⟨p, q, u', v', e1, e2, h⟩
    · have := dist_uninss [c] u v
      simp at this
      omega
    · have := dist_undels [c] u v
      simp at this
      omega
    · rw [if_pos rfl] at h; omega
    · rw [h, e1, e2]
      have a1 := dist_dels p (c :: u') (q ++ c :: v')
      have a2 := dist_inss q (c :: u') (c :: v')
      have a3 : dist (c :: u') (c :: v') ≤ dist u' v' := (dist_le u' v').same.dist
      omega
  omega
theorem dist_pre : ∀ (p u v : List α), dist (p ++ u) (p ++ v) = dist u v
  | [], u, v => rfl
  | c :: p, u, v => by
    show dist (c :: (p ++ u)) (c :: (p ++ v)) = _
    rw [dist_same, dist_pre p u v]
theorem dist_suf (p u v : List α) : dist (u ++ p) (v ++ p) = dist u v := by
  rw [← dist_rev, List.reverse_append, List.reverse_append, dist_pre, dist_rev]
theorem dist_cat (a b c d : List α) : dist (a ++ c) (b ++ d) ≤ dist a b + dist c d := by
  have h := dist_tri (a ++ c) (b ++ c) (b ++ d)
  rw [dist_suf, dist_pre] at h
  exact h
theorem lcs_cat (a b c d : List α) : lcs a b + lcs c d ≤ lcs (a ++ c) (b ++ d) := by
  obtain ⟨x, h1, h2, h3⟩ := lcs_get a b
  obtain ⟨y, g1, g2, g3⟩ := lcs_get c d
  have := lcs_ge (h1.append g1) (h2.append g2)
  rw [List.length_append] at this
  omega
theorem al0_sub {u v : List α} (h : v.Sublist u) : Al0 u v (u.length - v.length) := by
  induction h with
  | slnil => exact .nil
  | @cons l1 l2 a h ih =>
    have := ih.del (x := a)
    have hl := h.length_le
    rw [List.length_cons, show l2.length + 1 - l1.length = l2.length - l1.length + 1 by omega]
    exact this
  | @cons_cons l1 l2 a h ih =>
    have := ih.same (x := a)
    rw [List.length_cons, List.length_cons, Nat.add_sub_add_right]
    exact this
theorem dist_sub {u v : List α} (h : v.Sublist u) : dist u v = u.length - v.length := by
  have h1 := ((al0_sub h).al.le (Nat.le_refl _)).dist
  have h2 := dist_len u v
  omega
theorem lev_sub {u v : List α} (h : v.Sublist u) : lev v u = u.length - v.length := by
  have h1 := lev_le (al0_sub h).symm
  have h2 := al0_len (lev_al v u)
  omega
theorem lcs_sub {u v : List α} (h : v.Sublist u) : lcs u v = v.length := by
  have h1 := lcs_ge h (List.Sublist.refl v)
  have h2 := lcs_le u v
  omega
/-! ### renamed words -/
theorem Al.map {β : Type} (f : α → β) {u v : List α} {n : Nat} (h : Al u v n) : Al (u.map f) (v.map f) n := by
  induction h with
  | nil => exact .nil
  | del _ ih => exact ih.del
  | ins _ ih => exact ih.ins
  | same _ ih => exact ih.same
  | sub _ ih => exact ih.sub
  | @exc x y p q u v n _ ih =>
    have := Al.exc (x := f x) (y := f y) (p := p.map f) (q := q.map f) ih
    simp only [List.length_map] at this
    simpa using this
theorem dist_map_le (f : α → α) (u v : List α) : dist (u.map f) (v.map f) ≤ dist u v := by
  obtain ⟨m, hm, h⟩ := dist_le u v
  exact Nat.le_trans ((h.map f).le (Nat.le_refl _)).dist hm
theorem dist_map (f g : α → α) (hg : ∀ x, g (f x) = x) (u v : List α) : dist (u.map f) (v.map f) = dist u v := by
  have h1 := dist_map_le f u v
  have h2 := dist_map_le g (u.map f) (v.map f)
  have e : ∀ w : List α, (w.map f).map g = w := fun w => by
    rw [List.map_map]
    have : g ∘ f = id := by funext x; exact hg x
    rw [this, List.map_id]
  rw [e, e] at h2
  omega
/-! ### known words: a count by steps -/
def distF : Nat → List α → List α → Nat
  | _, [], v => v.length
  | _, u, [] => u.length
  | 0, _, _ => 0
  | n + 1, x :: u, y :: v =>
    let best := min (distF n u (y :: v) + 1) (min (distF n (x :: u) v + 1) (distF n u v + if x = y then 0 else 1))
    match u.findIdx? (fun z => decide (z = y)), v.findIdx? (fun z => decide (z = x)) with
    | some k, some m => min best (distF n (u.drop (k + 1)) (v.drop (m + 1)) + k + m + 1)
    | _, _ => best
theorem find_split {y : α} : ∀ {u : List α} {k : Nat}, u.findIdx? (fun z => decide (z = y)) = some k → ∃ p, u = p ++ y :: u.drop (k + 1) ∧ y ∉ p ∧ p.length = k
  | [], k, h => by simp at h
  | a :: u, k, h => by
    rw [List.findIdx?_cons] at h
    by_cases e : a = y
    · subst e
      simp at h
      subst h
      exact ⟨[], by simp, by simp, rfl⟩
    · simp only [e, decide_false, Bool.false_eq_true, if_false] at h
      obtain ⟨j, hj, rfl⟩ := Option.map_eq_some_iff.mp h
      obtain ⟨p, e1, e2, e3⟩ := find_split hj
      refine ⟨a :: p, ?_, by simp [e2]; exact fun z => e z.symm, by simp [e3]⟩
      conv => lhs; rw [e1]
      rfl
theorem find_none {y : α} {u : List α} (h : u.findIdx? (fun z => decide (z = y)) = none) : y ∉ u := by
  rw [List.findIdx?_eq_none_iff] at h
  intro hy
  have := h y hy
  simp at this
theorem distF_ok : ∀ (n : Nat) (u v : List α), u.length + v.length ≤ n → distF n u v = dist u v
  | n, [], v, _ => by rw [dist_nil_l]; cases n <;> rfl
  | n, x :: u, [], _ => by rw [dist_nil_r]; cases n <;> rfl
  | 0, x :: u, y :: v, h => by simp at h
  | n + 1, x :: u, y :: v, h => by
    simp at h
    have r1 := distF_ok n u (y :: v) (by simp; omega)
    have r2 := distF_ok n (x :: u) v (by simp; omega)
    have r3 := distF_ok n u v (by omega)
    obtain ⟨s1, s2, s3⟩ := dist_step_le (x := x) (y := y) (u := u) (v := v)
    show (match u.findIdx? (fun z => decide (z = y)), v.findIdx? (fun z => decide (z = x)) with
      | some k, some m => min (min (distF n u (y :: v) + 1) (min (distF n (x :: u) v + 1) (distF n u v + if x = y then 0 else 1))) (distF n (u.drop (k + 1)) (v.drop (m + 1)) + k + m + 1)
      | _, _ => min (distF n u (y :: v) + 1) (min (distF n (x :: u) v + 1) (distF n u v + if x = y then 0 else 1))) = _
    rw [r1, r2, r3]
    have cases4 := dist_cons_cases (x := x) (y := y) (u := u) (v := v)
    cases hk : u.findIdx? (fun z => decide (z = y)) with
    | none =>
      have hn := find_none hk
      simp only
      rcases cases4 with h | h | h | ⟨p, q, u', v', e1, e2, h⟩
      · generalize (if x = y then 0 else 1) = e at *; omega
      · generalize (if x = y then 0 else 1) = e at *; omega
      · generalize (if x = y then 0 else 1) = e at *; omega
      · exact absurd (by rw [e1]; simp) hn
    | some k =>
      cases hm : v.findIdx? (fun z => decide (z = x)) with
      | none =>
        have hn := find_none hm
        simp only
        rcases cases4 with h | h | h | ⟨p, q, u', v', e1, e2, h⟩
        · generalize (if x = y then 0 else 1) = e at *; omega
        · generalize (if x = y then 0 else 1) = e at *; omega
        · generalize (if x = y then 0 else 1) = e at *; omega
        · exact absurd (by rw [e2]; simp) hn
      | some m =>
        simp only
        obtain ⟨p0, f1, f2, f3⟩ := find_split hk
        obtain ⟨q0, g1, g2, g3⟩ := find_split hm
        rw [distF_ok n (u.drop (k + 1)) (v.drop (m + 1)) (by simp; omega)]
        have s4 : dist (x :: u) (y :: v) ≤ dist (u.drop (k + 1)) (v.drop (m + 1)) + k + m + 1 := by
          have := dist_exc_le (x := x) (y := y) (p := p0) (q := q0) (u := u.drop (k + 1)) (v := v.drop (m + 1))
          rw [← f1, ← g1, f3, g3] at this
          exact this
        rcases cases4 with h | h | h | ⟨p, q, u', v', e1, e2, h⟩
        · generalize (if x = y then 0 else 1) = e at *; omega
        · generalize (if x = y then 0 else 1) = e at *; omega
        · generalize (if x = y then 0 else 1) = e at *; omega
        · have e1' := f1.symm.trans e1
          have e2' := g1.symm.trans e2
          obtain ⟨t, et, lt⟩ := split_far e1' f2
          obtain ⟨r, er, lr⟩ := split_far e2' g2
          have := (((dist_le u' v').dels t (Nat.le_refl _)).inss r (Nat.le_refl _)).dist
          rw [← et, ← er] at this
          generalize (if x = y then 0 else 1) = e at *
          omega
theorem dist_known (u v : List α) (n : Nat) (h : distF (u.length + v.length) u v = n) : dist u v = n := by rw [← h, distF_ok _ _ _ (Nat.le_refl _)]
def levF : Nat → List α → List α → Nat
  | _, [], v => v.length
  | _, u, [] => u.length
  | 0, _, _ => 0
  | n + 1, x :: u, y :: v => min (levF n u (y :: v) + 1) (min (levF n (x :: u) v + 1) (levF n u v + if x = y then 0 else 1))
theorem levF_ok : ∀ (n : Nat) (u v : List α), u.length + v.length ≤ n → levF n u v = lev u v
  | n, [], v, _ => by rw [lev_nil_l]; cases n <;> rfl
  | n, x :: u, [], _ => by rw [lev_nil_r]; cases n <;> rfl
  | 0, x :: u, y :: v, h => by simp at h
  | n + 1, x :: u, y :: v, h => by
    simp at h
    show min (levF n u (y :: v) + 1) (min (levF n (x :: u) v + 1) (levF n u v + if x = y then 0 else 1)) = _
    rw [levF_ok n u (y :: v) (by simp; omega), levF_ok n (x :: u) v (by simp; omega), levF_ok n u v (by omega), lev_cons]
theorem lev_known (u v : List α) (n : Nat) (h : levF (u.length + v.length) u v = n) : lev u v = n := by rw [← h, levF_ok _ _ _ (Nat.le_refl _)]
/-! ### a word and its reverse differ at an even number of places -/
theorem ham_app : ∀ (u v u' v' : List α), u.length = v.length → ham (u ++ u') (v ++ v') = ham u v + ham u' v'
  | [], [], u', v', _ => by simp [ham]
  | x :: u, y :: v, u', v', h => by
    show (if x = y then 0 else 1) + ham (u ++ u') (v ++ v') = _
    rw [ham_app u v u' v' (by simpa using h)]
    show _ = (if x = y then 0 else 1) + ham u v + ham u' v'
    omega
  | [], _ :: _, _, _, h => by simp at h
  | _ :: _, [], _, _, h => by simp at h
theorem ham_rev_even : ∀ (n : Nat) (w : List α), w.length ≤ n → ham w w.reverse % 2 = 0
  | _, [], _ => rfl
  | _, [x], _ => by simp [ham]
  | 0, x :: y :: r, h => by simp at h
  | n + 1, x :: y :: r, h => by
    obtain ⟨m, z, e⟩ : ∃ m z, y :: r = m ++ [z] := ⟨(y :: r).dropLast, (y :: r).getLast (by simp), (List.dropLast_concat_getLast (by simp)).symm⟩
    rw [e]
    have hl : m.length ≤ n := by
      have := congrArg List.length e
      simp at this h
      omega
    have ih := ham_rev_even n m hl
    have er : (x :: (m ++ [z])).reverse = z :: (m.reverse ++ [x]) := by simp
    rw [er]
    show ((if x = z then 0 else 1) + ham (m ++ [z]) (m.reverse ++ [x])) % 2 = 0
    rw [ham_app m m.reverse [z] [x] (by simp)]
    show ((if x = z then 0 else 1) + (ham m m.reverse + ((if z = x then 0 else 1) + 0))) % 2 = 0
    by_cases q : x = z
    · subst q; simp; exact ih
    · rw [if_neg q, if_neg (fun z' => q z'.symm)]
      omega
end SW

set_option autoImplicit false
namespace SW

abbrev Wd := List Nat
def isLet (c : Nat) : Bool := decide (c ∈ [97, 98, 99, 100])
def L (c : Nat) : Prop := isLet c = true
def LetAll (w : Wd) : Prop := ∀ c ∈ w, L c
theorem L_iff {c : Nat} : L c ↔ c ∈ [97, 98, 99, 100] := by unfold L isLet; exact decide_eq_true_iff
theorem letAll_all {w : Wd} : w.all isLet = true ↔ LetAll w := by unfold LetAll L; exact List.all_eq_true
theorem LetAll.app {a b : Wd} (h : LetAll a) (k : LetAll b) : LetAll (a ++ b) := fun c hc => (List.mem_append.mp hc).elim (h c) (k c)
theorem LetAll.take {a : Wd} (h : LetAll a) (n : Nat) : LetAll (a.take n) := fun c hc => h c (List.mem_of_mem_take hc)
theorem LetAll.drop {a : Wd} (h : LetAll a) (n : Nat) : LetAll (a.drop n) := fun c hc => h c (List.mem_of_mem_drop hc)
theorem LetAll.nil : LetAll [] := fun c hc => by cases hc

/-- the strings that are made at a place -/
def Cd (w : Wd) (i : Nat) (x : Wd) : Prop :=
  (∃ c, L c ∧ x = w.take i ++ c :: w.drop i) ∨ (i < w.length ∧ ∃ c, L c ∧ x = w.take i ++ c :: w.drop (i + 1)) ∨ (i < w.length ∧ x = w.take i ++ w.drop (i + 1)) ∨
  (∃ a b, w[i]? = some a ∧ w[i + 1]? = some b ∧ x = w.take i ++ b :: a :: w.drop (i + 2))
theorem cd_cons {c : Nat} {w x : Wd} {i : Nat} (h : Cd w i x) : Cd (c :: w) (i + 1) (c :: x) := by
  rcases h with ⟨d, hd, rfl⟩ | ⟨hi, d, hd, rfl⟩ | ⟨hi, rfl⟩ | ⟨a, b, ha, hb, rfl⟩
  · exact .inl ⟨d, hd, rfl⟩
  · exact .inr (.inl ⟨by simpa using hi, d, hd, rfl⟩)
  · exact .inr (.inr (.inl ⟨by simpa using hi, rfl⟩))
  · exact .inr (.inr (.inr ⟨a, b, by simpa using ha, by simpa using hb, rfl⟩))
theorem cd_uncons {c : Nat} {w x : Wd} {i : Nat} (h : Cd (c :: w) (i + 1) x) : ∃ y, x = c :: y ∧ Cd w i y := by
  rcases h with ⟨d, hd, rfl⟩ | ⟨hi, d, hd, rfl⟩ | ⟨hi, rfl⟩ | ⟨a, b, ha, hb, rfl⟩
  · exact ⟨_, rfl, .inl ⟨d, hd, rfl⟩⟩
  · exact ⟨_, rfl, .inr (.inl ⟨by simpa using hi, d, hd, rfl⟩)⟩
  · exact ⟨_, rfl, .inr (.inr (.inl ⟨by simpa using hi, rfl⟩))⟩
  · exact ⟨_, rfl, .inr (.inr (.inr ⟨a, b, by simpa using ha, by simpa using hb, rfl⟩))⟩
theorem slip_cd {w x : Wd} (h : Slip L w x) : ∃ i, i ≤ w.length ∧ Cd w i x := by
  induction h with
  | ins c u h => exact ⟨0, Nat.zero_le _, .inl ⟨c, h, rfl⟩⟩
  | del c u => exact ⟨0, Nat.zero_le _, .inr (.inr (.inl ⟨by simp, rfl⟩))⟩
  | chg c d u h n => exact ⟨0, Nat.zero_le _, .inr (.inl ⟨by simp, d, h, rfl⟩)⟩
  | exc c d u n => exact ⟨0, Nat.zero_le _, .inr (.inr (.inr ⟨c, d, rfl, rfl, rfl⟩))⟩
  | cons c _ ih =>
    obtain ⟨i, h1, h2⟩ := ih
    exact ⟨i + 1, by simpa using h1, cd_cons h2⟩
theorem cd_slip : ∀ {w x : Wd} {i : Nat}, LetAll w → Cd w i x → x ≠ w → Slip L w x
  | w, x, 0, hw, h, ne => by
    rcases h with ⟨d, hd, rfl⟩ | ⟨hi, d, hd, rfl⟩ | ⟨hi, rfl⟩ | ⟨a, b, ha, hb, rfl⟩
    · exact .ins d w hd
    · cases w with
      | nil => simp at hi
      | cons c u =>
        have : c ≠ d := fun e => ne (by rw [e]; rfl)
        exact .chg c d u hd this
    · cases w with
      | nil => simp at hi
      | cons c u => exact .del c u
    · match w, ha, hb with
      | c :: d :: u, ha, hb =>
        simp at ha hb
        subst ha hb
        have : c ≠ d := fun e => ne (by rw [e]; rfl)
        exact .exc c d u this
  | [], x, i + 1, hw, h, ne => by
    rcases h with ⟨d, hd, rfl⟩ | ⟨hi, d, hd, rfl⟩ | ⟨hi, rfl⟩ | ⟨a, b, ha, hb, rfl⟩
    · exact .ins d [] hd
    · simp at hi
    · simp at hi
    · simp at ha
  | c :: w, x, i + 1, hw, h, ne => by
    obtain ⟨y, rfl, hy⟩ := cd_uncons h
    exact .cons c (cd_slip (fun d hd => hw d (by simp [hd])) hy fun e => ne (by rw [e]))

/-- the ascending list of all that one slip leads to -/
def Nx (w : Wd) (l : List Wd) : Prop := (∀ x, x ∈ l ↔ Slip L w x) ∧ l.Pairwise (· < ·)
/-! ### ascending lists of texts -/
theorem wlt_irrefl (a : Wd) : ¬ a < a := List.lt_irrefl a
theorem wlt_trans {a b c : Wd} (h : a < b) (k : b < c) : a < c := List.lt_trans h k
theorem asc_unique : ∀ {l m : List Wd}, l.Pairwise (· < ·) → m.Pairwise (· < ·) → (∀ x, x ∈ l ↔ x ∈ m) → l = m
  | [], [], _, _, _ => rfl
  | [], y :: m, _, _, h => by have := (h y).mpr (by simp); cases this
  | x :: l, [], _, _, h => by have := (h x).mp (by simp); cases this
  | x :: l, y :: m, hl, hm, h => by
    have hl' := List.pairwise_cons.mp hl
    have hm' := List.pairwise_cons.mp hm
    have e : x = y := by
      rcases List.mem_cons.mp ((h x).mp (by simp)) with e | hx
      · exact e
      · rcases List.mem_cons.mp ((h y).mpr (by simp)) with e | hy
        · exact e.symm
        · exact absurd (wlt_trans (hm'.1 x hx) (hl'.1 y hy)) (wlt_irrefl _)
    subst e
    congr 1
    refine asc_unique hl'.2 hm'.2 fun z => ⟨fun hz => ?_, fun hz => ?_⟩
    · rcases List.mem_cons.mp ((h z).mp (by simp [hz])) with e | q
      · subst e; exact absurd (hl'.1 z hz) (wlt_irrefl _)
      · exact q
    · rcases List.mem_cons.mp ((h z).mpr (by simp [hz])) with e | q
      · subst e; exact absurd (hm'.1 z hz) (wlt_irrefl _)
      · exact q
/-- texts sorted -/
def srt (l : List Wd) : List Wd := l.mergeSort fun a b => decide (a ≤ b)
theorem wle_total (a b : Wd) : (decide (a ≤ b) || decide (b ≤ a)) = true := by
  rcases List.le_total a b with h | h <;> simp [h]
theorem wle_trans (a b c : Wd) (h : decide (a ≤ b) = true) (k : decide (b ≤ c) = true) : decide (a ≤ c) = true := by
  simp at h k ⊢
  exact List.le_trans h k
theorem srt_mem {l : List Wd} {x : Wd} : x ∈ srt l ↔ x ∈ l := List.mem_mergeSort
theorem srt_le (l : List Wd) : (srt l).Pairwise (· ≤ ·) := by
  have := List.pairwise_mergeSort (le := fun a b : Wd => decide (a ≤ b)) wle_trans wle_total l
  exact this.imp fun h => by simpa using h
theorem srt_asc {l : List Wd} (h : l.Nodup) : (srt l).Pairwise (· < ·) := by
  have n : (srt l).Nodup := (List.mergeSort_perm l _).nodup_iff.mpr h
  have p := srt_le l
  unfold List.Nodup at n
  refine (p.and n).imp fun {a b} ⟨h1, h2⟩ => ?_
  by_cases h : a < b
  · exact h
  · exact absurd (List.le_antisymm h1 (List.not_lt.mp h)) h2
/-- keys put in, once each -/
def addK (ks : List Wd) (x : Wd) : List Wd := if x ∈ ks then ks else ks ++ [x]
theorem mem_addK {ks : List Wd} {x y : Wd} : y ∈ addK ks x ↔ y ∈ ks ∨ y = x := by
  unfold addK
  split
  · rename_i h
    constructor
    · exact fun q => .inl q
    · rintro (q | q)
      · exact q
      · subst q; exact h
  · simp
theorem nodup_addK {ks : List Wd} {x : Wd} (h : ks.Nodup) : (addK ks x).Nodup := by
  unfold addK
  split
  · exact h
  · rename_i n
    rw [List.nodup_append]
    refine ⟨h, by simp, fun a ha b hb => ?_⟩
    simp at hb
    subst hb
    exact fun e => n (e ▸ ha)
theorem len_addK (ks : List Wd) (x : Wd) : (addK ks x).length ≤ ks.length + 1 := by
  unfold addK
  split <;> simp
end SW

set_option Elab.async false
set_option linter.all false
set_option maxRecDepth 100000
set_option maxHeartbeats 2000000
set_option autoImplicit false
/-! The data layer: readings over plain data in the place of heaps. -/
namespace DL
open PySem L2

abbrev D := PyData
/-- a text by its codes -/
def T (w : List Nat) : Str := ⟨w.toArray⟩
theorem T_inj {a b : List Nat} : T a = T b ↔ a = b := by
  constructor
  · intro h
    have := congrArg (fun z : Str => z.cps.toList) h
    simpa [T] using this
  · rintro rfl; rfl
theorem T_surj (z : Str) : T z.cps.toList = z := by cases z; rfl
theorem T_len (w : List Nat) : (T w).length = w.length := rfl

/-! ### representation -/
section
variable {K : PySem.W.Frag} {H H' : Hp}
theorem Same.rd {a : Addr} {u : HO} (e : Same H H') (h : Rd H a u) : Rd H' a u := by
  rcases h with h | ⟨o, h⟩
  · exact .inl (e _ _ h)
  · exact .inr ⟨o, e _ _ h⟩
theorem Same.sqT {a : Addr} {xs : List V} (e : Same H H') (h : SqT K H a xs) : SqT K H' a xs := by
  rcases h with h | h
  · exact .inl (Same.rd e h)
  · exact .inr h
mutual
theorem dp_same (e : Same H H') : ∀ {v : V} {d : D}, Dp K H v d → Dp K H' v d
  | _, _, .non => .non
  | _, _, .bl b => .bl b
  | _, _, .int i => .int i
  | _, _, .str x => .str x
  | _, _, .lst h ha => .lst (e.seq h) (dpAll_same e ha)
  | _, _, .tup h ha => .tup (Same.sqT e h) (dpAll_same e ha)
theorem dpAll_same (e : Same H H') : ∀ {vs : List V} {ds : List D}, DpAll K H vs ds → DpAll K H' vs ds
  | _, _, .nil => .nil
  | _, _, .cons h ha => .cons (dp_same e h) (dpAll_same e ha)
end
theorem DpAll.length : ∀ {vs : List V} {ds : List D}, DpAll K H vs ds → vs.length = ds.length
  | _, _, .nil => rfl
  | _, _, .cons _ ha => by simp [DpAll.length ha]
theorem DpAll.get : ∀ {vs : List V} {ds : List D} {i : Nat} {d : D}, DpAll K H vs ds → ds[i]? = some d → ∃ v, vs[i]? = some v ∧ Dp K H v d
  | _, _, _, _, .nil, e => by simp at e
  | _, _, 0, _, .cons h _, e => by simp at e; subst e; exact ⟨_, rfl, h⟩
  | _, _, i + 1, d, .cons _ ha, e => by
    obtain ⟨u, h1, h2⟩ := DpAll.get (i := i) (d := d) ha (by simpa using e)
    exact ⟨u, by simpa using h1, h2⟩
theorem DpAll.append : ∀ {vs us : List V} {ds es : List D}, DpAll K H vs ds → DpAll K H us es → DpAll K H (vs ++ us) (ds ++ es)
  | _, _, _, _, .nil, h => h
  | _, _, _, _, .cons h ha, q => .cons h (DpAll.append ha q)
theorem DpAll.take : ∀ {vs : List V} {ds : List D} (n : Nat), DpAll K H vs ds → DpAll K H (vs.take n) (ds.take n)
  | _, _, 0, _ => .nil
  | _, _, _ + 1, .nil => .nil
  | _, _, n + 1, .cons r t => .cons r (DpAll.take n t)
theorem DpAll.drop : ∀ {vs : List V} {ds : List D} (n : Nat), DpAll K H vs ds → DpAll K H (vs.drop n) (ds.drop n)
  | _, _, 0, r => r
  | _, _, _ + 1, .nil => .nil
  | _, _, n + 1, .cons _ t => DpAll.drop n t
theorem DpAll.set : ∀ {vs : List V} {ds : List D} {v : V} {d : D} (n : Nat), DpAll K H vs ds → Dp K H v d → DpAll K H (vs.set n v) (ds.set n d)
  | _, _, _, _, _, .nil, _ => .nil
  | _, _, _, _, 0, .cons _ t, h => .cons h t
  | _, _, _, _, n + 1, .cons r t, h => .cons r (DpAll.set n t h)
theorem dp_str_inv {v : V} {z : Str} (h : Dp K H v (.str z)) : v = .str z := by cases h; rfl
theorem dp_int_inv {v : V} {i : Int} (h : Dp K H v (.int i)) : v = .int i := by cases h; rfl
theorem dp_bool_inv {v : V} {b : Bool} (h : Dp K H v (.bool b)) : v = .bl b := by cases h; rfl
theorem dp_none_inv {v : V} (h : Dp K H v .none) : v = .non := by cases h; rfl
theorem dp_list_inv {v : V} {ds : List D} (h : Dp K H v (.list ds)) : ∃ a xs, v = .ref a ∧ SqL K H a xs ∧ DpAll K H xs ds := by
  cases h with | lst h ha => exact ⟨_, _, rfl, h, ha⟩
theorem dp_tuple_inv {v : V} {ds : List D} (h : Dp K H v (.tuple ds)) : ∃ a xs, v = .ref a ∧ SqT K H a xs ∧ DpAll K H xs ds := by
  cases h with | tup h ha => exact ⟨_, _, rfl, h, ha⟩
theorem dpAll_strs : ∀ {vs : List V} {zs : List Str}, DpAll K H vs (zs.map PyData.str) → vs = zs.map V.str
  | _, [], .nil => rfl
  | _, _ :: _, .cons h ha => by cases h; simp [dpAll_strs ha]
theorem dpAll_ints : ∀ {vs : List V} {zs : List Int}, DpAll K H vs (zs.map PyData.int) → vs = zs.map V.int
  | _, [], .nil => rfl
  | _, _ :: _, .cons h ha => by cases h; simp [dpAll_ints ha]
theorem dpAll_bools : ∀ {vs : List V} {zs : List Bool}, DpAll K H vs (zs.map PyData.bool) → vs = zs.map V.bl
  | _, [], .nil => rfl
  | _, _ :: _, .cons h ha => by cases h; simp [dpAll_bools ha]
theorem dp_strs : ∀ (zs : List Str), DpAll K H (zs.map V.str) (zs.map PyData.str)
  | [] => .nil
  | z :: zs => .cons (.str z) (dp_strs zs)
theorem dp_ints : ∀ (zs : List Int), DpAll K H (zs.map V.int) (zs.map PyData.int)
  | [] => .nil
  | z :: zs => .cons (.int z) (dp_ints zs)
end

/-! ### what a def knows of its slots -/
/-- an exception that is kept behind its suite -/
def Kept (cls : Value) (a : Addr) : HO := .ext fun h => ∃ (oe : Obj) (vs : Array Value), h.get? a = some oe ∧ Zc cls none oe ∧ oe.data = .fields vs
/-- an object of one's own, by what it holds -/
inductive DOb where
  | lst (ds : List D)
  | dK (kvs : List (Key × D))
  | dT (kvs : List (List Key × D))
  | exc (p C : Addr)
inductive DCell where
  | val (d : D)
  | own (p : Addr) (o : DOb)
abbrev DCtx := List (Option DCell)
/-- a value: data, or the object of one's own in a slot -/
inductive DV where
  | d (x : D)
  | o (j : Nat)

def KVD (K : PySem.W.Frag) (H : Hp) {κ : Type} : List (κ × V) → List (κ × D) → Prop := PySem.Paired fun (p : κ × V) (q : κ × D) => p.1 = q.1 ∧ Dp K H p.2 q.2
theorem kvd_same {K : PySem.W.Frag} {H H' : Hp} (e : Same H H') {κ : Type} : ∀ {a : List (κ × V)} {b : List (κ × D)}, KVD K H a b → KVD K H' a b
  | _, _, .nil => .nil
  | _, _, .cons h t => .cons ⟨h.1, dp_same e h.2⟩ (kvd_same e t)
inductive ObOk (K : PySem.W.Frag) (H0 : Hp) : DOb → HO → Prop
  | lst {ds : List D} {vs : List V} (h : DpAll K H0 vs ds) : ObOk K H0 (.lst ds) (.lst vs)
  | dK {kvs : List (Key × D)} {ws : List (Key × V)} (h : KVD K H0 ws kvs) : ObOk K H0 (.dK kvs) (.dK ws)
  | dT {kvs : List (List Key × D)} {ws : List (List Key × V)} (h : KVD K H0 ws kvs) : ObOk K H0 (.dT kvs) (.dT ws)
  | exc (p C : Addr) : ObOk K H0 (.exc p C) (Kept (.ref C) p)
theorem obOk_same {K : PySem.W.Frag} {H H' : Hp} (e : Same H H') {o : DOb} {h : HO} (q : ObOk K H o h) : ObOk K H' o h := by
  cases q with
  | lst h => exact .lst (dpAll_same e h)
  | dK h => exact .dK (kvd_same e h)
  | dT h => exact .dT (kvd_same e h)
  | exc p C => exact .exc p C

/-- a tuple that never changes is known with its object, which has no dict of its own -/
def okU : HO → Prop
  | .tup _ => False
  | .frz o (.tup _) => o.dict = none
  | _ => True
def Clean (K : PySem.W.Frag) (H0 : Hp) : Prop := (∀ a o, K.lookup a = some o → o.cls = .type "tuple" → o.dict = none) ∧ ∀ a u, H0 a = some u → okU u
theorem Clean.upd {K : PySem.W.Frag} {H0 : Hp} {p : Addr} {o : HO} (h : Clean K H0) (ho : okU o) : Clean K (L2.upd H0 p o) := by
  refine ⟨h.1, fun a u e => ?_⟩
  by_cases ha : a = p
  · subst ha; rw [upd_same] at e; cases e; exact ho
  · rw [upd_ne ha] at e; exact h.2 a u e
/-- B: what stood at the entry and stays; M: the part of it that never changes; H0: what never changes again, M among it; H: the heap -/
structure Kn (K : PySem.W.Frag) (B M : Hp) (Γ : DCtx) (σ : L2.St) (H H0 : Hp) : Prop where
  base : Same B H
  mm : Same M H0
  sub : Same H0 H
  new : ∀ (a : Addr) (o : HO), B a = some o → M a = none → H0 a = none
  len : Γ.length = σ.length
  val : ∀ (i : Nat) (d : D), Γ[i]? = some (some (DCell.val d)) → ∃ v, σ[i]? = some (some v) ∧ Dp K H0 v d
  own : ∀ (i : Nat) (p : Addr) (o : DOb), Γ[i]? = some (some (DCell.own p o)) → ∃ h, σ[i]? = some (some (V.ref p)) ∧ B p = none ∧ H0 p = none ∧ H p = some h ∧ ObOk K H0 o h
  sep : ∀ (i j : Nat) (oi oj : DOb) (p q : Addr), i ≠ j → Γ[i]? = some (some (DCell.own p oi)) → Γ[j]? = some (some (DCell.own q oj)) → p ≠ q
  cl : Clean K H0
/-- what a value is -/
def Rx (K : PySem.W.Frag) (σ : L2.St) (H0 : Hp) (v : V) : DV → Prop
  | .d x => Dp K H0 v x
  | .o j => σ[j]? = some (some v)
theorem rx_same {K : PySem.W.Frag} {σ : L2.St} {H H' : Hp} {v : V} (e : Same H H') : ∀ {x : DV}, Rx K σ H v x → Rx K σ H' v x
  | .d _, h => dp_same e h
  | .o _, h => h
def RxAll (K : PySem.W.Frag) (σ : L2.St) (H0 : Hp) : List V → List DV → Prop := PySem.Paired (Rx K σ H0)
theorem rxAll_same {K : PySem.W.Frag} {σ : L2.St} {H H' : Hp} (e : Same H H') : ∀ {vs : List V} {xs : List DV}, RxAll K σ H vs xs → RxAll K σ H' vs xs
  | _, _, .nil => .nil
  | _, _, .cons h t => .cons (rx_same e h) (rxAll_same e t)

section
variable {K : PySem.W.Frag} {B M : Hp} {Γ : DCtx} {σ : L2.St} {H H0 : Hp}
theorem set_get {α : Type} {l : List (Option α)} {i j : Nat} {x : Option α} {c : α} (e : (l.set i x)[j]? = some (some c)) : (i = j ∧ x = some c ∧ i < l.length) ∨ (i ≠ j ∧ l[j]? = some (some c)) := by
  by_cases hj : i = j
  · subst hj
    have hi : i < l.length := by
      have := (List.getElem?_eq_some_iff.mp e).1
      simpa using this
    rw [List.getElem?_set_self hi] at e
    exact .inl ⟨rfl, Option.some.inj e, hi⟩
  · rw [List.getElem?_set_ne hj] at e
    exact .inr ⟨hj, e⟩
/-- a new thing that never changes -/
theorem Kn.laid (k : Kn K B M Γ σ H H0) {p : Addr} {o : HO} (hp : H p = none) (ho : okU o := by trivial) : Kn K B M Γ σ (upd H p o) (upd H0 p o) ∧ Same H0 (upd H0 p o) := by
  have h0 : H0 p = none := k.sub.free hp
  have hB : B p = none := k.base.free hp
  have s0 : Same H0 (upd H0 p o) := fun b x e => by rw [upd_ne (ne_of_none e h0)]; exact e
  have s1 : Same H (upd H p o) := fun b x e => by rw [upd_ne (ne_of_none e hp)]; exact e
  refine ⟨⟨k.base.trans s1, k.mm.trans s0, fun b x e => ?_, fun a x e n => ?_, k.len, fun i d e => ?_, fun i q o' e => ?_, k.sep, k.cl.upd ho⟩, s0⟩
  · by_cases hb : b = p
    · subst hb; rw [upd_same] at e ⊢; exact e
    · rw [upd_ne hb] at e ⊢; exact k.sub b x e
  · rw [upd_ne (ne_of_none e hB)]; exact k.new a x e n
  · obtain ⟨v, a, b⟩ := k.val i d e
    exact ⟨v, a, dp_same s0 b⟩
  · obtain ⟨h, a, b0, b, c, d⟩ := k.own i q o' e
    have ne : q ≠ p := ne_of_none c hp
    exact ⟨h, a, b0, by rw [upd_ne ne]; exact b, by rw [upd_ne ne]; exact c, obOk_same s0 d⟩
theorem Kn.set (k : Kn K B M Γ σ H H0) {i : Nat} {v : V} {d : D} (h : Dp K H0 v d) : Kn K B M (Γ.set i (some (DCell.val d))) (σ.set i (some v)) H H0 := by
  refine ⟨k.base, k.mm, k.sub, k.new, by simp [k.len], fun j d' e => ?_, fun j p o e => ?_, fun a b oa ob p q hab ea eb => ?_, k.cl⟩
  · rcases set_get e with ⟨rfl, e1, hi⟩ | ⟨hj, e⟩
    · cases e1
      exact ⟨v, by rw [List.getElem?_set_self (by rw [← k.len]; exact hi)], h⟩
    · obtain ⟨u, x, y⟩ := k.val j d' e
      exact ⟨u, by rw [List.getElem?_set_ne hj]; exact x, y⟩
  · rcases set_get e with ⟨rfl, e1, hi⟩ | ⟨hj, e⟩
    · cases e1
    · obtain ⟨h', x, y⟩ := k.own j p o e
      exact ⟨h', by rw [List.getElem?_set_ne hj]; exact x, y⟩
  · rcases set_get ea with ⟨_, e1, _⟩ | ⟨na, ea⟩
    · cases e1
    · rcases set_get eb with ⟨_, e1, _⟩ | ⟨nb, eb⟩
      · cases e1
      · exact k.sep a b oa ob p q hab ea eb
/-- an object of one's own is changed -/
theorem Kn.put (k : Kn K B M Γ σ H H0) {i : Nat} {p : Addr} {h : HO} {o o' : DOb} (e : Γ[i]? = some (some (DCell.own p o'))) (hq : ObOk K H0 o h) : Kn K B M (Γ.set i (some (DCell.own p o))) σ (upd H p h) H0 := by
  obtain ⟨h', x, hB, h0, z, w⟩ := k.own i p o' e
  have own' : ∀ {j : Nat} {q : Addr} {oj : DOb}, (Γ.set i (some (DCell.own p o)))[j]? = some (some (DCell.own q oj)) → (i = j ∧ oj = o ∧ q = p) ∨ (i ≠ j ∧ Γ[j]? = some (some (DCell.own q oj))) := fun {j q oj} ej => by
    rcases set_get ej with ⟨rfl, e1, _⟩ | ⟨hj, ej⟩
    · cases e1; exact .inl ⟨rfl, rfl, rfl⟩
    · exact .inr ⟨hj, ej⟩
  refine ⟨fun b y eb => ?_, k.mm, fun b y eb => ?_, k.new, by simp [k.len], fun j d' ej => ?_, fun j q oj ej => ?_, fun a b oa ob pa pb hab ea eb => ?_, k.cl⟩
  · rw [upd_ne (ne_of_none eb hB)]; exact k.base b y eb
  · rw [upd_ne (ne_of_none eb h0)]; exact k.sub b y eb
  · rcases set_get ej with ⟨_, e1, _⟩ | ⟨hj, ej⟩
    · cases e1
    · exact k.val j d' ej
  · rcases own' ej with ⟨rfl, rfl, rfl⟩ | ⟨hj, ej⟩
    · exact ⟨h, x, hB, h0, upd_same, hq⟩
    · obtain ⟨h2, x2, y0, y2, z2, w2⟩ := k.own j q oj ej
      have ne : p ≠ q := k.sep i j o' oj p q hj e ej
      exact ⟨h2, x2, y0, y2, by rw [upd_ne ne.symm]; exact z2, w2⟩
  · have ga : ∃ o2, Γ[a]? = some (some (DCell.own pa o2)) := by
      rcases own' ea with ⟨rfl, _, rfl⟩ | ⟨_, z⟩
      · exact ⟨o', e⟩
      · exact ⟨_, z⟩
    have gb : ∃ o2, Γ[b]? = some (some (DCell.own pb o2)) := by
      rcases own' eb with ⟨rfl, _, rfl⟩ | ⟨_, z⟩
      · exact ⟨o', e⟩
      · exact ⟨_, z⟩
    obtain ⟨o2, ga⟩ := ga
    obtain ⟨o3, gb⟩ := gb
    exact k.sep a b o2 o3 pa pb hab ga gb
/-- less is known of the slots -/
theorem Kn.weak (k : Kn K B M Γ σ H H0) {Γ' : DCtx} (hl : Γ'.length = Γ.length) (h : ∀ (i : Nat) (c : DCell), Γ'[i]? = some (some c) → Γ[i]? = some (some c)) : Kn K B M Γ' σ H H0 :=
  ⟨k.base, k.mm, k.sub, k.new, hl.trans k.len, fun j d e => k.val j d (h _ _ e), fun j p o e => k.own j p o (h _ _ e), fun a b oa ob p q hab ea eb => k.sep a b oa ob p q hab (h _ _ ea) (h _ _ eb), k.cl⟩
theorem Kn.drop (k : Kn K B M Γ σ H H0) (i : Nat) : Kn K B M (Γ.set i none) σ H H0 := k.weak (by simp) fun j c e => by
  rcases set_get e with ⟨_, e1, _⟩ | ⟨_, e⟩
  · cases e1
  · exact e
/-- a list of one's own becomes data -/
theorem Kn.freeze (k : Kn K B M Γ σ H H0) {i : Nat} {p : Addr} {ds : List D} (e : Γ[i]? = some (some (DCell.own p (.lst ds)))) :
    ∃ v H1, σ[i]? = some (some v) ∧ Same H0 H1 ∧ Dp K H1 v (.list ds) ∧ Kn K B M (Γ.set i (some (DCell.val (.list ds)))) σ H H1 := by
  obtain ⟨h, x, hB, h0, z, w⟩ := k.own i p _ e
  cases w with
  | @lst _ vs w =>
    have hi : i < Γ.length := (List.getElem?_eq_some_iff.mp e).1
    have s0 : Same H0 (upd H0 p (.lst vs)) := fun b y eb => by rw [upd_ne (ne_of_none eb h0)]; exact eb
    have dd : Dp K (upd H0 p (.lst vs)) (.ref p) (.list ds) := .lst (.inl (.inl upd_same)) (dpAll_same s0 w)
    refine ⟨.ref p, upd H0 p (.lst vs), x, s0, dd, k.base, k.mm.trans s0, fun b y eb => ?_, fun a y ea n => ?_, by simp [k.len], fun j d ej => ?_, fun j q oj ej => ?_, fun a b oa ob pa pb hab ea eb => ?_, k.cl.upd trivial⟩
    · by_cases hb : b = p
      · subst hb; rw [upd_same] at eb; cases eb; exact z
      · rw [upd_ne hb] at eb; exact k.sub b y eb
    · rw [upd_ne (ne_of_none ea hB)]; exact k.new a y ea n
    · rcases set_get ej with ⟨rfl, e1, _⟩ | ⟨hj, ej⟩
      · cases e1; exact ⟨_, x, dd⟩
      · obtain ⟨u, a, b⟩ := k.val j d ej
        exact ⟨u, a, dp_same s0 b⟩
    · rcases set_get ej with ⟨_, e1, _⟩ | ⟨hj, ej⟩
      · cases e1
      · obtain ⟨h2, x2, y0, y2, z2, w2⟩ := k.own j q oj ej
        have ne : p ≠ q := k.sep i j _ oj p q hj e ej
        exact ⟨h2, x2, y0, by rw [upd_ne ne.symm]; exact y2, z2, obOk_same s0 w2⟩
    · rcases set_get ea with ⟨_, e1, _⟩ | ⟨na, ea⟩
      · cases e1
      · rcases set_get eb with ⟨_, e1, _⟩ | ⟨nb, eb⟩
        · cases e1
        · exact k.sep a b oa ob pa pb hab ea eb
/-- a list of one's own, looked at -/
theorem Kn.ownL (k : Kn K B M Γ σ H H0) {i : Nat} {p : Addr} {ds : List D} (e : Γ[i]? = some (some (DCell.own p (.lst ds)))) : ∃ vs, σ[i]? = some (some (V.ref p)) ∧ H p = some (.lst vs) ∧ DpAll K H0 vs ds := by
  obtain ⟨h, x, hB, h0, z, w⟩ := k.own i _ _ e
  cases w with
  | lst w => exact ⟨_, x, z, w⟩
theorem Kn.ownK (k : Kn K B M Γ σ H H0) {i : Nat} {p : Addr} {kvs : List (Key × D)} (e : Γ[i]? = some (some (DCell.own p (.dK kvs)))) : ∃ ws, σ[i]? = some (some (V.ref p)) ∧ H p = some (.dK ws) ∧ KVD K H0 ws kvs := by
  obtain ⟨h, x, hB, h0, z, w⟩ := k.own i _ _ e
  cases w with
  | dK w => exact ⟨_, x, z, w⟩
theorem Kn.ownT (k : Kn K B M Γ σ H H0) {i : Nat} {p : Addr} {kvs : List (List Key × D)} (e : Γ[i]? = some (some (DCell.own p (.dT kvs)))) : ∃ ws, σ[i]? = some (some (V.ref p)) ∧ H p = some (.dT ws) ∧ KVD K H0 ws kvs := by
  obtain ⟨h, x, hB, h0, z, w⟩ := k.own i _ _ e
  cases w with
  | dT w => exact ⟨_, x, z, w⟩
end

/-! ### readings over data -/
abbrev DK := DV → DCtx → Prop
abbrev DE := DCtx → DK → Prop
abbrev DT := DCtx → (Bool → DCtx → Prop) → Prop
abbrev DA := DCtx → (List DV → DCtx → Prop) → Prop
structure DEnds where
  nx : DCtx → Prop
  rt : D → DCtx → Prop
  bk : DCtx → Prop := fun _ => False
  ct : DCtx → Prop := fun _ => False
abbrev DS := DEnds → DCtx → Prop

def Sim (K : PySem.W.Frag) (t : TE) (δ : DE) : Prop := ∀ (B M : Hp) (Γ : DCtx) (σ : L2.St) (H H0 : Hp) (Q : VK) (R : DK), Kn K B M Γ σ H H0 → δ Γ R →
  (∀ v x Γ' H' H0', R x Γ' → Same H0 H0' → Kn K B M Γ' σ H' H0' → Rx K σ H0' v x → Q v H') → t σ H Q
def SimT (K : PySem.W.Frag) (t : TT) (δ : DT) : Prop := ∀ (B M : Hp) (Γ : DCtx) (σ : L2.St) (H H0 : Hp) (Q : Bool → Hp → Prop) (R : Bool → DCtx → Prop), Kn K B M Γ σ H H0 → δ Γ R →
  (∀ b Γ' H' H0', R b Γ' → Same H0 H0' → Kn K B M Γ' σ H' H0' → Q b H') → t σ H Q
def SimA (K : PySem.W.Frag) (t : TA) (δ : DA) : Prop := ∀ (B M : Hp) (Γ : DCtx) (σ : L2.St) (H H0 : Hp) (Q : List V → Hp → Prop) (R : List DV → DCtx → Prop), Kn K B M Γ σ H H0 → δ Γ R →
  (∀ vs xs Γ' H' H0', R xs Γ' → Same H0 H0' → Kn K B M Γ' σ H' H0' → RxAll K σ H0' vs xs → Q vs H') → t σ H Q
/-- what is wanted behind a statement, over data and over heaps -/
structure EndsOk (K : PySem.W.Frag) (B M H0 : Hp) (D : DEnds) (E : Ends) : Prop where
  nx : ∀ Γ' σ' H' H0', D.nx Γ' → Same H0 H0' → Kn K B M Γ' σ' H' H0' → E.nx σ' H'
  rt : ∀ v d Γ' σ' H' H0', D.rt d Γ' → Same H0 H0' → Kn K B M Γ' σ' H' H0' → Dp K H0' v d → E.rt v H'
  bk : ∀ Γ' σ' H' H0', D.bk Γ' → Same H0 H0' → Kn K B M Γ' σ' H' H0' → E.bk σ' H'
  ct : ∀ Γ' σ' H' H0', D.ct Γ' → Same H0 H0' → Kn K B M Γ' σ' H' H0' → E.ct σ' H'
theorem EndsOk.later {K : PySem.W.Frag} {B M H0 H1 : Hp} {D : DEnds} {E : Ends} (e : EndsOk K B M H0 D E) (s : Same H0 H1) : EndsOk K B M H1 D E :=
  ⟨fun Γ' σ' H' H0' h q => e.nx Γ' σ' H' H0' h (s.trans q), fun v d Γ' σ' H' H0' h q => e.rt v d Γ' σ' H' H0' h (s.trans q), fun Γ' σ' H' H0' h q => e.bk Γ' σ' H' H0' h (s.trans q), fun Γ' σ' H' H0' h q => e.ct Γ' σ' H' H0' h (s.trans q)⟩
def SimS (K : PySem.W.Frag) (t : TS) (δ : DS) : Prop := ∀ (B M : Hp) (Γ : DCtx) (σ : L2.St) (H H0 : Hp) (E : Ends) (D : DEnds), Kn K B M Γ σ H H0 → δ D Γ → EndsOk K B M H0 D E → t E σ H

def PD (X : Cx) (e : Expr) (δ : DE) : Prop := ∃ t, PE X e t ∧ Sim X.K t δ
def PDT (X : Cx) (e : Expr) (δ : DT) : Prop := ∃ t, PT X e t ∧ SimT X.K t δ
def PDW (X : Cx) (e : Expr) (δ : DT) : Prop := ∃ t, PW X e t ∧ SimT X.K t δ
def PDA (X : Cx) (es : List Expr) (δ : DA) : Prop := ∃ t, PA X es t ∧ SimA X.K t δ
def PDS (X : Cx) (st : Stmt) (δ : DS) : Prop := ∃ t, PS X st t ∧ SimS X.K t δ
def PDSs (X : Cx) (sts : List Stmt) (δ : DS) : Prop := ∃ t, PSs X sts t ∧ SimS X.K t δ
end DL

set_option Elab.async false
set_option linter.all false
set_option maxRecDepth 100000
set_option maxHeartbeats 2000000
set_option autoImplicit false
/-! tuples, laid with their objects: no dict of their own -/
namespace DL
open PySem PySem.Spec L2 PyProof.Rows
section
variable {X : Cx} {pins : List (Addr × Obj)} {σ : L2.St} {H : Hp} {s : Shared}
theorem Inv.laidF {h' : Heap} {p : Addr} {xs : List V} {its : List Value} {n t' : Nat} (I : Inv X pins σ H s) (k : ∀ b o, s.heap.get? b = some o → h'.get? b = some o) (hp : s.heap.objs.size ≤ p) (hz : xs.length ≤ sizeLine) (r : Vals xs its) (e : h'.get? p = some { cls := .type "tuple", data := .seq its.toArray n }) :
    Inv X pins σ (upd H p (.frz { cls := .type "tuple", data := .seq its.toArray n } (.tup xs))) { s with heap := h', toks := t' } :=
  I.laid (t' := t') k hp ⟨e, hz, its, r, ⟨_, e, rfl, _, rfl⟩⟩
/-- a tuple of written items -/
def tTupF (t : TA) : TE := fun σ H Q => t σ H fun xs H1 => xs.length ≤ sizeLine ∧ ∀ p o, H1 p = none → o.dict = none → Q (.ref p) (upd H1 p (.frz o (.tup xs)))
theorem pe_tupF {es : List Expr} {t : TA} {x1 : Nat} {pos : Pos} (h : PA X es t) : PE X (.Tuple es x1 pos) (tTupF t) := by
  refine ⟨fun pins s σ H Q I hq => ?_⟩
  refine wpAny_Tuple_spliced (thn (h.run pos pins s σ H _ I hq) fun us s1 ⟨xs, H1, I1, r, z, q⟩ => ⟨by rw [← r.length]; exact z, ?_⟩)
  exact ⟨.ref s1.heap.objs.size, _, Inv.laidF (t' := s1.toks) I1 (fun b u e => Heap.get?_push_of_some _ e) (Nat.le_refl _) z r (Heap.get?_push_size _ rfl), rfl, q _ _ (I1.hok.fresh (Nat.le_refl _)) rfl⟩
/-- t + u -/
def rCatF (K : PySem.W.Frag) : R2 := fun x y H Q => ∃ a b xs ys, x = .ref a ∧ y = .ref b ∧ SqT K H a xs ∧ SqT K H b ys ∧ xs.length + ys.length ≤ sizeLine ∧
  (xs = [] → Q (.ref b) H) ∧ (xs ≠ [] → ys = [] → Q (.ref a) H) ∧ (xs ≠ [] → ys ≠ [] → ∀ p o, H p = none → o.dict = none → Q (.ref p) (upd H p (.frz o (.tup (xs ++ ys)))))
theorem op_catF : OpR X (binaryOp .Add) (rCatF X.K) := by
  intro pins s σ H x y v u Q I rx ry h
  obtain ⟨a, b, xs, ys, rfl, rfl, ha, hb, hz, q0, q1, q2⟩ := h
  cases rx
  cases ry
  obtain ⟨its, r1, p1, _⟩ := I.tuple ha
  obtain ⟨its2, r2, p2, _⟩ := I.tuple hb
  by_cases hx : xs = []
  · subst hx
    cases r1
    exact cat_tup0 p1 p2 ⟨.ref b, H, I, rfl, q0 rfl⟩
  · refine HT.cat_tup p1 p2 (fun z => hx (r1.nil_iff.mp z)) (fun z => ⟨.ref a, H, I, rfl, q1 hx (r2.nil_iff.mp z)⟩) (fun z => ?_) (by rw [← r1.length, ← r2.length]; exact hz)
    exact ⟨.ref s.heap.objs.size, _, Inv.laidF (t' := s.toks) I (fun b ob q => Heap.get?_push_of_some _ q) (Nat.le_refl _) (by rw [List.length_append]; exact hz) (r1.append r2) (Heap.get?_push_size _ rfl), rfl, q2 hx (fun w => z (r2.nil_iff.mpr w)) _ _ (I.hok.fresh (Nat.le_refl _)) rfl⟩
/-- t[lo:hi] -/
def rSlF (K : PySem.W.Frag) : V → Option Int → Option Int → Hp → VK → Prop := fun x lo hi H Q => ∃ a xs, x = .ref a ∧ SqT K H a xs ∧
  (HT.sIx xs.length 0 lo = 0 ∧ HT.sIx xs.length xs.length hi = xs.length → Q (.ref a) H) ∧ (¬ (HT.sIx xs.length 0 lo = 0 ∧ HT.sIx xs.length xs.length hi = xs.length) → ∀ p o, H p = none → o.dict = none → Q (.ref p) (upd H p (.frz o (.tup (cutV xs lo hi)))))
theorem sl_tupF : SlR X (rSlF X.K) := by
  intro pins s σ H x v vl vu lo hi sl Q I rx hs pl pu h
  obtain ⟨a, xs, rfl, hx, q1, q2⟩ := h
  cases rx
  obtain ⟨its, r, ht, hz⟩ := I.tuple hx
  have hlen : its.toArray.size = xs.length := by rw [List.size_toArray]; exact r.length.symm
  refine ⟨"tuple", _, PyProof.Rows.slot_tuple_getitem.lookup, ht.typeIs, ?_⟩
  by_cases hw : HT.sIx xs.length 0 lo = 0 ∧ HT.sIx xs.length xs.length hi = xs.length
  · exact getItem_tuple_whole ht hs pl pu (by rw [hlen]; exact hw) ⟨.ref a, H, I, rfl, q1 hw⟩
  · refine HT.getItem_tuple_cut ht hs pl pu (by rw [hlen]; exact hw) ?_ (by rw [hlen]; exact hz)
    rw [hlen]
    exact ⟨.ref s.heap.objs.size, _, Inv.laidF (xs := cutV xs lo hi) (t' := s.toks) I (fun b ob q => Heap.get?_push_of_some _ q) (Nat.le_refl _) (Nat.le_trans (cutV_length xs lo hi) hz) ((r.drop (HT.sIx xs.length 0 lo)).take (HT.sIx xs.length xs.length hi - HT.sIx xs.length 0 lo)) (Heap.get?_push_size _ rfl), rfl, q2 hw _ _ (I.hok.fresh (Nat.le_refl _)) rfl⟩
/-- tuple(x) -/
theorem call_tuple_ofF : CallR X (.type "tuple") (fun xs H Q => ∃ p ys, xs = [.ref p] ∧ ((SqL X.K H p ys ∧ ∀ l o, H l = none → o.dict = none → Q (.ref l) (upd H l (.frz o (.tup ys)))) ∨ (SqT X.K H p ys ∧ Q (.ref p) H))) := by
  intro pins s σ H xs us Q I r h
  obtain ⟨p, ys, rfl, h⟩ := h
  obtain ⟨u, rfl, rx⟩ := vals1 r
  cases rx
  rcases h with ⟨hq, q⟩ | ⟨hq, q⟩
  · obtain ⟨its, r', pl, hz⟩ := I.list hq
    have hlen := r'.length
    refine call_tuple_list pl.isList (fun h' kp => ?_) (by simp only [List.size_toArray] <;> omega)
    have I1 : Inv X pins σ H { s with heap := h' } := I.kept (t' := s.toks) kp
    have I2 : Inv X pins σ (upd H h'.objs.size (.frz { cls := .type "tuple", data := .seq its.toArray } (.tup ys))) { s with heap := h'.push { cls := .type "tuple", data := .seq its.toArray } } :=
      Inv.laidF (s := { s with heap := h' }) (t' := s.toks) I1 (fun b o e => Heap.get?_push_of_some _ e) (Nat.le_refl _) hz r' (Heap.get?_push_size _ rfl)
    exact ⟨.ref h'.objs.size, _, I2, rfl, q _ _ (I1.hok.fresh (Nat.le_refl _)) rfl⟩
  · obtain ⟨its, r', pl, hz⟩ := I.tuple hq
    exact call_tuple_same pl ⟨.ref p, H, I, rfl, q⟩
/-- no dict at a tuple that never changes -/
theorem noDict_of {H0 : Hp} {p : Addr} {xs : List V} (I : Inv X pins σ H s) (sm : Same H0 H) (cl : Clean X.K H0) (h : SqT X.K H0 p xs) : ∃ ob, s.heap.get? p = some ob ∧ ob.dict = none := by
  rcases h with (h | ⟨o, h⟩) | ⟨o, its, n, hk, hc, _⟩
  · exact (cl.2 p _ h).elim
  · have h1 : o.dict = none := cl.2 p _ h
    exact ⟨o, (I.hok p _ (sm p _ h)).1, h1⟩
  · exact ⟨o, I.kIn p o hk, cl.1 p o hk hc⟩
end
end DL

set_option Elab.async false
set_option linter.all false
set_option maxRecDepth 100000
set_option maxHeartbeats 2000000
set_option autoImplicit false
namespace DL
open PySem L2

/-! ### expressions -/
def cv (i : Nat) : DCell → DV
  | .val d => .d d
  | .own _ _ => .o i
def dVar (i : Nat) : DE := fun Γ R => ∃ c : DCell, Γ[i]? = some (some c) ∧ R (cv i c) Γ
def dC (d : D) : DE := fun Γ R => R (.d d) Γ
section
variable {X : Cx} {a b c e : Expr} {pos : Pos} {δa δb δc δe : DE}
theorem sim_var {K : PySem.W.Frag} (i : Nat) : Sim K (tVar i) (dVar i) := by
  intro B M Γ σ H H0 Q R k ⟨c, e, r⟩ q
  cases c with
  | val d =>
    obtain ⟨v, ev, dv⟩ := k.val i d e
    exact ⟨v, ev, q v _ Γ H H0 r (Same.refl _) k dv⟩
  | own p o =>
    obtain ⟨h, ep, _⟩ := k.own i p o e
    exact ⟨.ref p, ep, q _ _ Γ H H0 r (Same.refl _) k ep⟩
theorem pd_var (i : Nat) {x : Str} {pos : Pos} (hN : X.N[i]? = some x := by rfl) (hv : Vis X.env.scope x := by first | exact Or.inl rfl | exact Or.inr (Or.inl rfl) | exact Or.inr (Or.inr rfl)) (hd : (x == ("__debug__" : Str)) = false := by decide)
    (hcd : (x == ("__classdict__" : Str)) = false := by decide) : PD X (.Name x pos) (dVar i) := ⟨_, pe_var hN hv hd hcd, sim_var i⟩
theorem sim_c {K : PySem.W.Frag} {v : V} {d : D} (h : ∀ H, Dp K H v d) : Sim K (tC v) (dC d) := fun _ _ Γ σ H H0 Q R k r q => q v _ Γ H H0 r (Same.refl _) k (h H0)
theorem pd_int {i : Int} {j : Nat} {pos : Pos} : PD X (.Constant (.int i) j pos) (dC (.int i)) := ⟨_, pe_int, sim_c fun _ => .int i⟩
theorem pd_bl {b : Bool} {j : Nat} {pos : Pos} : PD X (.Constant (.bool b) j pos) (dC (.bool b)) := ⟨_, pe_bl, sim_c fun _ => .bl b⟩
theorem pd_non {j : Nat} {pos : Pos} : PD X (.Constant .none j pos) (dC .none) := ⟨_, pe_non, sim_c fun _ => .non⟩
theorem pd_str (w : List Nat) {x : Str} {j : Nat} {pos : Pos} (h : x = T w := by decide +kernel) : PD X (.Constant (.str x) j pos) (dC (.str (T w))) := by
  subst h
  exact ⟨_, pe_str, sim_c fun _ => .str _⟩
theorem pd_globS (w : List Nat) {x : Str} {t : Tok} {pos : Pos} (hg : Gl X x) (hm : X.mg x = some (.str (T w) t)) (hd : (x == ("__debug__" : Str)) = false := by decide) (hcd : (x == ("__classdict__" : Str)) = false := by decide) : PD X (.Name x pos) (dC (.str (T w))) :=
  ⟨_, pe_glob (v := .str (T w)) hg hm ⟨_, rfl⟩ hd, sim_c fun _ => .str _⟩

/-! two-place operations -/
abbrev DR2 := DV → DV → DCtx → DK → Prop
def RSim2 (K : PySem.W.Frag) (r : R2) (ρ : DR2) : Prop := ∀ (B M : Hp) (Γ : DCtx) (σ : L2.St) (H H0 : Hp) (Q : VK) (R : DK) (x y : DV) (v u : V), Kn K B M Γ σ H H0 → Rx K σ H0 v x → Rx K σ H0 u y → ρ x y Γ R →
  (∀ v x Γ' H' H0', R x Γ' → Same H0 H0' → Kn K B M Γ' σ H' H0' → Rx K σ H0' v x → Q v H') → r v u H Q
def dOp (ρ : DR2) (δa δb : DE) : DE := fun Γ R => δa Γ fun x Γ1 => δb Γ1 fun y Γ2 => ρ x y Γ2 R
theorem sim_op {K : PySem.W.Frag} {r : R2} {ρ : DR2} {ta tb : TE} (hs : RSim2 K r ρ) (ha : Sim K ta δa) (hb : Sim K tb δb) : Sim K (tOp r ta tb) (dOp ρ δa δb) := fun B M Γ σ H H0 Q R k h q =>
  ha B M Γ σ H H0 _ _ k h fun v x Γ1 H1 H01 h1 s1 k1 r1 => hb B M Γ1 σ H1 H01 _ _ k1 h1 fun u y Γ2 H2 H02 h2 s2 k2 r2 =>
    hs B M Γ2 σ H2 H02 Q R x y v u k2 (rx_same s2 r1) r2 h2 fun w z Γ3 H3 H03 h3 s3 k3 r3 => q w z Γ3 H3 H03 h3 ((s1.trans s2).trans s3) k3 r3
theorem pd_op {op : Operator} {r : R2} {ρ : DR2} (ho : OpR X (binaryOp op) r) (hs : RSim2 X.K r ρ) (h1 : PD X a δa) (h2 : PD X b δb) : PD X (.BinOp a op b pos) (dOp ρ δa δb) := match h1, h2 with
  | ⟨_, ha, sa⟩, ⟨_, hb, sb⟩ => ⟨_, pe_op ho ha hb, sim_op hs sa sb⟩
theorem pd_cmp {op : CmpOp} {r : R2} {ρ : DR2} (ho : OpR X (compareOp op) r) (hs : RSim2 X.K r ρ) (hm : behindInMarks op b = false) (h1 : PD X a δa) (h2 : PD X b δb) : PD X (.Compare a [op] [b] pos) (dOp ρ δa δb) := match h1, h2 with
  | ⟨_, ha, sa⟩, ⟨_, hb, sb⟩ => ⟨_, pe_cmpR ho ha hb hm, sim_op hs sa sb⟩
theorem pd_ix {r : R2} {ρ : DR2} (ho : IxR X r) (hs : RSim2 X.K r ρ) (hp : PlainIx b) (h1 : PD X a δa) (h2 : PD X b δb) : PD X (.Subscript a b pos) (dOp ρ δa δb) := match h1, h2 with
  | ⟨_, ha, sa⟩, ⟨_, hb, sb⟩ => ⟨_, pe_ix ho ha hb hp, sim_op hs sa sb⟩
def dTst (δ : DE) : DT := fun Γ R => δ Γ fun x Γ1 => ∃ b, x = .d (.bool b) ∧ R b Γ1
theorem sim_tst {K : PySem.W.Frag} {t : TE} (h : Sim K t δe) : SimT K (tTest t) (dTst δe) := fun B M Γ σ H H0 Q R k h1 q =>
  h B M Γ σ H H0 _ _ k h1 fun v x Γ1 H1 H01 ⟨b, e, h2⟩ s1 k1 r1 => by
    subst e
    exact ⟨b, dp_bool_inv r1, q b Γ1 H1 H01 h2 s1 k1⟩
theorem pdt_cmp {op : CmpOp} {r : R2} {ρ : DR2} (ho : OpR X (compareOp op) r) (hs : RSim2 X.K r ρ) (hm : behindInMarks op b = false) (h1 : PD X a δa) (h2 : PD X b δb) : PDT X (.Compare a [op] [b] pos) (dTst (dOp ρ δa δb)) := match h1, h2 with
  | ⟨_, ha, sa⟩, ⟨_, hb, sb⟩ => ⟨_, pt_cmpR ho ha hb hm, sim_tst (sim_op hs sa sb)⟩
theorem pdt_val (he : ∀ whole, isTrue e X.env whole = (do let v ← whole; standAt e.pos; holding [v] (truthy v)) := by intro _; rfl) (h1 : PD X e δe) : PDT X e (dTst δe) := match h1 with
  | ⟨_, h, s⟩ => ⟨_, pt_val h he, sim_tst s⟩
/-! chains -/
def dChain (ρ ρ' : DR2) (δa δb δc : DE) : DE := fun Γ R => δa Γ fun x Γ1 => δb Γ1 fun y Γ2 => ρ x y Γ2 fun z Γ3 => ∃ k, z = .d (.bool k) ∧ if k = true then δc Γ3 fun w Γ4 => ρ' y w Γ4 R else R (.d (.bool false)) Γ3
theorem sim_chain {K : PySem.W.Frag} {r r' : R2} {ρ ρ' : DR2} {ta tb tc : TE} (hs : RSim2 K r ρ) (hs' : RSim2 K r' ρ') (ha : Sim K ta δa) (hb : Sim K tb δb) (hc : Sim K tc δc) : Sim K (tChain r r' ta tb tc) (dChain ρ ρ' δa δb δc) := fun B M Γ σ H H0 Q R k h q =>
  ha B M Γ σ H H0 _ _ k h fun v x Γ1 H1 H01 h1 s1 k1 r1 => hb B M Γ1 σ H1 H01 _ _ k1 h1 fun u y Γ2 H2 H02 h2 s2 k2 r2 =>
    hs B M Γ2 σ H2 H02 _ _ x y v u k2 (rx_same s2 r1) r2 h2 fun w z Γ3 H3 H03 ⟨b, e, h3⟩ s3 k3 r3 => by
      subst e
      refine ⟨b, dp_bool_inv r3, ?_⟩
      cases b with
      | true =>
        have h3 : δc Γ3 _ := h3
        exact hc B M Γ3 σ H3 H03 _ _ k3 h3 fun w4 z4 Γ4 H4 H04 h4 s4 k4 r4 => hs' B M Γ4 σ H4 H04 Q R y z4 u w4 k4 (rx_same (s3.trans s4) r2) r4 h4 fun w5 z5 Γ5 H5 H05 h5 s5 k5 r5 => q w5 z5 Γ5 H5 H05 h5 ((((s1.trans s2).trans s3).trans s4).trans s5) k5 r5
      | false =>
        have h3 : R (.d (.bool false)) Γ3 := h3
        exact q _ _ Γ3 H3 H03 h3 ((s1.trans s2).trans s3) k3 (.bl false)
theorem pd_chain {op op' : CmpOp} {r r' : R2} {ρ ρ' : DR2} (ho : OpR X (compareOp op) r) (hs : RSim2 X.K r ρ) (ho' : OpR X (compareOp op') r') (hs' : RSim2 X.K r' ρ') (hm : lastMarks [op, op'] [b, c] = false := by rfl) (h1 : PD X a δa) (h2 : PD X b δb) (h3 : PD X c δc) : PD X (.Compare a [op, op'] [b, c] pos) (dChain ρ ρ' δa δb δc) := match h1, h2, h3 with
  | ⟨_, ha, sa⟩, ⟨_, hb, sb⟩, ⟨_, hc, sc⟩ => ⟨_, pe_chain ho ho' ha hb hc hm, sim_chain hs hs' sa sb sc⟩
/-! and, or, not over bools; if-expressions -/
def dAndV (δa δb : DE) : DE := fun Γ R => δa Γ fun x Γ1 => ∃ k, x = .d (.bool k) ∧ if k = true then δb Γ1 R else R (.d (.bool false)) Γ1
def dOrV (δa δb : DE) : DE := fun Γ R => δa Γ fun x Γ1 => ∃ k, x = .d (.bool k) ∧ if k = true then R (.d (.bool true)) Γ1 else δb Γ1 R
def dNotV (δa : DE) : DE := fun Γ R => δa Γ fun x Γ1 => ∃ k, x = .d (.bool k) ∧ R (.d (.bool (!k))) Γ1
theorem pd_one {op : BoolOp} (h1 : PD X a δa) : PD X (.BoolOp op [a] pos) δa := match h1 with
  | ⟨_, ha, sa⟩ => ⟨_, pe_one ha, sa⟩
theorem pd_and {rest : List Expr} (h1 : PD X a δa) (h2 : PD X (.BoolOp .And (b :: rest) pos) δb) : PD X (.BoolOp .And (a :: b :: rest) pos) (dAndV δa δb) := match h1, h2 with
  | ⟨_, ha, sa⟩, ⟨_, hb, sb⟩ => ⟨_, pe_and ha hb, fun B M Γ σ H H0 Q R k h q => sa B M Γ σ H H0 _ _ k h fun v x Γ1 H1 H01 ⟨b, e, h1⟩ s1 k1 r1 => by
      subst e
      refine ⟨b, dp_bool_inv r1, ?_⟩
      cases b with
      | true => exact sb B M Γ1 σ H1 H01 Q R k1 h1 fun v2 x2 Γ2 H2 H02 h2 s2 k2 r2 => q v2 x2 Γ2 H2 H02 h2 (s1.trans s2) k2 r2
      | false => exact q _ _ Γ1 H1 H01 h1 s1 k1 (.bl false)⟩
theorem pd_or {rest : List Expr} (h1 : PD X a δa) (h2 : PD X (.BoolOp .Or (b :: rest) pos) δb) : PD X (.BoolOp .Or (a :: b :: rest) pos) (dOrV δa δb) := match h1, h2 with
  | ⟨_, ha, sa⟩, ⟨_, hb, sb⟩ => ⟨_, pe_or ha hb, fun B M Γ σ H H0 Q R k h q => sa B M Γ σ H H0 _ _ k h fun v x Γ1 H1 H01 ⟨b, e, h1⟩ s1 k1 r1 => by
      subst e
      refine ⟨b, dp_bool_inv r1, ?_⟩
      cases b with
      | true => exact q _ _ Γ1 H1 H01 h1 s1 k1 (.bl true)
      | false => exact sb B M Γ1 σ H1 H01 Q R k1 h1 fun v2 x2 Γ2 H2 H02 h2 s2 k2 r2 => q v2 x2 Γ2 H2 H02 h2 (s1.trans s2) k2 r2⟩
theorem pd_not (h1 : PD X a δa) : PD X (.UnaryOp .Not a pos) (dNotV δa) := match h1 with
  | ⟨_, ha, sa⟩ => ⟨_, pe_not ha, fun B M Γ σ H H0 Q R k h q => sa B M Γ σ H H0 _ _ k h fun v x Γ1 H1 H01 ⟨b, e, h1⟩ s1 k1 r1 => by
      subst e
      exact ⟨b, dp_bool_inv r1, q _ _ Γ1 H1 H01 h1 s1 k1 (.bl _)⟩⟩
def dIf (τ : DT) (δa δb : DE) : DE := fun Γ R => τ Γ fun b Γ1 => if b = true then δa Γ1 R else δb Γ1 R
theorem pd_ifExp {τ : DT} (h1 : PDT X c τ) (h2 : PD X a δa) (h3 : PD X b δb) : PD X (.IfExp c a b pos) (dIf τ δa δb) := match h1, h2, h3 with
  | ⟨_, hc, sc⟩, ⟨_, ha, sa⟩, ⟨_, hb, sb⟩ => ⟨_, pe_ifExp hc ha hb, fun B M Γ σ H H0 Q R k h q => sc B M Γ σ H H0 _ _ k h fun b Γ1 H1 H01 h1 s1 k1 => by
      cases b with
      | true => exact sa B M Γ1 σ H1 H01 Q R k1 h1 fun v2 x2 Γ2 H2 H02 h2 s2 k2 r2 => q v2 x2 Γ2 H2 H02 h2 (s1.trans s2) k2 r2
      | false => exact sb B M Γ1 σ H1 H01 Q R k1 h1 fun v2 x2 Γ2 H2 H02 h2 s2 k2 r2 => q v2 x2 Γ2 H2 H02 h2 (s1.trans s2) k2 r2⟩
/-! tests -/
def dAnd (τ υ : DT) : DT := fun Γ R => τ Γ fun b Γ1 => if b = true then υ Γ1 R else R false Γ1
def dOr (τ υ : DT) : DT := fun Γ R => τ Γ fun b Γ1 => if b = true then R true Γ1 else υ Γ1 R
def dNot (τ : DT) : DT := fun Γ R => τ Γ fun b Γ1 => R (!b) Γ1
theorem PDW.pt {τ : DT} (h1 : PDW X e τ) : PDT X e τ := match h1 with
  | ⟨_, h, s⟩ => ⟨_, h.pt, s⟩
theorem pdw_and1 {τ : DT} (h1 : PDT X a τ) : PDW X (.BoolOp .And [a] pos) τ := match h1 with
  | ⟨_, h, s⟩ => ⟨_, pw_and1 h, s⟩
theorem pdw_or1 {τ : DT} (h1 : PDT X a τ) : PDW X (.BoolOp .Or [a] pos) τ := match h1 with
  | ⟨_, h, s⟩ => ⟨_, pw_or1 h, s⟩
theorem pdw_and {τ υ : DT} {rest : List Expr} (h1 : PDT X a τ) (h2 : PDW X (.BoolOp .And (b :: rest) pos) υ) : PDW X (.BoolOp .And (a :: b :: rest) pos) (dAnd τ υ) := match h1, h2 with
  | ⟨_, ha, sa⟩, ⟨_, hb, sb⟩ => ⟨_, pw_and ha hb, fun B M Γ σ H H0 Q R k h q => sa B M Γ σ H H0 _ _ k h fun b Γ1 H1 H01 h1 s1 k1 => by
      cases b with
      | true => exact sb B M Γ1 σ H1 H01 Q R k1 h1 fun v2 Γ2 H2 H02 h2 s2 k2 => q v2 Γ2 H2 H02 h2 (s1.trans s2) k2
      | false => exact q _ Γ1 H1 H01 h1 s1 k1⟩
theorem pdw_or {τ υ : DT} {rest : List Expr} (h1 : PDT X a τ) (h2 : PDW X (.BoolOp .Or (b :: rest) pos) υ) : PDW X (.BoolOp .Or (a :: b :: rest) pos) (dOr τ υ) := match h1, h2 with
  | ⟨_, ha, sa⟩, ⟨_, hb, sb⟩ => ⟨_, pw_or ha hb, fun B M Γ σ H H0 Q R k h q => sa B M Γ σ H H0 _ _ k h fun b Γ1 H1 H01 h1 s1 k1 => by
      cases b with
      | true => exact q _ Γ1 H1 H01 h1 s1 k1
      | false => exact sb B M Γ1 σ H1 H01 Q R k1 h1 fun v2 Γ2 H2 H02 h2 s2 k2 => q v2 Γ2 H2 H02 h2 (s1.trans s2) k2⟩
theorem pdt_not {τ : DT} (h1 : PDT X a τ) : PDT X (.UnaryOp .Not a pos) (dNot τ) := match h1 with
  | ⟨_, h, s⟩ => ⟨_, pt_not h, fun B M Γ σ H H0 Q R k h1 q => s B M Γ σ H H0 _ _ k h1 fun b Γ1 H1 H01 h2 s1 k1 => q _ Γ1 H1 H01 h2 s1 k1⟩
/-! arguments, displays, calls of built-ins -/
def dNil : DA := fun Γ R => R [] Γ
def dCons (δ : DE) (α : DA) : DA := fun Γ R => δ Γ fun x Γ1 => α Γ1 fun xs Γ2 => R (x :: xs) Γ2
theorem pda_nil : PDA X [] dNil := ⟨_, pa_nil, fun _ _ Γ _ H H0 _ _ k h q => q [] [] Γ H H0 h (Same.refl _) k .nil⟩
theorem pda_cons {es : List Expr} {α : DA} (hs : starEach (e :: es) X.env = (false, eval e X.env) :: starEach es X.env := by rfl) (h1 : PD X e δe) (h2 : PDA X es α) : PDA X (e :: es) (dCons δe α) := match h1, h2 with
  | ⟨_, he, se⟩, ⟨_, ha, sa⟩ => ⟨_, pa_cons he ha hs, fun B M Γ σ H H0 Q R k h q => se B M Γ σ H H0 _ _ k h fun v x Γ1 H1 H01 h1 s1 k1 r1 => sa B M Γ1 σ H1 H01 _ _ k1 h1 fun vs xs Γ2 H2 H02 h2 s2 k2 r2 =>
      q (v :: vs) (x :: xs) Γ2 H2 H02 h2 (s1.trans s2) k2 (.cons (rx_same s2 r1) r2)⟩
def outs : List DV → Option (List D)
  | [] => some []
  | .d a :: l => (outs l).map (a :: ·)
  | .o _ :: _ => none
theorem outs_eq : ∀ {xs : List DV} {ds : List D}, outs xs = some ds → xs = ds.map DV.d
  | [], ds, h => by cases h; rfl
  | .d a :: l, ds, h => by
    unfold outs at h
    cases e : outs l with
    | none => rw [e] at h; cases h
    | some r =>
      rw [e] at h
      cases h
      rw [outs_eq e]
      rfl
  | .o _ :: _, ds, h => by cases h
theorem dpAll_of {K : PySem.W.Frag} {σ : L2.St} {H0 : Hp} : ∀ {vs : List V} {ds : List D}, RxAll K σ H0 vs (ds.map DV.d) → DpAll K H0 vs ds
  | _, [], .nil => .nil
  | _, _ :: _, .cons h t => .cons h (dpAll_of t)
def dTup (α : DA) : DE := fun Γ R => α Γ fun xs Γ1 => ∃ ds, outs xs = some ds ∧ ds.length ≤ 1000 ∧ R (.d (.tuple ds)) Γ1
def dLst (α : DA) : DE := fun Γ R => α Γ fun xs Γ1 => ∃ ds, outs xs = some ds ∧ ds.length ≤ 1000 ∧ R (.d (.list ds)) Γ1
theorem le_line {n : Nat} (h : n ≤ 1000) : n ≤ sizeLine := Nat.le_of_lt (small1000 h)
theorem pd_tup {es : List Expr} {α : DA} {x1 : Nat} (h1 : PDA X es α) : PD X (.Tuple es x1 pos) (dTup α) := match h1 with
  | ⟨_, h, s⟩ => ⟨_, pe_tupF h, fun B M Γ σ H H0 Q R k h1 q => s B M Γ σ H H0 _ _ k h1 fun vs xs Γ1 H1 H01 ⟨ds, e, hl, h2⟩ s1 k1 r1 => by
      cases outs_eq e
      have r2 := dpAll_of r1
      refine ⟨by rw [DpAll.length r2]; exact le_line hl, fun p o hp ho => ?_⟩
      obtain ⟨k2, s2⟩ := k1.laid (o := .frz o (.tup vs)) hp ho
      exact q _ _ Γ1 _ _ h2 (s1.trans s2) k2 (Dp.tup (.inl (.inr ⟨o, upd_same⟩)) (dpAll_same s2 r2))⟩
theorem pd_lst {es : List Expr} {α : DA} (h1 : PDA X es α) : PD X (.List es pos) (dLst α) := match h1 with
  | ⟨_, h, s⟩ => ⟨_, pe_lst h, fun B M Γ σ H H0 Q R k h1 q => s B M Γ σ H H0 _ _ k h1 fun vs xs Γ1 H1 H01 ⟨ds, e, hl, h2⟩ s1 k1 r1 => by
      cases outs_eq e
      have r2 := dpAll_of r1
      refine ⟨by rw [DpAll.length r2]; exact le_line hl, fun p hp => ?_⟩
      obtain ⟨k2, s2⟩ := k1.laid (o := .lst vs) hp
      exact q _ _ Γ1 _ _ h2 (s1.trans s2) k2 (Dp.lst (.inl (.inl upd_same)) (dpAll_same s2 r2))⟩
abbrev DRC := List DV → DCtx → DK → Prop
def CSim (K : PySem.W.Frag) (r : List V → Hp → VK → Prop) (ρ : DRC) : Prop := ∀ (B M : Hp) (Γ : DCtx) (σ : L2.St) (H H0 : Hp) (Q : VK) (R : DK) (xs : List DV) (vs : List V), Kn K B M Γ σ H H0 → RxAll K σ H0 vs xs → ρ xs Γ R →
  (∀ v x Γ' H' H0', R x Γ' → Same H0 H0' → Kn K B M Γ' σ H' H0' → Rx K σ H0' v x → Q v H') → r vs H Q
def dCB (ρ : DRC) (α : DA) : DE := fun Γ R => α Γ fun xs Γ1 => ρ xs Γ1 R
theorem sim_cb {K : PySem.W.Frag} {r : List V → Hp → VK → Prop} {ρ : DRC} {t : TA} {α : DA} (hs : CSim K r ρ) (h : SimA K t α) : Sim K (tCB r t) (dCB ρ α) := fun B M Γ σ H H0 Q R k h1 q =>
  h B M Γ σ H H0 _ _ k h1 fun vs xs Γ1 H1 H01 h2 s1 k1 r1 => hs B M Γ1 σ H1 H01 Q R xs vs k1 r1 h2 fun v x Γ2 H2 H02 h3 s2 k2 r2 => q v x Γ2 H2 H02 h3 (s1.trans s2) k2 r2
theorem pd_callB {x : Str} {p : Pos} {id : String} {r : List V → Hp → VK → Prop} {ρ : DRC} {es : List Expr} {α : DA} (hc : CallR X (.builtin id) r) (hs : CSim X.K r ρ) (hg : Gl X x) (hm : X.mg x = none) (hv : bootBuiltins x = some (.builtin id))
    (hst : starEach (e :: es) X.env = (false, eval e X.env) :: starEach es X.env := by rfl) (hn : x ≠ "__name__" := by decide) (hd : (x == ("__debug__" : Str)) = false := by decide) (hp : (backTo pos (starEach es X.env)).any (·.1) = false := by rfl) (h1 : PDA X (e :: es) α) : PD X (.Call (.Name x p) (e :: es) [] pos) (dCB ρ α) := match h1 with
  | ⟨_, ha, sa⟩ => ⟨_, pe_callB hc hg hm hv ha hn hd hst hp, sim_cb hs sa⟩
theorem pd_callTy {x : Str} {p : Pos} {ty : String} {r : List V → Hp → VK → Prop} {ρ : DRC} {es : List Expr} {α : DA} (hc : CallR X (.type ty) r) (hs : CSim X.K r ρ) (hg : Gl X x) (hm : X.mg x = none) (hv : bootBuiltins x = some (.type ty))
    (hst : starEach (e :: es) X.env = (false, eval e X.env) :: starEach es X.env := by rfl) (hn : x ≠ "__name__" := by decide) (hd : (x == ("__debug__" : Str)) = false := by decide) (hp : (backTo pos (starEach es X.env)).any (·.1) = false := by rfl) (h1 : PDA X (e :: es) α) : PD X (.Call (.Name x p) (e :: es) [] pos) (dCB ρ α) := match h1 with
  | ⟨_, ha, sa⟩ => ⟨_, pe_callTy hc hg hm hv ha hn hd hst hp, sim_cb hs sa⟩
end
end DL

set_option Elab.async false
set_option linter.all false
set_option maxRecDepth 100000
set_option maxHeartbeats 2000000
set_option autoImplicit false
namespace DL
open PySem L2

theorem bl_of {K : PySem.W.Frag} {H : Hp} {b b' : Bool} (h : b = b') : Dp K H (V.bl b) (.bool b') := by subst h; exact .bl b
/-! ### ints -/
def dI0 (g : Int → Int → D) : DR2 := fun x y Γ R => ∃ i j, x = .d (.int i) ∧ y = .d (.int j) ∧ R (.d (g i j)) Γ
def dI (C : Int → Int → Prop) (g : Int → Int → D) : DR2 := fun x y Γ R => ∃ i j, x = .d (.int i) ∧ y = .d (.int j) ∧ C i j ∧ R (.d (g i j)) Γ
section
variable {K : PySem.W.Frag}
theorem rs_I0 {g : Int → Int → V} {gd : Int → Int → D} (h : ∀ i j H, Dp K H (g i j) (gd i j)) : RSim2 K (rI0 g) (dI0 gd) := by
  intro B M Γ σ H H0 Q R x y v u k r1 r2 ⟨i, j, e1, e2, h1⟩ q
  subst e1 e2
  exact ⟨i, j, dp_int_inv r1, dp_int_inv r2, q _ _ Γ H H0 h1 (Same.refl _) k (h i j H0)⟩
theorem rs_I {C : Int → Int → Prop} {g : Int → Int → V} {gd : Int → Int → D} (h : ∀ i j H, Dp K H (g i j) (gd i j)) : RSim2 K (rI C g) (dI C gd) := by
  intro B M Γ σ H H0 Q R x y v u k r1 r2 ⟨i, j, e1, e2, hc, h1⟩ q
  subst e1 e2
  exact ⟨i, j, dp_int_inv r1, dp_int_inv r2, hc, q _ _ Γ H H0 h1 (Same.refl _) k (h i j H0)⟩
/-- == and != of scalars -/
def flatD : D → Bool
  | .none => true | .bool _ => true | .int _ => true | .str _ => true
  | _ => false
def vOf : D → V
  | .none => .non | .bool b => .bl b | .int i => .int i | .str z => .str z
  | _ => .non
theorem dp_flat {H : Hp} {v : V} : ∀ {d : D}, flatD d = true → Dp K H v d → v = vOf d
  | .none, _, h => dp_none_inv h
  | .bool _, _, h => dp_bool_inv h
  | .int _, _, h => dp_int_inv h
  | .str _, _, h => dp_str_inv h
  | .list _, f, _ => by cases f
  | .tuple _, f, _ => by cases f
  | .dict _, f, _ => by cases f
/-- ints | texts -/
def dEqI (neg : Bool) : DR2 := fun x y Γ R => ∃ i j, x = .d (.int i) ∧ y = .d (.int j) ∧ R (.d (.bool (neg != decide (i = j)))) Γ
def dEqS (neg : Bool) : DR2 := fun x y Γ R => ∃ a b, x = .d (.str (T a)) ∧ y = .d (.str (T b)) ∧ R (.d (.bool (neg != decide (a = b)))) Γ
def dEqB (neg : Bool) : DR2 := fun x y Γ R => ∃ a b : Bool, x = .d (.bool a) ∧ y = .d (.bool b) ∧ R (.d (.bool (neg != decide (a = b)))) Γ
theorem dec_str {a b : List Nat} : decide (V.str (T a) = V.str (T b)) = decide (a = b) := by
  by_cases h : a = b
  · subst h; simp
  · have : ¬ V.str (T a) = V.str (T b) := fun z => h (T_inj.mp (V.str.inj z))
    rw [decide_eq_false this, decide_eq_false h]
theorem rs_eqI : RSim2 K rEq (dEqI false) := by
  intro B M Γ σ H H0 Q R x y v u k r1 r2 ⟨i, j, e1, e2, h1⟩ q
  subst e1 e2
  cases dp_int_inv r1; cases dp_int_inv r2
  exact ⟨rfl, q _ _ Γ H H0 h1 (Same.refl _) k (bl_of (by rw [Bool.eq_iff_iff]; simp [T_inj, T]))⟩
theorem rs_neI : RSim2 K rNe (dEqI true) := by
  intro B M Γ σ H H0 Q R x y v u k r1 r2 ⟨i, j, e1, e2, h1⟩ q
  subst e1 e2
  cases dp_int_inv r1; cases dp_int_inv r2
  exact ⟨rfl, q _ _ Γ H H0 h1 (Same.refl _) k (bl_of (by rw [Bool.eq_iff_iff]; simp [T_inj, T]))⟩
theorem rs_eqS : RSim2 K rEq (dEqS false) := by
  intro B M Γ σ H H0 Q R x y v u k r1 r2 ⟨i, j, e1, e2, h1⟩ q
  subst e1 e2
  cases dp_str_inv r1; cases dp_str_inv r2
  exact ⟨rfl, q _ _ Γ H H0 h1 (Same.refl _) k (bl_of (by rw [Bool.eq_iff_iff]; simp [T_inj, T]))⟩
theorem rs_neS : RSim2 K rNe (dEqS true) := by
  intro B M Γ σ H H0 Q R x y v u k r1 r2 ⟨i, j, e1, e2, h1⟩ q
  subst e1 e2
  cases dp_str_inv r1; cases dp_str_inv r2
  exact ⟨rfl, q _ _ Γ H H0 h1 (Same.refl _) k (bl_of (by rw [Bool.eq_iff_iff]; simp [T_inj, T]))⟩
theorem rs_eqB : RSim2 K rEq (dEqB false) := by
  intro B M Γ σ H H0 Q R x y v u k r1 r2 ⟨i, j, e1, e2, h1⟩ q
  subst e1 e2
  cases dp_bool_inv r1; cases dp_bool_inv r2
  exact ⟨rfl, q _ _ Γ H H0 h1 (Same.refl _) k (bl_of (by rw [Bool.eq_iff_iff]; simp [T_inj, T]))⟩
theorem rs_neB : RSim2 K rNe (dEqB true) := by
  intro B M Γ σ H H0 Q R x y v u k r1 r2 ⟨i, j, e1, e2, h1⟩ q
  subst e1 e2
  cases dp_bool_inv r1; cases dp_bool_inv r2
  exact ⟨rfl, q _ _ Γ H H0 h1 (Same.refl _) k (bl_of (by rw [Bool.eq_iff_iff]; simp [T_inj, T]))⟩
/-- is, is not of bools -/
theorem rs_isB : RSim2 K rIsB (dEqB false) := by
  intro B M Γ σ H H0 Q R x y v u k r1 r2 ⟨i, j, e1, e2, h1⟩ q
  subst e1 e2
  exact ⟨i, j, dp_bool_inv r1, dp_bool_inv r2, q _ _ Γ H H0 h1 (Same.refl _) k (bl_of (by rw [Bool.eq_iff_iff]; simp [T_inj, T]))⟩
theorem rs_notB : RSim2 K rNotB (dEqB true) := by
  intro B M Γ σ H H0 Q R x y v u k r1 r2 ⟨i, j, e1, e2, h1⟩ q
  subst e1 e2
  exact ⟨i, j, dp_bool_inv r1, dp_bool_inv r2, q _ _ Γ H H0 h1 (Same.refl _) k (bl_of (by rw [Bool.eq_iff_iff]; simp [T_inj, T]))⟩
/-- deep == -/
def dEqD (neg : Bool) : DR2 := fun x y Γ R => ∃ a b, x = .d a ∧ y = .d b ∧ SeqAt.shaped a = true ∧ SeqAt.shaped b = true ∧ R (.d (.bool (neg != PyData.eqv a b))) Γ
theorem rs_eqD : RSim2 K (rEqD K) (dEqD false) := by
  intro B M Γ σ H H0 Q R x y v u k r1 r2 ⟨a, b, e1, e2, s1, s2, h1⟩ q
  subst e1 e2
  refine ⟨a, b, dp_same k.sub r1, dp_same k.sub r2, s1, s2, q _ _ Γ H H0 h1 (Same.refl _) k (bl_of (by simp))⟩
theorem rs_neD : RSim2 K (rNeD K) (dEqD true) := by
  intro B M Γ σ H H0 Q R x y v u k r1 r2 ⟨a, b, e1, e2, s1, s2, h1⟩ q
  subst e1 e2
  refine ⟨a, b, dp_same k.sub r1, dp_same k.sub r2, s1, s2, q _ _ Γ H H0 h1 (Same.refl _) k (bl_of (by simp))⟩
/-- texts put together, compared -/
def rAddS : R2 := fun x y H Q => ∃ i j, x = .str i ∧ y = .str j ∧ i.length + j.length ≤ sizeLine ∧ Q (.str (i ++ j)) H
def dAddS : DR2 := fun x y Γ R => ∃ a b, x = .d (.str (T a)) ∧ y = .d (.str (T b)) ∧ a.length + b.length ≤ 1000000 ∧ R (.d (.str (T (a ++ b)))) Γ
theorem T_app (a b : List Nat) : T a ++ T b = T (a ++ b) := by
  show (⟨a.toArray ++ b.toArray⟩ : Str) = ⟨(a ++ b).toArray⟩
  rw [List.append_toArray]
theorem line_m {n : Nat} (h : n ≤ 1000000) : n ≤ sizeLine := Nat.le_trans h (by decide)
theorem rs_addS : RSim2 K (fun x y H Q => ∃ i j, x = .str i ∧ y = .str j ∧ i.length + j.length ≤ sizeLine ∧ Q (.str (i ++ j)) H) dAddS := by
  intro B M Γ σ H H0 Q R x y v u k r1 r2 ⟨a, b, e1, e2, hl, h1⟩ q
  subst e1 e2
  refine ⟨T a, T b, dp_str_inv r1, dp_str_inv r2, line_m hl, q _ _ Γ H H0 h1 (Same.refl _) k ?_⟩
  rw [T_app]; exact .str _
def dLtS : DR2 := fun x y Γ R => ∃ a b, x = .d (.str (T a)) ∧ y = .d (.str (T b)) ∧ R (.d (.bool (decide (a < b)))) Γ
theorem rs_ltS : RSim2 K (fun x y H Q => ∃ i j, x = .str i ∧ y = .str j ∧ Q (.bl (decide (i.cps.toList < j.cps.toList))) H) dLtS := by
  intro B M Γ σ H H0 Q R x y v u k r1 r2 ⟨a, b, e1, e2, h1⟩ q
  subst e1 e2
  exact ⟨T a, T b, dp_str_inv r1, dp_str_inv r2, q _ _ Γ H H0 h1 (Same.refl _) k (.bl _)⟩
/-- one sign in a text -/
def dInC (neg : Bool) : DR2 := fun x y Γ R => ∃ c w, x = .d (.str (T [c])) ∧ y = .d (.str (T w)) ∧ R (.d (.bool (neg != decide (c ∈ w)))) Γ
theorem rs_inC : RSim2 K (fun x y H Q => ∃ (c : Nat) (z : Str), x = .str ⟨#[c]⟩ ∧ y = .str z ∧ Q (.bl (decide (c ∈ z.cps.toList))) H) (dInC false) := by
  intro B M Γ σ H H0 Q R x y v u k r1 r2 ⟨c, w, e1, e2, h1⟩ q
  subst e1 e2
  exact ⟨c, T w, dp_str_inv r1, dp_str_inv r2, q _ _ Γ H H0 h1 (Same.refl _) k (bl_of (by rw [Bool.eq_iff_iff]; simp [T] <;> (first | exact decide_eq_true_iff | exact decide_eq_false_iff_not)))⟩
theorem rs_notInC : RSim2 K (fun x y H Q => ∃ (c : Nat) (z : Str), x = .str ⟨#[c]⟩ ∧ y = .str z ∧ Q (.bl (!decide (c ∈ z.cps.toList))) H) (dInC true) := by
  intro B M Γ σ H H0 Q R x y v u k r1 r2 ⟨c, w, e1, e2, h1⟩ q
  subst e1 e2
  exact ⟨c, T w, dp_str_inv r1, dp_str_inv r2, q _ _ Γ H H0 h1 (Same.refl _) k (bl_of (by rw [Bool.eq_iff_iff]; simp [T] <;> (first | exact decide_eq_true_iff | exact decide_eq_false_iff_not)))⟩

/-! ### sequences: data, or a list of one's own -/
def Sq (Γ : DCtx) (x : DV) (ds : List D) : Prop := x = .d (.list ds) ∨ x = .d (.tuple ds) ∨ ∃ j p, x = .o j ∧ Γ[j]? = some (some (DCell.own p (.lst ds)))
theorem sq_get {B M : Hp} {Γ : DCtx} {σ : L2.St} {H H0 : Hp} {v : V} {x : DV} {ds : List D} (k : Kn K B M Γ σ H H0) (r : Rx K σ H0 v x) (h : Sq Γ x ds) : ∃ p vs, v = .ref p ∧ (SqL K H p vs ∨ SqT K H p vs) ∧ DpAll K H0 vs ds := by
  rcases h with rfl | rfl | ⟨j, p, rfl, e⟩
  · obtain ⟨a, xs, rfl, h1, h2⟩ := dp_list_inv r
    exact ⟨a, xs, rfl, .inl (k.sub.seq h1), h2⟩
  · obtain ⟨a, xs, rfl, h1, h2⟩ := dp_tuple_inv r
    exact ⟨a, xs, rfl, .inr (Same.sqT k.sub h1), h2⟩
  · obtain ⟨vs, x, z, w⟩ := k.ownL e
    have r : σ[j]? = some (some v) := r
    rw [x] at r; cases r
    exact ⟨p, vs, rfl, .inl (.inl (.inl z)), w⟩
/-- an item -/
def dIx : DR2 := fun x y Γ R => ∃ i ds d, y = .d (.int i) ∧ Sq Γ x ds ∧ atI ds i = some d ∧ R (.d d) Γ
def dIxS : DR2 := fun x y Γ R => ∃ i w c, y = .d (.int i) ∧ x = .d (.str (T w)) ∧ w.length ≤ 1000000 ∧ atI w i = some c ∧ R (.d (.str (T [c]))) Γ
theorem atI_dp {H0 : Hp} {vs : List V} {ds : List D} {i : Int} {d : D} (h : DpAll K H0 vs ds) (e : atI ds i = some d) : ∃ v, atI vs i = some v ∧ Dp K H0 v d := by
  unfold atI at e ⊢
  rw [DpAll.length h]
  cases q : ixN ds.length i with
  | none => rw [q] at e; cases e
  | some j =>
    rw [q] at e
    obtain ⟨v, a, b⟩ := DpAll.get (i := j) (d := d) h e
    exact ⟨v, a, b⟩
theorem rs_ix : RSim2 K (rIx K) dIx := by
  intro B M Γ σ H H0 Q R x y v u k r1 r2 ⟨i, ds, d, e2, hs, ha, h1⟩ q
  subst e2
  obtain ⟨p, vs, rfl, hq, hd⟩ := sq_get k r1 hs
  obtain ⟨w, hw, dw⟩ := atI_dp hd ha
  rcases hq with hq | hq
  · exact .inl ⟨p, vs, i, w, rfl, dp_int_inv r2, hq, hw, q _ _ Γ H H0 h1 (Same.refl _) k dw⟩
  · exact .inr (.inl ⟨p, vs, i, w, rfl, dp_int_inv r2, hq, hw, q _ _ Γ H H0 h1 (Same.refl _) k dw⟩)
theorem rs_ixS : RSim2 K rIxS dIxS := by
  intro B M Γ σ H H0 Q R x y v u k r1 r2 ⟨i, w, c, e2, e1, hl, ha, h1⟩ q
  subst e1 e2
  exact ⟨T w, i, c, dp_str_inv r1, dp_int_inv r2, line_m hl, by simpa [T] using ha, q _ _ Γ H H0 h1 (Same.refl _) k (.str _)⟩
/-- in, not in, of texts -/
def sD (w : List Nat) : D := .str (T w)
def dInS (neg : Bool) : DR2 := fun x y Γ R => ∃ (w : List Nat) (ws : List (List Nat)), x = .d (.str (T w)) ∧ Sq Γ y (ws.map sD) ∧ R (.d (.bool (neg != decide (w ∈ ws)))) Γ
theorem dpAll_sD {H0 : Hp} : ∀ {vs : List V} {ws : List (List Nat)}, DpAll K H0 vs (ws.map sD) → vs = ws.map (fun w => V.str (T w))
  | _, [], .nil => rfl
  | _, _ :: _, .cons h ha => by cases h; simp [dpAll_sD ha]
theorem dp_sD {H0 : Hp} : ∀ (ws : List (List Nat)), DpAll K H0 (ws.map (fun w => V.str (T w))) (ws.map sD)
  | [] => .nil
  | _ :: ws => .cons (.str _) (dp_sD ws)
theorem inV_str (w : List Nat) : ∀ ws : List (List Nat), inV (V.str (T w)) (ws.map (fun w => V.str (T w))) = decide (w ∈ ws)
  | [] => by simp [inV]
  | a :: ws => by
    have ih := inV_str w ws
    unfold inV at ih ⊢
    rw [List.map_cons, List.any_cons, ih]
    show ((T a == T w) || decide (w ∈ ws)) = decide (w ∈ a :: ws)
    by_cases h : a = w
    · subst h; simp
    · have : (T a == T w) = false := by
        rw [beq_eq_false_iff_ne]
        exact fun z => h (T_inj.mp z)
      rw [this]
      have h2 : ¬ w = a := fun z => h z.symm
      simp [h2]
theorem flat_strs : ∀ ws : List (List Nat), (ws.map (fun w => V.str (T w))).all flatV = true
  | [] => rfl
  | _ :: ws => by rw [List.map_cons, List.all_cons, flat_strs ws]; rfl
theorem rs_inS (neg : Bool) : RSim2 K (rIn K neg) (dInS neg) := by
  intro B M Γ σ H H0 Q R x y v u k r1 r2 ⟨w, ws, e1, hs, h1⟩ q
  subst e1
  obtain ⟨p, vs, rfl, hq, hd⟩ := sq_get k r2 hs
  cases dp_str_inv r1
  have e := dpAll_sD hd
  subst e
  refine ⟨p, _, rfl, hq, rfl, flat_strs ws, q _ _ Γ H H0 h1 (Same.refl _) k ?_⟩
  exact bl_of (by rw [inV_str]; cases neg <;> simp)
/-- lists put together; a list a number of times; tuples put together -/
def dCatT : DR2 := fun x y Γ R => ∃ a b, x = .d (.tuple a) ∧ y = .d (.tuple b) ∧ a.length + b.length ≤ 1000000 ∧ R (.d (.tuple (a ++ b))) Γ
theorem rs_catT : RSim2 K (rCatF K) dCatT := by
  intro B M Γ σ H H0 Q R x y v u k r1 r2 ⟨a, b, e1, e2, hl, h1⟩ q
  subst e1 e2
  obtain ⟨p, vs, rfl, hp, dv⟩ := dp_tuple_inv r1
  obtain ⟨p', us, rfl, hp', du⟩ := dp_tuple_inv r2
  refine ⟨p, p', vs, us, rfl, rfl, Same.sqT k.sub hp, Same.sqT k.sub hp', by rw [DpAll.length dv, DpAll.length du]; exact line_m hl, fun e => ?_, fun _ e => ?_, fun _ _ t o ht ho => ?_⟩
  · subst e
    cases dv
    exact q _ _ Γ H H0 h1 (Same.refl _) k r2
  · subst e
    cases du
    rw [List.append_nil] at h1
    exact q _ _ Γ H H0 h1 (Same.refl _) k r1
  · obtain ⟨k2, s2⟩ := k.laid (o := .frz o (.tup (vs ++ us))) ht ho
    exact q _ _ Γ _ _ h1 s2 k2 (Dp.tup (.inl (.inr ⟨o, upd_same⟩)) (dpAll_same s2 (DpAll.append dv du)))
end

/-! ### slices -/
abbrev DO := DCtx → (Option Int → DCtx → Prop) → Prop
def dNoPart : DO := fun Γ R => R none Γ
def dPart (δ : DE) : DO := fun Γ R => δ Γ fun x Γ1 => ∃ i, x = .d (.int i) ∧ R (some i) Γ1
def SimO (K : PySem.W.Frag) (t : TO) (δ : DO) : Prop := ∀ (B M : Hp) (Γ : DCtx) (σ : L2.St) (H H0 : Hp) (Q : Option Int → Hp → Prop) (R : Option Int → DCtx → Prop), Kn K B M Γ σ H H0 → δ Γ R →
  (∀ o Γ' H' H0', R o Γ' → Same H0 H0' → Kn K B M Γ' σ H' H0' → Q o H') → t σ H Q
def PDO (X : Cx) (e : Option Expr) (δ : DO) : Prop := ∃ t, PO X e t ∧ SimO X.K t δ
abbrev DRS := DV → Option Int → Option Int → DCtx → DK → Prop
def SSim (K : PySem.W.Frag) (r : V → Option Int → Option Int → Hp → VK → Prop) (ρ : DRS) : Prop := ∀ (B M : Hp) (Γ : DCtx) (σ : L2.St) (H H0 : Hp) (Q : VK) (R : DK) (x : DV) (lo hi : Option Int) (v : V), Kn K B M Γ σ H H0 → Rx K σ H0 v x → ρ x lo hi Γ R →
  (∀ v x Γ' H' H0', R x Γ' → Same H0 H0' → Kn K B M Γ' σ H' H0' → Rx K σ H0' v x → Q v H') → r v lo hi H Q
def dSl (ρ : DRS) (δ : DE) (α β : DO) : DE := fun Γ R => δ Γ fun x Γ1 => α Γ1 fun lo Γ2 => β Γ2 fun hi Γ3 => ρ x lo hi Γ3 R
/-- part of a list -/
def cut {α : Type} (xs : List α) (lo hi : Option Int) : List α := (xs.drop (HT.sIx xs.length 0 lo)).take (HT.sIx xs.length xs.length hi - HT.sIx xs.length 0 lo)
theorem cut_to {α : Type} (xs : List α) (k : Int) (h : 0 ≤ k) : cut xs none (some k) = xs.take k.toNat := by
  obtain ⟨n, rfl⟩ := Int.eq_ofNat_of_zero_le h
  show (xs.drop 0).take (HT.sIx xs.length xs.length (some (n : Int)) - 0) = _
  rw [HT.sIx_nat, List.drop_zero, Nat.sub_zero, Int.toNat_natCast]
  by_cases hn : n ≤ xs.length
  · rw [Nat.min_eq_left hn]
  · rw [Nat.min_eq_right (by omega), List.take_of_length_le (Nat.le_refl _), List.take_of_length_le (by omega)]
theorem cut_from {α : Type} (xs : List α) (k : Int) (h : 0 ≤ k) : cut xs (some k) none = xs.drop k.toNat := by
  obtain ⟨n, rfl⟩ := Int.eq_ofNat_of_zero_le h
  show (xs.drop (HT.sIx xs.length 0 (some (n : Int)))).take (xs.length - HT.sIx xs.length 0 (some (n : Int))) = _
  rw [HT.sIx_nat, Int.toNat_natCast]
  by_cases hn : n ≤ xs.length
  · rw [Nat.min_eq_left hn, List.take_of_length_le (by rw [List.length_drop]; exact Nat.le_refl _)]
  · rw [Nat.min_eq_right (by omega), List.drop_of_length_le (Nat.le_refl _), List.drop_of_length_le (by omega), List.take_nil]
theorem cut_mid {α : Type} (xs : List α) (j k : Int) (h : 0 ≤ j) (hk : 0 ≤ k) : cut xs (some j) (some k) = (xs.drop j.toNat).take (k.toNat - j.toNat) := by
  obtain ⟨n, rfl⟩ := Int.eq_ofNat_of_zero_le h
  obtain ⟨m, rfl⟩ := Int.eq_ofNat_of_zero_le hk
  show (xs.drop (HT.sIx xs.length 0 (some (n : Int)))).take (HT.sIx xs.length xs.length (some (m : Int)) - HT.sIx xs.length 0 (some (n : Int))) = _
  rw [HT.sIx_nat, HT.sIx_nat, Int.toNat_natCast, Int.toNat_natCast]
  by_cases hn : n ≤ xs.length
  · rw [Nat.min_eq_left hn]
    by_cases hm : m ≤ xs.length
    · rw [Nat.min_eq_left hm]
    · rw [Nat.min_eq_right (by omega), List.take_of_length_le (by rw [List.length_drop]; exact Nat.le_refl _), List.take_of_length_le (by rw [List.length_drop]; omega)]
  · rw [Nat.min_eq_right (a := n) (by omega), List.drop_of_length_le (Nat.le_refl _), List.drop_of_length_le (by omega), List.take_nil, List.take_nil]
theorem cut_len {α : Type} (xs : List α) (lo hi : Option Int) : (cut xs lo hi).length ≤ xs.length := by
  unfold cut
  rw [List.length_take, List.length_drop]
  omega
section
variable {X : Cx} {a b c e : Expr} {pos : Pos} {δa δb δc δe : DE}
theorem pdo_none : PDO X none dNoPart := ⟨_, po_none, fun _ _ Γ _ H H0 _ _ k h q => q none Γ H H0 h (Same.refl _) k⟩
theorem pdo_some (h1 : PD X e δe) : PDO X (some e) (dPart δe) := match h1 with
  | ⟨_, h, s⟩ => ⟨_, po_some h, fun B M Γ σ H H0 Q R k h1 q => s B M Γ σ H H0 _ _ k h1 fun v x Γ1 H1 H01 ⟨i, e, h2⟩ s1 k1 r1 => by
      subst e
      exact ⟨i, dp_int_inv r1, q (some i) Γ1 H1 H01 h2 s1 k1⟩⟩
theorem pd_slice {r : V → Option Int → Option Int → Hp → VK → Prop} {ρ : DRS} {lo hi : Option Expr} {α β : DO} {p2 : Pos} (hr : SlR X r) (hs : SSim X.K r ρ) (h1 : PD X e δe) (h2 : PDO X lo α) (h3 : PDO X hi β) : PD X (.Subscript e (.Slice lo hi none p2) pos) (dSl ρ δe α β) := match h1, h2, h3 with
  | ⟨_, he, se⟩, ⟨_, ha, sa⟩, ⟨_, hb, sb⟩ => ⟨_, pe_slice hr he ha hb, fun B M Γ σ H H0 Q R k h q => se B M Γ σ H H0 _ _ k h fun v x Γ1 H1 H01 h1 s1 k1 r1 => sa B M Γ1 σ H1 H01 _ _ k1 h1 fun l Γ2 H2 H02 h2 s2 k2 => sb B M Γ2 σ H2 H02 _ _ k2 h2 fun u Γ3 H3 H03 h3 s3 k3 =>
      hs B M Γ3 σ H3 H03 Q R x l u v k3 (rx_same (s2.trans s3) r1) h3 fun v4 x4 Γ4 H4 H04 h4 s4 k4 r4 => q v4 x4 Γ4 H4 H04 h4 (((s1.trans s2).trans s3).trans s4) k4 r4⟩
def dSlS : DRS := fun x lo hi Γ R => ∃ w, x = .d (.str (T w)) ∧ w.length ≤ 1000000 ∧ R (.d (.str (T (cut w lo hi)))) Γ
theorem ss_str {K : PySem.W.Frag} : SSim K rSlS dSlS := by
  intro B M Γ σ H H0 Q R x lo hi v k r ⟨w, e, hl, h1⟩ q
  subst e
  exact ⟨T w, dp_str_inv r, line_m hl, q _ _ Γ H H0 h1 (Same.refl _) k (.str _)⟩
def dSlL : DRS := fun x lo hi Γ R => ∃ ds, (x = .d (.list ds) ∨ ∃ j p, x = .o j ∧ Γ[j]? = some (some (DCell.own p (.lst ds)))) ∧ R (.d (.list (cut ds lo hi))) Γ
def dSlT : DRS := fun x lo hi Γ R => ∃ ds, x = .d (.tuple ds) ∧ R (.d (.tuple (cut ds lo hi))) Γ
theorem cutV_dp {K : PySem.W.Frag} {H0 : Hp} {vs : List V} {ds : List D} (lo hi : Option Int) (h : DpAll K H0 vs ds) : DpAll K H0 (cutV vs lo hi) (cut ds lo hi) := by
  unfold cutV cut
  rw [DpAll.length h]
  exact DpAll.take _ (DpAll.drop _ h)
theorem ss_list {K : PySem.W.Frag} : SSim K (rSlL K) dSlL := by
  intro B M Γ σ H H0 Q R x lo hi v k r ⟨ds, e, h1⟩ q
  have hS : Sq Γ x ds := by
    rcases e with e | e
    · exact .inl e
    · exact .inr (.inr e)
  have key : ∃ p vs, v = .ref p ∧ SqL K H p vs ∧ DpAll K H0 vs ds := by
    rcases e with rfl | ⟨j, p, rfl, e⟩
    · obtain ⟨a, xs, rfl, h1, h2⟩ := dp_list_inv r
      exact ⟨a, xs, rfl, k.sub.seq h1, h2⟩
    · obtain ⟨vs, x, z, w⟩ := k.ownL e
      have r : σ[j]? = some (some v) := r
      rw [x] at r; cases r
      exact ⟨p, vs, rfl, .inl (.inl z), w⟩
  obtain ⟨p, vs, rfl, hp, hd⟩ := key
  refine ⟨p, vs, rfl, hp, fun l hl => ?_⟩
  obtain ⟨k2, s2⟩ := k.laid (o := .lst (cutV vs lo hi)) hl
  exact q _ _ Γ _ _ h1 s2 k2 (Dp.lst (.inl (.inl upd_same)) (dpAll_same s2 (cutV_dp lo hi hd)))
theorem cut_all {α : Type} (xs : List α) {lo hi : Option Int} (h1 : HT.sIx xs.length 0 lo = 0) (h2 : HT.sIx xs.length xs.length hi = xs.length) : cut xs lo hi = xs := by
  unfold cut
  rw [h1, h2, List.drop_zero, Nat.sub_zero, List.take_of_length_le (Nat.le_refl _)]
theorem ss_tup {K : PySem.W.Frag} : SSim K (rSlF K) dSlT := by
  intro B M Γ σ H H0 Q R x lo hi v k r ⟨ds, e, h1⟩ q
  subst e
  obtain ⟨p, vs, rfl, hp, hd⟩ := dp_tuple_inv r
  refine ⟨p, vs, rfl, Same.sqT k.sub hp, fun ⟨e1, e2⟩ => ?_, fun _ l o hl ho => ?_⟩
  · rw [DpAll.length hd] at e1 e2
    rw [cut_all ds e1 e2] at h1
    exact q _ _ Γ H H0 h1 (Same.refl _) k r
  · obtain ⟨k2, s2⟩ := k.laid (o := .frz o (.tup (cutV vs lo hi))) hl ho
    exact q _ _ Γ _ _ h1 s2 k2 (Dp.tup (.inl (.inr ⟨o, upd_same⟩)) (dpAll_same s2 (cutV_dp lo hi hd)))
end
end DL

set_option Elab.async false
set_option linter.all false
set_option maxRecDepth 100000
set_option maxHeartbeats 2000000
set_option autoImplicit false
namespace DL
open PySem L2 PyProof.Rows

section
variable {X : Cx} {K : PySem.W.Frag}
/-- lists that are read, put together -/
def rCatQ (K : PySem.W.Frag) : R2 := fun x y H Q => ∃ l b xs zs, x = .ref l ∧ y = .ref b ∧ SqL K H l xs ∧ SqL K H b zs ∧ xs.length + zs.length ≤ sizeLine ∧ ∀ p, H p = none → Q (.ref p) (upd H p (.lst (xs ++ zs)))
theorem op_catQ : OpR X (binaryOp .Add) (rCatQ X.K) := by
  intro pins s σ H x y v u Q I rx ry h
  obtain ⟨l, b, xs, zs, rfl, rfl, hH, hB, hz, q⟩ := h
  cases rx
  cases ry
  obtain ⟨its, r, pl, _⟩ := I.list hH
  obtain ⟨its2, r2, pl2, _⟩ := I.list hB
  obtain ⟨⟨cls, dd, data, sl⟩, ho, hc, n, hd⟩ := pl.isList
  obtain ⟨⟨cls2, dd2, data2, sl2⟩, ho2, hc2, n2, hd2⟩ := pl2.isList
  simp only at hc hd hc2 hd2
  subst hc hd hc2 hd2
  have e : its.toArray ++ its2.toArray = (its ++ its2).toArray := by simp
  refine concat_meets ⟨_, ho, rfl⟩ ⟨_, ho2, rfl⟩ noFill_list_add seq_list_add PySem.F.slot_list_add PySem.F.entry_list_add (PySem.F.args_list_add_2 _ _) (list_addW l b its.toArray its2.toArray n n2 dd dd2 sl sl2 (by rw [List.size_toArray, List.size_toArray, ← r.length, ← r2.length]; exact hz)) ⟨ho, ho2, ?_⟩
  rw [e]
  exact ⟨.ref _, _, I.lnew (t' := s.toks) (r.append r2) (by rw [List.length_append]; exact hz), rfl, q _ I.fresh⟩
/-- a list, data or one's own -/
def Lq (Γ : DCtx) (x : DV) (ds : List D) : Prop := x = .d (.list ds) ∨ ∃ j p, x = .o j ∧ Γ[j]? = some (some (DCell.own p (.lst ds)))
theorem lq_get {B M : Hp} {Γ : DCtx} {σ : L2.St} {H H0 : Hp} {v : V} {x : DV} {ds : List D} (k : Kn K B M Γ σ H H0) (r : Rx K σ H0 v x) (h : Lq Γ x ds) : ∃ p vs, v = .ref p ∧ SqL K H p vs ∧ DpAll K H0 vs ds := by
  rcases h with rfl | ⟨j, p, rfl, e⟩
  · obtain ⟨a, xs, rfl, h1, h2⟩ := dp_list_inv r
    exact ⟨a, xs, rfl, k.sub.seq h1, h2⟩
  · obtain ⟨vs, x, z, w⟩ := k.ownL e
    have r : σ[j]? = some (some v) := r
    rw [x] at r; cases r
    exact ⟨p, vs, rfl, .inl (.inl z), w⟩
def dCatL : DR2 := fun x y Γ R => ∃ a b, Lq Γ x a ∧ Lq Γ y b ∧ a.length + b.length ≤ 1000000 ∧ R (.d (.list (a ++ b))) Γ
theorem rs_catL : RSim2 K (rCatQ K) dCatL := by
  intro B M Γ σ H H0 Q R x y v u k r1 r2 ⟨a, b, e1, e2, hl, h1⟩ q
  obtain ⟨p, vs, rfl, hp, dv⟩ := lq_get k r1 e1
  obtain ⟨p', us, rfl, hp', du⟩ := lq_get k r2 e2
  refine ⟨p, p', vs, us, rfl, rfl, hp, hp', by rw [DpAll.length dv, DpAll.length du]; exact line_m hl, fun t ht => ?_⟩
  obtain ⟨k2, s2⟩ := k.laid (o := .lst (vs ++ us)) ht
  exact q _ _ Γ _ _ h1 s2 k2 (Dp.lst (.inl (.inl upd_same)) (dpAll_same s2 (DpAll.append dv du)))
/-! ### built-in functions over data -/
def dLen : DRC := fun xs Γ R => ∃ x ds, xs = [x] ∧ Sq Γ x ds ∧ R (.d (.int ds.length)) Γ
theorem cs_len : CSim K (fun xs H Q => ∃ p ys, xs = [.ref p] ∧ (SqL K H p ys ∨ SqT K H p ys) ∧ Q (.int ys.length) H) dLen := by
  intro B M Γ σ H H0 Q R xs vs k r ⟨x, ds, e, hs, h1⟩ q
  subst e
  cases r with
  | cons r1 r2 =>
    cases r2
    obtain ⟨p, us, rfl, hp, du⟩ := sq_get k r1 hs
    exact ⟨p, us, rfl, hp, q _ _ Γ H H0 h1 (Same.refl _) k (by rw [DpAll.length du]; exact .int _)⟩
def dLenS : DRC := fun xs Γ R => ∃ w, xs = [.d (.str (T w))] ∧ w.length ≤ 1000000 ∧ R (.d (.int w.length)) Γ
theorem cs_lenS : CSim K (fun xs H Q => ∃ z, xs = [.str z] ∧ z.length ≤ sizeLine ∧ Q (.int z.length) H) dLenS := by
  intro B M Γ σ H H0 Q R xs vs k r ⟨w, e, hl, h1⟩ q
  subst e
  cases r with
  | cons r1 r2 =>
    cases r2
    cases dp_str_inv r1
    exact ⟨T w, rfl, line_m hl, q _ _ Γ H H0 h1 (Same.refl _) k (.int _)⟩
def dAll : DRC := fun xs Γ R => ∃ bs : List Bool, xs = [.d (.list (bs.map PyData.bool))] ∧ R (.d (.bool (bs.all id))) Γ
theorem cs_all : CSim K (rAll K) dAll := by
  intro B M Γ σ H H0 Q R xs vs k r ⟨bs, e, h1⟩ q
  subst e
  cases r with
  | cons r1 r2 =>
    cases r2
    obtain ⟨p, us, rfl, hp, du⟩ := dp_list_inv r1
    have e := dpAll_bools du
    subst e
    exact ⟨p, bs, rfl, k.sub.seq hp, q _ _ Γ H H0 h1 (Same.refl _) k (.bl _)⟩
def dAny : DRC := fun xs Γ R => ∃ bs : List Bool, xs = [.d (.list (bs.map PyData.bool))] ∧ R (.d (.bool (bs.any id))) Γ
theorem cs_any : CSim K (rAny K) dAny := by
  intro B M Γ σ H H0 Q R xs vs k r ⟨bs, e, h1⟩ q
  subst e
  cases r with
  | cons r1 r2 =>
    cases r2
    obtain ⟨p, us, rfl, hp, du⟩ := dp_list_inv r1
    have e := dpAll_bools du
    subst e
    exact ⟨p, bs, rfl, k.sub.seq hp, q _ _ Γ H H0 h1 (Same.refl _) k (.bl _)⟩
def dAbs : DRC := fun xs Γ R => ∃ i, xs = [.d (.int i)] ∧ R (.d (.int (if i < 0 then -i else i))) Γ
theorem cs_abs : CSim K (fun xs H Q => ∃ i, xs = [.int i] ∧ Q (.int (if i < 0 then -i else i)) H) dAbs := by
  intro B M Γ σ H H0 Q R xs vs k r ⟨i, e, h1⟩ q
  subst e
  cases r with
  | cons r1 r2 =>
    cases r2
    cases dp_int_inv r1
    exact ⟨i, rfl, q _ _ Γ H H0 h1 (Same.refl _) k (.int _)⟩
def dMM (f : Int → Int → Int) : DRC := fun xs Γ R => ∃ i j, xs = [.d (.int i), .d (.int j)] ∧ R (.d (.int (f i j))) Γ
theorem cs_mm {f : Int → Int → Int} : CSim K (fun xs H Q => ∃ i j, xs = [.int i, .int j] ∧ Q (.int (f i j)) H) (dMM f) := by
  intro B M Γ σ H H0 Q R xs vs k r ⟨i, j, e, h1⟩ q
  subst e
  cases r with
  | cons r1 r2 =>
    cases r2 with
    | cons r2 r3 =>
      cases r3
      cases dp_int_inv r1
      cases dp_int_inv r2
      exact ⟨i, j, rfl, q _ _ Γ H H0 h1 (Same.refl _) k (.int _)⟩
def dInt : DRC := fun xs Γ R => ∃ b : Bool, xs = [.d (.bool b)] ∧ R (.d (.int (if b then 1 else 0))) Γ
theorem cs_int : CSim K (fun xs H Q => (∃ i, xs = [.int i] ∧ Q (.int i) H) ∨ ∃ k, xs = [.bl k] ∧ Q (.int (if k then 1 else 0)) H) dInt := by
  intro B M Γ σ H H0 Q R xs vs k r ⟨b, e, h1⟩ q
  subst e
  cases r with
  | cons r1 r2 =>
    cases r2
    cases dp_bool_inv r1
    exact .inr ⟨b, rfl, q _ _ Γ H H0 h1 (Same.refl _) k (.int _)⟩
/-- list(x), tuple(x) of a sequence -/
def dListOf : DRC := fun xs Γ R => ∃ x ds, xs = [x] ∧ Sq Γ x ds ∧ R (.d (.list ds)) Γ
theorem cs_listOf : CSim K (fun xs H Q => ∃ p ys, xs = [.ref p] ∧ (SqL K H p ys ∨ SqT K H p ys) ∧ ∀ l, H l = none → Q (.ref l) (upd H l (.lst ys))) dListOf := by
  intro B M Γ σ H H0 Q R xs vs k r ⟨x, ds, e, hs, h1⟩ q
  subst e
  cases r with
  | cons r1 r2 =>
    cases r2
    obtain ⟨p, us, rfl, hp, du⟩ := sq_get k r1 hs
    refine ⟨p, us, rfl, hp, fun l hl => ?_⟩
    obtain ⟨k2, s2⟩ := k.laid (o := .lst us) hl
    exact q _ _ Γ _ _ h1 s2 k2 (Dp.lst (.inl (.inl upd_same)) (dpAll_same s2 du))
def dTupOf : DRC := fun xs Γ R => ∃ x ds, xs = [x] ∧ Sq Γ x ds ∧ R (.d (.tuple ds)) Γ
theorem cs_tupOf : CSim K (fun xs H Q => ∃ p ys, xs = [.ref p] ∧ ((SqL K H p ys ∧ ∀ l o, H l = none → o.dict = none → Q (.ref l) (upd H l (.frz o (.tup ys)))) ∨ (SqT K H p ys ∧ Q (.ref p) H))) dTupOf := by
  intro B M Γ σ H H0 Q R xs vs k r ⟨x, ds, e, hs, h1⟩ q
  subst e
  cases r with
  | cons r1 r2 =>
    cases r2
    have lay : ∀ (us : List V), DpAll K H0 us ds → ∀ (l : Addr) (o : Obj), H l = none → o.dict = none → Q (.ref l) (upd H l (.frz o (.tup us))) := fun us du l o hl ho => by
      obtain ⟨k2, s2⟩ := k.laid (o := .frz o (.tup us)) hl ho
      exact q _ _ Γ _ _ h1 s2 k2 (Dp.tup (.inl (.inr ⟨o, upd_same⟩)) (dpAll_same s2 du))
    rcases hs with rfl | rfl | hs
    · obtain ⟨a, us, rfl, hp, du⟩ := dp_list_inv r1
      exact ⟨a, us, rfl, .inl ⟨k.sub.seq hp, lay us du⟩⟩
    · obtain ⟨a, us, rfl, hp, du⟩ := dp_tuple_inv r1
      exact ⟨a, us, rfl, .inr ⟨Same.sqT k.sub hp, q _ _ Γ H H0 h1 (Same.refl _) k r1⟩⟩
    · obtain ⟨p, us, rfl, hp, du⟩ := lq_get k r1 (.inr hs)
      exact ⟨p, us, rfl, .inl ⟨hp, lay us du⟩⟩
/-- isinstance of data and a built-in class -/
def tyN : D → String
  | .none => "NoneType" | .bool _ => "bool" | .int _ => "int" | .str _ => "str" | .list _ => "list" | .tuple _ => "tuple" | .dict _ => "dict"
end
end DL

set_option Elab.async false
set_option linter.all false
set_option maxRecDepth 100000
set_option maxHeartbeats 2000000
set_option autoImplicit false
namespace DL
open PySem L2 PyProof.Rows

/-! ### a new thing on its way to a slot: one more thing in B -/
section
variable {K : PySem.W.Frag} {B M : Hp} {Γ : DCtx} {σ : L2.St} {H H0 : Hp} {p : Addr} {o o' : HO}
theorem Kn.newB (k : Kn K B M Γ σ H H0) (hp : H p = none) : Kn K (upd B p o) M Γ σ (upd H p o) H0 := by
  have h0 : H0 p = none := k.sub.free hp
  have hB : B p = none := k.base.free hp
  refine ⟨fun b x e => ?_, k.mm, fun b x e => ?_, fun a x e n => ?_, k.len, k.val, fun i q o' e => ?_, k.sep, k.cl⟩
  · by_cases hb : b = p
    · subst hb; rw [upd_same] at e ⊢; exact e
    · rw [upd_ne hb] at e ⊢; exact k.base b x e
  · rw [upd_ne (ne_of_none e h0)]; exact k.sub b x e
  · by_cases ha : a = p
    · subst ha; exact h0
    · rw [upd_ne ha] at e; exact k.new a x e n
  · obtain ⟨h, a, b0, b, c, d⟩ := k.own i q o' e
    have ne : q ≠ p := ne_of_none c hp
    exact ⟨h, a, by rw [upd_ne ne]; exact b0, b, by rw [upd_ne ne]; exact c, d⟩
theorem Kn.laidH (k : Kn K B M Γ σ H H0) (hp : H p = none) : Kn K B M Γ σ (upd H p o) H0 := by
  have h0 : H0 p = none := k.sub.free hp
  refine ⟨fun b x e => ?_, k.mm, fun b x e => ?_, k.new, k.len, k.val, fun i q o' e => ?_, k.sep, k.cl⟩
  · rw [upd_ne (ne_of_none e (k.base.free hp))]; exact k.base b x e
  · rw [upd_ne (ne_of_none e h0)]; exact k.sub b x e
  · obtain ⟨h, a, b0, b, c, d⟩ := k.own i q o' e
    exact ⟨h, a, b0, b, by rw [upd_ne (ne_of_none c hp)]; exact c, d⟩
theorem Kn.setB (k : Kn K (upd B p o) M Γ σ H H0) (hM : M p = none) : Kn K (upd B p o') M Γ σ (upd H p o') H0 := by
  have h0 : H0 p = none := k.new p o upd_same hM
  refine ⟨fun b x e => ?_, k.mm, fun b x e => ?_, fun a x e n => ?_, k.len, k.val, fun i q o2 e => ?_, k.sep, k.cl⟩
  · by_cases hb : b = p
    · subst hb; rw [upd_same] at e ⊢; exact e
    · rw [upd_ne hb] at e ⊢; exact k.base b x (by rw [upd_ne hb]; exact e)
  · rw [upd_ne (ne_of_none e h0)]; exact k.sub b x e
  · by_cases ha : a = p
    · subst ha; exact h0
    · rw [upd_ne ha] at e; exact k.new a x (by rw [upd_ne ha]; exact e) n
  · obtain ⟨h, a, b0, b, c, d⟩ := k.own i q o2 e
    have ne : q ≠ p := fun z => by subst z; rw [upd_same] at b0; cases b0
    exact ⟨h, a, by rw [upd_ne ne] at b0 ⊢; exact b0, b, by rw [upd_ne ne]; exact c, d⟩
/-- it becomes data -/
theorem Kn.frzB (k : Kn K (upd B p o) M Γ σ H H0) (hB : B p = none) (hM : M p = none) (ho : okU o := by trivial) : Kn K B M Γ σ H (upd H0 p o) ∧ Same H0 (upd H0 p o) := by
  have h0 : H0 p = none := k.new p o upd_same hM
  have s0 : Same H0 (upd H0 p o) := fun b x e => by rw [upd_ne (ne_of_none e h0)]; exact e
  refine ⟨⟨fun b x e => ?_, k.mm.trans s0, fun b x e => ?_, fun a x e n => ?_, k.len, fun i d e => ?_, fun i q o2 e => ?_, k.sep, k.cl.upd ho⟩, s0⟩
  · exact k.base b x (by rw [upd_ne (ne_of_none e hB)]; exact e)
  · by_cases hb : b = p
    · subst hb; rw [upd_same] at e; exact k.base b x (by rw [upd_same]; exact e)
    · rw [upd_ne hb] at e; exact k.sub b x e
  · have ne := ne_of_none e hB
    rw [upd_ne ne]; exact k.new a x (by rw [upd_ne ne]; exact e) n
  · obtain ⟨v, a, b⟩ := k.val i d e
    exact ⟨v, a, dp_same s0 b⟩
  · obtain ⟨h, a, b0, b, c, d⟩ := k.own i q o2 e
    have ne : q ≠ p := fun z => by subst z; rw [upd_same] at b0; cases b0
    exact ⟨h, a, by rw [upd_ne ne] at b0; exact b0, by rw [upd_ne ne]; exact b, c, obOk_same s0 d⟩
/-- it is put into a slot -/
theorem Kn.takeB {i : Nat} {q : DOb} (k : Kn K (upd B p o) M Γ σ H H0) (hB : B p = none) (hM : M p = none) (hq : ObOk K H0 q o) : Kn K B M (Γ.set i (some (DCell.own p q))) (σ.set i (some (V.ref p))) H H0 := by
  have h0 : H0 p = none := k.new p o upd_same hM
  have hp : H p = some o := k.base p o upd_same
  have old : ∀ {j : Nat} {o' : DOb} {q : Addr}, Γ[j]? = some (some (DCell.own q o')) → q ≠ p := fun {j o' q} e z => by
    obtain ⟨h', x, y0, y, w⟩ := k.own j q o' e
    subst z; rw [upd_same] at y0; cases y0
  refine ⟨fun b x e => k.base b x (by rw [upd_ne (ne_of_none e hB)]; exact e), k.mm, k.sub, fun a x e n => k.new a x (by rw [upd_ne (ne_of_none e hB)]; exact e) n, by simp [k.len], fun j d' e => ?_, fun j r o' e => ?_, fun a b oa ob pa pb hab ea eb => ?_, k.cl⟩
  · rcases set_get e with ⟨_, e1, _⟩ | ⟨hj, e⟩
    · cases e1
    · obtain ⟨u, x, y⟩ := k.val j d' e
      exact ⟨u, by rw [List.getElem?_set_ne hj]; exact x, y⟩
  · rcases set_get e with ⟨rfl, e1, hi⟩ | ⟨hj, e⟩
    · cases e1
      exact ⟨o, by rw [List.getElem?_set_self (by rw [← k.len]; exact hi)], hB, h0, hp, hq⟩
    · obtain ⟨h', x, y0, y, z, w⟩ := k.own j r o' e
      exact ⟨h', by rw [List.getElem?_set_ne hj]; exact x, by rw [upd_ne (old e)] at y0; exact y0, y, z, w⟩
  · rcases set_get ea with ⟨rfl, e1, hi⟩ | ⟨na, ea⟩
    · rcases set_get eb with ⟨rfl, _, _⟩ | ⟨nb, eb⟩
      · exact absurd rfl hab
      · cases e1; exact (old eb).symm
    · rcases set_get eb with ⟨rfl, e1, hi⟩ | ⟨nb, eb⟩
      · cases e1; exact old ea
      · exact k.sep a b oa ob pa pb hab ea eb
end

abbrev DN := DCtx → (DOb → DCtx → Prop) → Prop
def SimN (K : PySem.W.Frag) (t : TE) (ν : DN) : Prop := ∀ (B M : Hp) (Γ : DCtx) (σ : L2.St) (H H0 : Hp) (Q : VK) (R : DOb → DCtx → Prop), Kn K B M Γ σ H H0 → ν Γ R →
  (∀ p h o Γ' H' H0', R o Γ' → Same H0 H0' → B p = none → M p = none → Kn K (upd B p h) M Γ' σ H' H0' → ObOk K H0' o h → Q (.ref p) H') → t σ H Q
def PDN (X : Cx) (e : Expr) (ν : DN) : Prop := ∃ t, PE X e t ∧ SimN X.K t ν
/-- a new list as data -/
def dFrz (ν : DN) : DE := fun Γ R => ν Γ fun o Γ1 => ∃ ds, o = .lst ds ∧ R (.d (.list ds)) Γ1
theorem sim_frz {K : PySem.W.Frag} {t : TE} {ν : DN} (h : SimN K t ν) : Sim K t (dFrz ν) := fun B M Γ σ H H0 Q R k h1 q =>
  h B M Γ σ H H0 Q _ k h1 fun p hh o Γ1 H1 H01 ⟨ds, e, h2⟩ s1 hB hM k1 ok => by
    subst e
    cases ok with
    | lst ok =>
      obtain ⟨k2, s2⟩ := k1.frzB hB hM
      exact q _ _ Γ1 _ _ h2 (s1.trans s2) k2 (Dp.lst (.inl (.inl upd_same)) (dpAll_same s2 ok))
section
variable {X : Cx} {a b c e : Expr} {pos : Pos} {δa δb δc δe : DE} {ν : DN}
theorem pd_frz (h1 : PDN X e ν) : PD X e (dFrz ν) := match h1 with
  | ⟨_, h, s⟩ => ⟨_, h, sim_frz s⟩
def nLst (α : DA) : DN := fun Γ R => α Γ fun xs Γ1 => ∃ ds, outs xs = some ds ∧ ds.length ≤ 1000 ∧ R (.lst ds) Γ1
theorem pdn_lst {es : List Expr} {α : DA} (h1 : PDA X es α) : PDN X (.List es pos) (nLst α) := match h1 with
  | ⟨_, h, s⟩ => ⟨_, pe_lst h, fun B M Γ σ H H0 Q R k h1 q => s B M Γ σ H H0 _ _ k h1 fun vs xs Γ1 H1 H01 ⟨ds, e, hl, h2⟩ s1 k1 r1 => by
      cases outs_eq e
      have r2 := dpAll_of r1
      exact ⟨by rw [DpAll.length r2]; exact le_line hl, fun p hp => q p (.lst vs) (.lst ds) Γ1 _ _ h2 s1 (k1.base.free hp) ((k1.mm.trans k1.sub).free hp) (k1.newB hp) (.lst r2)⟩⟩
def nDict : DN := fun Γ R => R (.dK []) Γ
theorem pdn_dict : PDN X (.Dict [] [] pos) nDict := ⟨_, pe_dnewK, fun B M Γ σ H H0 Q R k h1 q p hp => q p (.dK []) (.dK []) Γ _ _ h1 (Same.refl _) (k.base.free hp) ((k.mm.trans k.sub).free hp) (k.newB hp) (.dK .nil)⟩
def nDictT : DN := fun Γ R => R (.dT []) Γ
theorem pdn_dictT : PDN X (.Dict [] [] pos) nDictT := ⟨_, pe_dnewT, fun B M Γ σ H H0 Q R k h1 q p hp => q p (.dT []) (.dT []) Γ _ _ h1 (Same.refl _) (k.base.free hp) ((k.mm.trans k.sub).free hp) (k.newB hp) (.dT .nil)⟩

/-! ### statements -/
def sNext : DS := fun D Γ => D.nx Γ
def sSeq (β γ : DS) : DS := fun D Γ => β { D with nx := γ D } Γ
theorem pdss_nil : PDSs X [] sNext := ⟨_, pss_nil, fun _ _ Γ σ H H0 E D k h ok => ok.nx Γ σ H H0 h (Same.refl _) k⟩
theorem pdss_cons {st : Stmt} {rest : List Stmt} {β γ : DS} (h1 : PDS X st β) (h2 : PDSs X rest γ) : PDSs X (st :: rest) (sSeq β γ) := match h1, h2 with
  | ⟨_, h, s⟩, ⟨_, h2, s2⟩ => ⟨_, pss_cons h h2, fun B M Γ σ H H0 E D k q ok => s B M Γ σ H H0 _ { D with nx := γ D } k q ⟨fun Γ1 σ1 H1 H01 q1 e1 k1 => s2 B M Γ1 σ1 H1 H01 E D k1 q1 (ok.later e1), ok.rt, ok.bk, ok.ct⟩⟩
theorem pdss_one {st : Stmt} {β : DS} (h1 : PDS X st β) : PDSs X [st] β := match h1 with
  | ⟨_, h, s⟩ => ⟨_, pss_one h, s⟩
def sNever : DS := fun _ _ => False
theorem pds_never {st : Stmt} : PDS X st sNever := ⟨_, ps_never, fun _ _ _ _ _ _ _ _ _ h _ => h.elim⟩
theorem pdss_never {sts : List Stmt} : PDSs X sts sNever := ⟨_, pss_never, fun _ _ _ _ _ _ _ _ _ h _ => h.elim⟩
theorem pds_pass : PDS X (.Pass pos) sNext := ⟨_, ps_pass, fun _ _ Γ σ H H0 E D k h ok => ok.nx Γ σ H H0 h (Same.refl _) k⟩
def sBreak : DS := fun D Γ => D.bk Γ
theorem pds_break : PDS X (.Break pos) sBreak := ⟨_, ps_break, fun _ _ Γ σ H H0 E D k h ok => ok.bk Γ σ H H0 h (Same.refl _) k⟩
/-- a value as data: an own list is given away -/
def asD (R : D → DCtx → Prop) : DV → DCtx → Prop := fun x Γ => (∃ d, x = .d d ∧ R d Γ) ∨ ∃ j p ds, x = .o j ∧ Γ[j]? = some (some (DCell.own p (.lst ds))) ∧ R (.list ds) (Γ.set j none)
def sRet (δ : DE) : DS := fun D Γ => δ Γ (asD D.rt)
theorem asD_ok {K : PySem.W.Frag} {B M : Hp} {Γ : DCtx} {σ : L2.St} {H H0 : Hp} {v : V} {x : DV} {R : D → DCtx → Prop} (k : Kn K B M Γ σ H H0) (r : Rx K σ H0 v x) (h : asD R x Γ) : ∃ d Γ' H1, R d Γ' ∧ Same H0 H1 ∧ Kn K B M Γ' σ H H1 ∧ Dp K H1 v d := by
  rcases h with ⟨d, rfl, h⟩ | ⟨j, p, ds, rfl, e, h⟩
  · exact ⟨d, Γ, H0, h, Same.refl _, k, r⟩
  · obtain ⟨u, H1, x, s1, d1, k1⟩ := k.freeze e
    have r : σ[j]? = some (some v) := r
    rw [x] at r; cases r
    have := k1.drop j
    rw [List.set_set] at this
    exact ⟨_, _, H1, h, s1, this, d1⟩
theorem pds_ret (h1 : PD X e δe) : PDS X (.Return (some e) pos) (sRet δe) := match h1 with
  | ⟨_, h, s⟩ => ⟨_, ps_ret h, fun B M Γ σ H H0 E D k q ok => s B M Γ σ H H0 _ _ k q fun v x Γ1 H1 H01 h1 s1 k1 r1 => by
      obtain ⟨d, Γ2, H02, h2, s2, k2, r2⟩ := asD_ok k1 r1 h1
      exact ok.rt v d Γ2 σ H1 H02 h2 (s1.trans s2) k2 r2⟩
def sRetN : DS := fun D Γ => D.rt .none Γ
theorem pds_retN : PDS X (.Return none pos) sRetN := ⟨_, ps_retN, fun B M Γ σ H H0 E D k q ok => ok.rt .non .none Γ σ H H0 q (Same.refl _) k .non⟩
def sDrop (δ : DE) : DS := fun D Γ => δ Γ fun _ Γ1 => D.nx Γ1
theorem pds_expr (hs : swapsWith e none pos.line X.env = pure false := by rfl) (h1 : PD X e δe) : PDS X (.Expr e pos) (sDrop δe) := match h1 with
  | ⟨_, h, s⟩ => ⟨_, ps_expr h hs, fun B M Γ σ H H0 E D k q ok => s B M Γ σ H H0 _ _ k q fun v x Γ1 H1 H01 h1 s1 k1 r1 => ok.nx Γ1 σ H1 H01 h1 s1 k1⟩
def sIf (τ : DT) (β γ : DS) : DS := fun D Γ => τ Γ fun b Γ1 => if b = true then β D Γ1 else γ D Γ1
theorem pds_if {τ : DT} {sa sb : List Stmt} {β γ : DS} (h1 : PDT X c τ) (h2 : PDSs X sa β) (h3 : PDSs X sb γ) : PDS X (.If c sa sb pos) (sIf τ β γ) := match h1, h2, h3 with
  | ⟨_, hc, sc⟩, ⟨_, ha, sa⟩, ⟨_, hb, sb⟩ => ⟨_, ps_if hc ha hb, fun B M Γ σ H H0 E D k q ok => sc B M Γ σ H H0 _ _ k q fun b Γ1 H1 H01 h1 s1 k1 => by
      cases b with
      | true => exact sa B M Γ1 σ H1 H01 E D k1 h1 (ok.later s1)
      | false => exact sb B M Γ1 σ H1 H01 E D k1 h1 (ok.later s1)⟩
/-! targets -/
abbrev DG := D → DCtx → (DCtx → Prop) → Prop
def SimG (K : PySem.W.Frag) (g : TG) (γ : DG) : Prop := ∀ (B M : Hp) (Γ : DCtx) (σ : L2.St) (H H0 : Hp) (v : V) (d : D) (Q : L2.St → Hp → Prop) (R : DCtx → Prop), Kn K B M Γ σ H H0 → Dp K H0 v d → γ d Γ R →
  (∀ Γ' σ', R Γ' → Kn K B M Γ' σ' H H0 → Q σ' H) → g v σ H Q
def PDG (X : Cx) (tg : Expr) (γ : DG) : Prop := ∃ g, PG X tg g ∧ SimG X.K g γ
def gNm (i : Nat) : DG := fun d Γ R => R (Γ.set i (some (DCell.val d)))
theorem pdg_name {i : Nat} {x : Str} (hN : X.N.Nodup) (hi : X.N[i]? = some x := by rfl) (hx : Loc X.env.scope x := by first | exact Or.inl rfl | exact Or.inr rfl) (hf : X.fn x = true ∨ X.env.scope.names.lookup x = some .local := by first | exact .inl rfl | exact .inr rfl) : PDG X (.Name x pos) (gNm i) :=
  ⟨_, pg_name hN hi hx hf, fun B M Γ σ H H0 v d Q R k r h q => q _ _ h (k.set r)⟩
abbrev DGs := List D → DCtx → (DCtx → Prop) → Prop
def SimGs (K : PySem.W.Frag) (g : TGs) (γ : DGs) : Prop := ∀ (B M : Hp) (Γ : DCtx) (σ : L2.St) (H H0 : Hp) (vs : List V) (ds : List D) (Q : L2.St → Hp → Prop) (R : DCtx → Prop), Kn K B M Γ σ H H0 → DpAll K H0 vs ds → γ ds Γ R →
  (∀ Γ' σ', R Γ' → Kn K B M Γ' σ' H H0 → Q σ' H) → g vs σ H Q
def PDGs (X : Cx) (tgs : List Expr) (γ : DGs) : Prop := ∃ g, PGs X tgs g ∧ SimGs X.K g γ
def gsNil : DGs := fun ds Γ R => ds = [] ∧ R Γ
def gsCons (γ : DG) (η : DGs) : DGs := fun ds Γ R => ∃ d r, ds = d :: r ∧ γ d Γ fun Γ1 => η r Γ1 R
theorem pdgs_nil : PDGs X [] gsNil := ⟨_, pgs_nil, fun B M Γ σ H H0 vs ds Q R k r h q => by
  obtain ⟨e, h⟩ := h
  subst e
  cases r
  exact ⟨rfl, q _ _ h k⟩⟩
theorem pdgs_cons {es : List Expr} {γ : DG} {η : DGs} (hs : (assignEach (e :: es) X.env).map (·.2) = assign e X.env :: (assignEach es X.env).map (·.2) := by rfl) (h1 : PDG X e γ) (h2 : PDGs X es η) : PDGs X (e :: es) (gsCons γ η) := match h1, h2 with
  | ⟨_, h1, s1⟩, ⟨_, h2, s2⟩ => ⟨_, pgs_cons h1 h2 hs, fun B M Γ σ H H0 vs ds Q R k r h q => by
      obtain ⟨d, ds', e, h⟩ := h
      subst e
      cases r with
      | cons r1 r2 => exact ⟨_, _, rfl, s1 B M Γ σ H H0 _ _ _ _ k r1 h fun Γ1 σ1 h1 k1 => s2 B M Γ1 σ1 H H0 _ _ Q R k1 r2 h1 q⟩⟩
def gTup_ (n : Nat) (η : DGs) : DG := fun d Γ R => ∃ ds, d = .tuple ds ∧ ds.length = n ∧ η ds Γ R
theorem pdg_tup {es : List Expr} {η : DGs} {n x1 : Nat} (hc : X.calm = true) (hn : (assignEach es X.env).length = n := by rfl) (hst : (assignEach es X.env).findIdx? (·.1) = none := by rfl) (h1 : PDGs X es η) : PDG X (.Tuple es x1 pos) (gTup_ n η) := match h1 with
  | ⟨_, h, s⟩ => ⟨_, pg_tup hc h hn hst, fun B M Γ σ H H0 v d Q R k r h q => by
      obtain ⟨ds, e, hl, h⟩ := h
      subst e
      obtain ⟨p, vs, rfl, hp, dv⟩ := dp_tuple_inv r
      exact ⟨p, vs, rfl, Same.sqT k.sub hp, by rw [DpAll.length dv]; exact hl, s B M Γ σ H H0 vs ds Q R k dv h q⟩⟩
/-- x = e, e data | an own list given on -/
def sSet (δ : DE) (γ : DG) : DS := fun D Γ => δ Γ fun x Γ1 => asD (fun d Γ2 => γ d Γ2 D.nx) x Γ1
theorem pds_set {i : Nat} {x : Str} {pos' : Pos} (hN : X.N.Nodup) (hi : X.N[i]? = some x := by rfl) (hx : Loc X.env.scope x := by first | exact Or.inl rfl | exact Or.inr rfl) (hs : swapsWith e (some (.Name x pos')) pos.line X.env = pure false := by rfl) (hf : X.fn x = true ∨ X.env.scope.names.lookup x = some .local := by first | exact .inl rfl | exact .inr rfl) (h1 : PD X e δe) : PDS X (.Assign [.Name x pos'] e pos) (sSet δe (gNm i)) := match h1 with
  | ⟨_, h, s⟩ => ⟨_, ps_set hN hi hx h hs hf, fun B M Γ σ H H0 E D k q ok => s B M Γ σ H H0 _ _ k q fun v x Γ1 H1 H01 h1 s1 k1 r1 => by
      obtain ⟨d, Γ2, H02, h2, s2, k2, r2⟩ := asD_ok k1 r1 h1
      exact ok.nx _ _ H1 H02 h2 (s1.trans s2) (k2.set r2)⟩
theorem pds_asg {tg : Expr} {γ : DG} (hs : swapsWithSole [tg] e pos.line X.env = pure false := by rfl) (hw : swappedStores [tg] e X.env = pure none := by rfl) (hae : (assignEach [tg] X.env).map (·.2) = [assign tg X.env] := by rfl) (h1 : PD X e δe) (h2 : PDG X tg γ) : PDS X (.Assign [tg] e pos) (sSet δe γ) := match h1, h2 with
  | ⟨_, h, s⟩, ⟨_, hg, sg⟩ => ⟨_, ps_asg h hg hs hw hae, fun B M Γ σ H H0 E D k q ok => s B M Γ σ H H0 _ _ k q fun v x Γ1 H1 H01 h1 s1 k1 r1 => by
      obtain ⟨d, Γ2, H02, h2, s2, k2, r2⟩ := asD_ok k1 r1 h1
      exact sg B M Γ2 σ H1 H02 v d _ _ k2 r2 h2 fun Γ3 σ3 h3 k3 => ok.nx Γ3 σ3 H1 H02 h3 (s1.trans s2) k3⟩
/-- x = a new object -/
def sSetN (ν : DN) (i : Nat) : DS := fun D Γ => ν Γ fun o Γ1 => ∀ p, D.nx (Γ1.set i (some (DCell.own p o)))
theorem simS_setN {K : PySem.W.Frag} {t : TE} {i : Nat} (s : SimN K t ν) : SimS K (tAsg t (gName i)) (sSetN ν i) := fun B M Γ σ H H0 E D k q ok => s B M Γ σ H H0 _ _ k q fun p h o Γ1 H1 H01 h1 s1 hB hM k1 r1 => ok.nx _ _ H1 H01 (h1 p) s1 (k1.takeB hB hM r1)
theorem pds_setN {i : Nat} {x : Str} {pos' : Pos} (hN : X.N.Nodup) (hi : X.N[i]? = some x := by rfl) (hx : Loc X.env.scope x := by first | exact Or.inl rfl | exact Or.inr rfl) (hs : swapsWith e (some (.Name x pos')) pos.line X.env = pure false := by rfl) (hf : X.fn x = true ∨ X.env.scope.names.lookup x = some .local := by first | exact .inl rfl | exact .inr rfl) (h1 : PDN X e ν) : PDS X (.Assign [.Name x pos'] e pos) (sSetN ν i) := match h1 with
  | ⟨_, h, s⟩ => ⟨_, ps_set hN hi hx h hs hf, simS_setN s⟩
/-- x, y = a, b -/
def sPar (i j : Nat) (α : DA) : DS := fun D Γ => α Γ fun xs Γ1 => ∃ a b, xs = [.d a, .d b] ∧ D.nx ((Γ1.set i (some (DCell.val a))).set j (some (DCell.val b)))
theorem pds_par {i j : Nat} {x y : Str} {α : DA} {px py pt : Pos} {kt k2 : Nat} {pt2 : Pos} (hc : X.calm = true) (hN : X.N.Nodup) (hi : X.N[i]? = some x := by rfl) (hj : X.N[j]? = some y := by rfl) (hij : i ≠ j := by decide)
    (hx : X.env.scope.names.lookup x = some .local := by rfl) (hy : X.env.scope.names.lookup y = some .local := by rfl) 
    (hw : swappedStores [.Tuple [.Name x px, .Name y py] kt pt] (.Tuple [a, b] k2 pt2) X.env = pure (some [x, y]) := by rfl)
    (hs : swapsWithSole [.Tuple [.Name x px, .Name y py] kt pt] (.Tuple [a, b] k2 pt2) pos.line X.env = pure false := by rfl) (h1 : PDA X [a, b] α) : PDS X (.Assign [.Tuple [.Name x px, .Name y py] kt pt] (.Tuple [a, b] k2 pt2) pos) (sPar i j α) := match h1 with
  | ⟨_, h, s⟩ => ⟨_, ps_par hc hN hi hj hij hx hy h hw hs, fun B M Γ σ H H0 E D k q ok => s B M Γ σ H H0 _ _ k q fun vs xs Γ1 H1 H01 ⟨da, db, e, h1⟩ s1 k1 r1 => by
      subst e
      cases r1 with
      | cons ra r1 =>
        cases r1 with
        | cons rb r1 =>
          cases r1
          exact ⟨_, _, rfl, ok.nx _ _ H1 H01 h1 s1 ((k1.set ra).set rb)⟩⟩

/-! what is walked -/
abbrev DI := DCtx → (List D → DCtx → Prop) → Prop
def WalkD (K : PySem.W.Frag) (J : It) (B H0 : Hp) (items : List D) : Prop := ∃ Y, Walk J items.length (fun H => Same B H ∧ Same H0 H) Y ∧ ∀ (i : Nat) (H : Hp) (x : V) (H' H1 : Hp), i < items.length → Same H0 H1 → Same H1 H → Y i H x H' →
  ∃ d, items[i]? = some d ∧ ((H' = H ∧ Dp K H1 x d) ∨ ∃ t ob vs ds, x = .ref t ∧ H t = none ∧ H' = upd H t (.frz ob (.tup vs)) ∧ ob.dict = none ∧ d = .tuple ds ∧ DpAll K H1 vs ds)
def SimI (K : PySem.W.Frag) (wi : TI) (ι : DI) : Prop := ∀ (B M : Hp) (Γ : DCtx) (σ : L2.St) (H H0 : Hp) (Q : It → Hp → Prop) (R : List D → DCtx → Prop), Kn K B M Γ σ H H0 → ι Γ R →
  (∀ J items Γ' H' H0', R items Γ' → Same H0 H0' → Kn K B M Γ' σ H' H0' → WalkD K J B H0' items → Q J H') → wi σ H Q
def PDI (X : Cx) (tg e : Expr) (ι : DI) : Prop := ∃ wi, PI X tg e wi ∧ SimI X.K wi ι
theorem WalkD.step {K : PySem.W.Frag} {H0 : Hp} {items : List D} {Y : Nat → Hp → V → Hp → Prop} {B M : Hp} {Γ : DCtx} {σ : L2.St} {H H1 : Hp} {i : Nat} {x : V} {H' : Hp}
    (w : ∀ (i : Nat) (H : Hp) (x : V) (H' H1 : Hp), i < items.length → Same H0 H1 → Same H1 H → Y i H x H' →
      ∃ d, items[i]? = some d ∧ ((H' = H ∧ Dp K H1 x d) ∨ ∃ t ob vs ds, x = .ref t ∧ H t = none ∧ H' = upd H t (.frz ob (.tup vs)) ∧ ob.dict = none ∧ d = .tuple ds ∧ DpAll K H1 vs ds))
    (k : Kn K B M Γ σ H H1) (s : Same H0 H1) (hi : i < items.length) (y : Y i H x H') : ∃ d H2, items[i]? = some d ∧ Same H1 H2 ∧ Kn K B M Γ σ H' H2 ∧ Dp K H2 x d := by
  obtain ⟨d, e, h⟩ := w i H x H' H1 hi s k.sub y
  rcases h with ⟨rfl, h⟩ | ⟨t, ob, vs, ds, rfl, ht, rfl, hob, rfl, hd⟩
  · exact ⟨d, H1, e, Same.refl _, k, h⟩
  · obtain ⟨k2, s2⟩ := k.laid (o := .frz ob (.tup vs)) ht hob
    exact ⟨_, _, e, s2, k2, Dp.tup (.inl (.inr ⟨ob, upd_same⟩)) (dpAll_same s2 hd)⟩
def sForB (γ : DG) (β : DS) (D : DEnds) (items : List DL.D) (Γ1 : DCtx) : Prop := ∃ W : Nat → DCtx → Prop, W 0 Γ1 ∧ (∀ (i : Nat) d Γ2, items[i]? = some d → W i Γ2 → γ d Γ2 fun Γ3 => β { D with nx := W (i + 1), ct := W (i + 1), bk := D.nx } Γ3) ∧ ∀ Γ2, W items.length Γ2 → D.nx Γ2
def sFor (ι : DI) (γ : DG) (β : DS) : DS := fun D Γ => ι Γ (sForB γ β D)
theorem pds_for {tg iter : Expr} {body : List Stmt} {ι : DI} {γ : DG} {β : DS} (hp : PassesOwn (model X.prog X.w) X.A X.env X.xe) (hc : X.calm = true) (hs : ∀ x, foldedSetIterable iter X.env x = pure x := by intro _; rfl) (h1 : PDI X tg iter ι) (h2 : PDG X tg γ) (h3 : PDSs X body β) : PDS X (.For tg iter body [] pos) (sFor ι γ β) := match h1, h2, h3 with
  | ⟨_, hi, si⟩, ⟨_, hg, sg⟩, ⟨_, hb, sb⟩ => ⟨_, ps_for hp hc hi hg hb hs, fun B M Γ σ H H0 E D k q ok => si B M Γ σ H H0 _ _ k q fun J items Γ1 H1 H01 ⟨W, w0, ws, wd⟩ s1 k1 wk => by
      obtain ⟨Y, wk, wy⟩ := wk
      refine for_it wk (fun i σ' H' => ∃ Γ' H0', W i Γ' ∧ Same H01 H0' ∧ Kn X.K B M Γ' σ' H' H0') ⟨Γ1, H01, w0, Same.refl _, k1⟩ (fun i σ' H' _ ⟨Γ', H0', _, s', k'⟩ => ⟨k'.base, s'.trans k'.sub⟩) (fun i x σ' H2 H3 hi ⟨Γ', H0', w', s', k'⟩ y => ?_) (fun σ' H' ⟨Γ', H0', w', s', k'⟩ => ok.nx Γ' σ' H' H0' (wd Γ' w') (s1.trans s') k')
      obtain ⟨d, H4, e, s4, k4, r4⟩ := WalkD.step wy k' s' hi y
      exact sg B M Γ' σ' H3 H4 x d _ _ k4 r4 (ws i d Γ' e w') fun Γ5 σ5 h5 k5 => sb B M Γ5 σ5 H3 H4 _ _ k5 h5
        ⟨fun Γ6 σ6 H6 H06 h6 s6 k6 => ⟨Γ6, H06, h6, (s'.trans s4).trans s6, k6⟩, fun v d Γ6 σ6 H6 H06 h6 s6 k6 r6 => ok.rt v d Γ6 σ6 H6 H06 h6 (((s1.trans s').trans s4).trans s6) k6 r6,
          fun Γ6 σ6 H6 H06 h6 s6 k6 => ok.nx Γ6 σ6 H6 H06 h6 (((s1.trans s').trans s4).trans s6) k6, fun Γ6 σ6 H6 H06 h6 s6 k6 => ⟨Γ6, H06, h6, (s'.trans s4).trans s6, k6⟩⟩⟩
def sWhile (τ : DT) (β : DS) : DS := fun D Γ => ∃ W : Nat → DCtx → Prop, (∃ m, W m Γ) ∧ ∀ m Γ1, W m Γ1 → τ Γ1 fun b Γ2 => if b = true then β { D with nx := fun Γ3 => ∃ m', m' < m ∧ W m' Γ3, ct := fun Γ3 => ∃ m', m' < m ∧ W m' Γ3, bk := D.nx } Γ2 else D.nx Γ2
theorem pds_while {body : List Stmt} {τ : DT} {β : DS} (hp : PassesOwn (model X.prog X.w) X.A X.env X.xe) (h1 : PDT X c τ) (h2 : PDSs X body β) : PDS X (.While c body [] pos) (sWhile τ β) := match h1, h2 with
  | ⟨_, hc, sc⟩, ⟨_, hb, sb⟩ => ⟨_, ps_while hp hc hb, fun B M Γ σ H H0 E D k ⟨W, ⟨m, w0⟩, ws⟩ ok => by
      refine ⟨fun m σ' H' => ∃ Γ' H0', W m Γ' ∧ Same H0 H0' ∧ Kn X.K B M Γ' σ' H' H0', ⟨m, Γ, H0, w0, Same.refl _, k⟩, fun m σ' H' ⟨Γ', H0', w', s', k'⟩ => ?_⟩
      refine sc B M Γ' σ' H' H0' _ _ k' (ws m Γ' w') fun b Γ2 H2 H02 h2 s2 k2 => ?_
      cases b with
      | true =>
        refine ⟨fun σ3 H3 => ∃ m', m' < m ∧ ∃ Γ3 H03, W m' Γ3 ∧ Same H0 H03 ∧ Kn X.K B M Γ3 σ3 H3 H03, fun σ3 H3 h3 => h3, ?_⟩
        exact sb B M Γ2 σ' H2 H02 _ _ k2 h2 ⟨fun Γ6 σ6 H6 H06 ⟨m', hm, h6⟩ s6 k6 => ⟨m', hm, Γ6, H06, h6, (s'.trans s2).trans s6, k6⟩, fun v d Γ6 σ6 H6 H06 h6 s6 k6 r6 => ok.rt v d Γ6 σ6 H6 H06 h6 ((s'.trans s2).trans s6) k6 r6,
          fun Γ6 σ6 H6 H06 h6 s6 k6 => ok.nx Γ6 σ6 H6 H06 h6 ((s'.trans s2).trans s6) k6, fun Γ6 σ6 H6 H06 ⟨m', hm, h6⟩ s6 k6 => ⟨m', hm, Γ6, H06, h6, (s'.trans s2).trans s6, k6⟩⟩
      | false => exact ok.nx Γ2 σ' H2 H02 h2 (s'.trans s2) k2⟩
end
end DL

set_option Elab.async false
set_option linter.all false
set_option maxRecDepth 100000
set_option maxHeartbeats 2000000
set_option autoImplicit false
namespace DL
open PySem L2 PyProof.Rows

/-! ### one reading for each data reading -/
def rd (K : PySem.W.Frag) (δ : DE) : TE := fun σ H Q => ∃ (B M : Hp) (Γ : DCtx) (H0 : Hp) (R : DK), Kn K B M Γ σ H H0 ∧ δ Γ R ∧ ∀ v x Γ' H' H0', R x Γ' → Same H0 H0' → Kn K B M Γ' σ H' H0' → Rx K σ H0' v x → Q v H'
theorem sim_rd {K : PySem.W.Frag} {δ : DE} : Sim K (rd K δ) δ := fun B M Γ σ H H0 Q R k h q => ⟨B, M, Γ, H0, R, k, h, q⟩
theorem PD.pe {X : Cx} {e : Expr} {δ : DE} : PD X e δ → PE X e (rd X.K δ)
  | ⟨_, h, s⟩ => ⟨fun pins s1 σ H Q I ⟨B, M, Γ, H0, R, k, h1, q⟩ => h.run pins s1 σ H Q I (s B M Γ σ H H0 Q R k h1 q)⟩
def rdT (K : PySem.W.Frag) (τ : DT) : TT := fun σ H Q => ∃ (B M : Hp) (Γ : DCtx) (H0 : Hp) (R : Bool → DCtx → Prop), Kn K B M Γ σ H H0 ∧ τ Γ R ∧ ∀ b Γ' H' H0', R b Γ' → Same H0 H0' → Kn K B M Γ' σ H' H0' → Q b H'
theorem sim_rdT {K : PySem.W.Frag} {τ : DT} : SimT K (rdT K τ) τ := fun B M Γ σ H H0 Q R k h q => ⟨B, M, Γ, H0, R, k, h, q⟩
theorem PDT.pt {X : Cx} {e : Expr} {τ : DT} : PDT X e τ → PT X e (rdT X.K τ)
  | ⟨_, h, s⟩ => ⟨fun pins s1 σ H Q I ⟨B, M, Γ, H0, R, k, h1, q⟩ => h.run pins s1 σ H Q I (s B M Γ σ H H0 Q R k h1 q)⟩
/-- a comprehension's tests -/
def PDTs (X : Cx) (ifs : List Expr) (τ : DT) : Prop := PTs X ifs (rdT X.K τ)
def dYes : DT := fun Γ R => R true Γ
theorem pdts_nil {X : Cx} : PDTs X [] dYes := ⟨fun pins s σ H Q I ⟨B, M, Γ, H0, R, k, h1, q⟩ => pts_nil.run pins s σ H Q I (q true Γ H H0 h1 (Same.refl _) k)⟩
theorem pdts_one {X : Cx} {c : Expr} {τ : DT} (h : PDT X c τ) : PDTs X [c] τ := pts_one h.pt
/-! targets of a comprehension -/
theorem wipe_get {σ : L2.St} {i : Nat} : ∀ {vs : List Nat}, i ∉ vs → (wipe σ vs)[i]? = σ[i]?
  | [], _ => rfl
  | v :: vs, h => by
    simp only [List.mem_cons, not_or] at h
    unfold wipe
    rw [List.getElem?_set_ne (fun z => h.1 z.symm), wipe_get h.2]
theorem wipe_in {σ : L2.St} {i : Nat} : ∀ {vs : List Nat}, i ∈ vs → i < σ.length → (wipe σ vs)[i]? = some none
  | v :: vs, h, hl => by
    unfold wipe
    by_cases e : v = i
    · subst e; rw [List.getElem?_set_self (by rw [wipe_length]; exact hl)]
    · rw [List.getElem?_set_ne e]
      exact wipe_in (by rcases List.mem_cons.mp h with z | z; exact absurd z.symm e; exact z) hl
theorem wipe_eq {σ τ : L2.St} {vs : List Nat} (hl : σ.length = τ.length) (h : ∀ i, i ∉ vs → σ[i]? = τ[i]?) : wipe σ vs = wipe τ vs := by
  apply List.ext_getElem?
  intro i
  by_cases hi : i ∈ vs
  · by_cases hb : i < σ.length
    · rw [wipe_in hi hb, wipe_in hi (by omega)]
    · rw [List.getElem?_eq_none (by rw [wipe_length]; omega), List.getElem?_eq_none (by rw [wipe_length]; omega)]
  · rw [wipe_get hi, wipe_get hi]; exact h i hi
def wipeC (Γ : DCtx) : List Nat → DCtx
  | [] => Γ
  | v :: vs => (wipeC Γ vs).set v none
def restore (Γ Γ' : DCtx) : List Nat → DCtx
  | [] => Γ'
  | v :: vs => (restore Γ Γ' vs).set v (Γ[v]?.join)
theorem wipeC_length (Γ : DCtx) : ∀ vs : List Nat, (wipeC Γ vs).length = Γ.length
  | [] => rfl
  | v :: vs => by unfold wipeC; rw [List.length_set, wipeC_length Γ vs]
theorem restore_length (Γ Γ' : DCtx) : ∀ vs : List Nat, (restore Γ Γ' vs).length = Γ'.length
  | [] => rfl
  | v :: vs => by unfold restore; rw [List.length_set, restore_length Γ Γ' vs]
theorem wipeC_get {Γ : DCtx} {i : Nat} {c : DCell} : ∀ {vs : List Nat}, (wipeC Γ vs)[i]? = some (some c) → Γ[i]? = some (some c) ∧ i ∉ vs
  | [], h => ⟨h, by simp⟩
  | v :: vs, h => by
    unfold wipeC at h
    rcases set_get h with ⟨_, e, _⟩ | ⟨hj, h⟩
    · cases e
    · obtain ⟨h1, h2⟩ := wipeC_get h
      exact ⟨h1, by simp only [List.mem_cons, not_or]; exact ⟨fun e => hj e.symm, h2⟩⟩
theorem restore_get {Γ Γ' : DCtx} {i : Nat} {c : DCell} : ∀ {vs : List Nat}, (restore Γ Γ' vs)[i]? = some (some c) → (i ∈ vs ∧ Γ[i]? = some (some c)) ∨ (i ∉ vs ∧ Γ'[i]? = some (some c))
  | [], h => .inr ⟨by simp, h⟩
  | v :: vs, h => by
    unfold restore at h
    rcases set_get h with ⟨rfl, e, _⟩ | ⟨hj, h⟩
    · refine .inl ⟨by simp, ?_⟩
      cases q : Γ[v]? with
      | none => rw [q] at e; cases e
      | some z => rw [q] at e; cases z with
        | none => cases e
        | some z => cases e; rfl
    · rcases restore_get h with ⟨a, b⟩ | ⟨a, b⟩
      · exact .inl ⟨by simp [a], b⟩
      · exact .inr ⟨by simp only [List.mem_cons, not_or]; exact ⟨fun e => hj e.symm, a⟩, b⟩
section
variable {K : PySem.W.Frag} {B M : Hp} {Γ Γ1 : DCtx} {σ σ2 : L2.St} {H H0 : Hp}
theorem Kn.wipe (k : Kn K B M Γ σ H H0) (vs : List Nat) : Kn K B M (wipeC Γ vs) (L2.wipe σ vs) H H0 := by
  have g : ∀ {i : Nat} {c : DCell}, (wipeC Γ vs)[i]? = some (some c) → Γ[i]? = some (some c) ∧ (L2.wipe σ vs)[i]? = σ[i]? := fun {i c} e => by
    obtain ⟨a, b⟩ := wipeC_get e
    exact ⟨a, wipe_get b⟩
  refine ⟨k.base, k.mm, k.sub, k.new, by rw [wipeC_length, wipe_length]; exact k.len, fun i d e => ?_, fun i r o e => ?_, fun a b oa ob p q hab ea eb => ?_, k.cl⟩
  · obtain ⟨a, b⟩ := g e
    rw [b]; exact k.val i d a
  · obtain ⟨a, b⟩ := g e
    rw [b]; exact k.own i r o a
  · obtain ⟨a1, b1⟩ := g ea
    obtain ⟨a2, b2⟩ := g eb
    exact k.sep a b oa ob p q hab a1 a2
/-- behind a turn: the block's own names are as they were -/
theorem Kn.restore {vs : List Nat} (k : Kn K B M Γ σ2 H H0) (hl : Γ1.length = σ.length) (h1 : ∀ (i : Nat) (d : D), i ∈ vs → Γ1[i]? = some (some (DCell.val d)) → ∃ v, σ[i]? = some (some v) ∧ Dp K H0 v d) (hno : ∀ i ∈ vs, ∀ p o, Γ1[i]? ≠ some (some (DCell.own p o)))
    (hw : L2.wipe σ2 vs = L2.wipe σ vs) : Kn K B M (DL.restore Γ1 Γ vs) σ H H0 := by
  have hlen : σ2.length = σ.length := by
    have := congrArg List.length hw
    rw [wipe_length, wipe_length] at this
    exact this
  have out : ∀ i, i ∉ vs → σ2[i]? = σ[i]? := fun i hi => by rw [← wipe_get hi, hw, wipe_get hi]
  refine ⟨k.base, k.mm, k.sub, k.new, by rw [restore_length]; exact k.len.trans hlen, fun i d e => ?_, fun i r o e => ?_, fun a b oa ob p q hab ea eb => ?_, k.cl⟩
  · rcases restore_get e with ⟨a, b⟩ | ⟨a, b⟩
    · exact h1 i d a b
    · rw [← out i a]; exact k.val i d b
  · rcases restore_get e with ⟨a, b⟩ | ⟨a, b⟩
    · exact absurd b (hno i a r o)
    · rw [← out i a]; exact k.own i r o b
  · rcases restore_get ea with ⟨x, y⟩ | ⟨x, y⟩
    · exact absurd y (hno a x p oa)
    · rcases restore_get eb with ⟨x', y'⟩ | ⟨x', y'⟩
      · exact absurd y' (hno b x' q ob)
      · exact k.sep a b oa ob p q hab y y' 
end
def rdG (K : PySem.W.Frag) (vs : List Nat) (γ : DG) : TG := fun v σ H Q => ∃ (B M : Hp) (Γ : DCtx) (H0 : Hp) (d : D) (R : DCtx → Prop), Kn K B M Γ σ H H0 ∧ Dp K H0 v d ∧ γ d Γ R ∧ ∀ Γ' σ', R Γ' → Kn K B M Γ' σ' H H0 → wipe σ' vs = wipe σ vs → Q σ' H
/-- a target whose names are all among vs -/
def PDGv (X : Cx) (vs : List Nat) (tg : Expr) (γ : DG) : Prop := PG X tg (rdG X.K vs γ)
theorem wipe_set {σ : L2.St} {i : Nat} {v : Option V} {vs : List Nat} (h : i ∈ vs) : wipe (σ.set i v) vs = wipe σ vs := wipe_eq (by simp) fun j hj => List.getElem?_set_ne fun e => hj (by rw [← e]; exact h)
section
variable {X : Cx} {a b c e : Expr} {pos : Pos} {δa δb δc δe : DE}
theorem pdgv_name {i : Nat} {x : Str} {vs : List Nat} (hN : X.N.Nodup) (hv : i ∈ vs := by decide) (hi : X.N[i]? = some x := by rfl) (hx : Loc X.env.scope x := by first | exact Or.inl rfl | exact Or.inr rfl) (hf : X.fn x = true ∨ X.env.scope.names.lookup x = some .local := by first | exact .inl rfl | exact .inr rfl) : PDGv X vs (.Name x pos) (gNm i) := by
  refine ⟨fun pins s σ H v u Q I r ⟨B, M, Γ, H0, d, R, k, rv, h, q⟩ => ?_⟩
  exact (pg_name (i := i) hN hi hx hf).run pins s σ H v u Q I r (q _ _ h (k.set rv) (wipe_set hv))
theorem pdgv_pair {i j : Nat} {x y : Str} {vs : List Nat} {px py : Pos} {n1 : Nat} (hc : X.calm = true) (hN : X.N.Nodup) (hvi : i ∈ vs := by decide) (hvj : j ∈ vs := by decide) (hi : X.N[i]? = some x := by rfl) (hj : X.N[j]? = some y := by rfl)
    (hx : Loc X.env.scope x := by first | exact Or.inl rfl | exact Or.inr rfl) (hy : Loc X.env.scope y := by first | exact Or.inl rfl | exact Or.inr rfl) (hf : X.fn x = true ∨ X.env.scope.names.lookup x = some .local := by first | exact .inl rfl | exact .inr rfl) (hf2 : X.fn y = true ∨ X.env.scope.names.lookup y = some .local := by first | exact .inl rfl | exact .inr rfl)
    (hs : (assignEach [.Name x px, .Name y py] X.env).map (·.2) = assign (.Name x px) X.env :: (assignEach [.Name y py] X.env).map (·.2) := by rfl) (hs2 : (assignEach [.Name y py] X.env).map (·.2) = assign (.Name y py) X.env :: (assignEach [] X.env).map (·.2) := by rfl)
    (hn : (assignEach [.Name x px, .Name y py] X.env).length = 2 := by rfl) (hst : (assignEach [.Name x px, .Name y py] X.env).findIdx? (·.1) = none := by rfl) : PDGv X vs (.Tuple [.Name x px, .Name y py] n1 pos) (gTup_ 2 (gsCons (gNm i) (gsCons (gNm j) gsNil))) := by
  refine ⟨fun pins s σ H v u Q I r ⟨B, M, Γ, H0, d, R, k, rv, h, q⟩ => ?_⟩
  refine (pg_tup (n := 2) hc (pgs_cons (pg_name (i := i) hN hi hx hf) (pgs_cons (pg_name (i := j) hN hj hy hf2) pgs_nil hs2) hs) hn hst).run pins s σ H v u Q I r ?_
  obtain ⟨ds, rfl, hl, d1, r1, rfl, d2, r2, rfl, rfl, h⟩ := h
  obtain ⟨p, xs, rfl, hp, dv⟩ := dp_tuple_inv rv
  cases dv with
  | cons v1 dv =>
    cases dv with
    | cons v2 dv =>
      cases dv
      refine ⟨p, _, rfl, Same.sqT k.sub hp, rfl, _, _, rfl, _, _, rfl, rfl, q _ _ h ((k.set v1).set v2) ?_⟩
      rw [wipe_set hvj, wipe_set hvi]
/-! list comprehensions -/
def nLcB (γ : DG) (τ : DT) (δ : DE) (vs : List Nat) (R : DOb → DCtx → Prop) (items : List D) (Γ1 : DCtx) : Prop := (∀ i ∈ vs, ∀ p o, Γ1[i]? ≠ some (some (DCell.own p o))) ∧ items.length ≤ 1000000 ∧ ∃ W : Nat → List D → DCtx → Prop, W 0 [] Γ1 ∧
  (∀ (i : Nat) acc Γ2 d, items[i]? = some d → W i acc Γ2 → γ d (wipeC Γ2 vs) fun Γ3 => τ Γ3 fun b Γ4 => if b = true then δ Γ4 fun y Γ5 => ∃ e, y = .d e ∧ W (i + 1) (acc ++ [e]) (restore Γ1 Γ5 vs) else W (i + 1) acc (restore Γ1 Γ4 vs)) ∧
  ∀ acc Γ2, W items.length acc Γ2 → R (.lst acc) Γ2
def nLc (ι : DI) (γ : DG) (τ : DT) (δ : DE) (vs : List Nat) : DN := fun Γ R => ι Γ (nLcB γ τ δ vs R)
theorem lc_core2 {K : PySem.W.Frag} {B M : Hp} {Γ1 : DCtx} {σ : L2.St} {H1 H01 : Hp} {J : It} {items : List D} {γ : DG} {τ : DT} {δ : DE} {vs : List Nat} {Q : VK} (k1 : Kn K B M Γ1 σ H1 H01) (wk : WalkD K J B H01 items) (hno : ∀ i ∈ vs, ∀ p o, Γ1[i]? ≠ some (some (DCell.own p o))) (hsz : items.length ≤ 1000000) (W : Nat → List D → DCtx → Prop) (w0 : W 0 [] Γ1)
    (ws : ∀ (i : Nat) acc Γ2 d, items[i]? = some d → W i acc Γ2 → γ d (wipeC Γ2 vs) fun Γ3 => τ Γ3 fun b Γ4 => if b = true then δ Γ4 fun y Γ5 => ∃ e, y = .d e ∧ W (i + 1) (acc ++ [e]) (restore Γ1 Γ5 vs) else W (i + 1) acc (restore Γ1 Γ4 vs))
    (q : ∀ Dl us acc Γ' H' H0', W items.length acc Γ' → Same H01 H0' → B Dl = none → M Dl = none → Kn K (upd B Dl (.lst us)) M Γ' σ H' H0' → DpAll K H0' us acc → Q (.ref Dl) H') :
    ∀ Dl, H1 Dl = none → ∃ W : Nat → Nat → Hp → Prop, (∃ m, W 0 m (upd H1 Dl (.lst []))) ∧ ∀ i m H, W i m H →
      (J.stop i H ∧ Q (.ref Dl) H) ∨ (J.go i H ∧ ∃ Nx : Hp → Prop, (∀ H', Nx H' → ∃ m', m' < m ∧ W (i + 1) m' H') ∧ ∀ x H', J.yld i H x H' → rdG K vs γ x (wipe σ vs) H' fun σ2 H2 => wipe σ2 vs = wipe σ vs ∧ rdT K τ σ2 H2 fun b H3 =>
        if b = true then rd K δ σ2 H3 fun y H4 => ∃ acc, H4 Dl = some (.lst acc) ∧ acc.length < sizeLine ∧ Nx (upd H4 Dl (.lst (acc ++ [y]))) else Nx H3) := by
  intro Dl hD
  obtain ⟨Y, wk, wy⟩ := wk
  have hB : B Dl = none := k1.base.free hD
  have hM : M Dl = none := (k1.mm.trans k1.sub).free hD
  have outB : ∀ {us : List V} {Γ' : DCtx} {σ' : L2.St} {H' H0' : Hp}, Kn K (upd B Dl (.lst us)) M Γ' σ' H' H0' → Same B H' := fun k a o e => k.base a o (by rw [upd_ne (ne_of_none e hB)]; exact e)
  refine lc_it wk (fun i H' => ∃ Γ' H0' us acc, W i acc Γ' ∧ Same H01 H0' ∧ us.length ≤ i ∧ DpAll K H0' us acc ∧ Kn K (upd B Dl (.lst us)) M Γ' σ H' H0') ⟨Γ1, H01, [], [], w0, Same.refl _, Nat.le_refl _, .nil, k1.newB hD⟩ (fun i H' _ ⟨Γ', H0', us, acc, _, s', _, _, k'⟩ => ⟨outB k', s'.trans k'.sub⟩)
    (fun i x H2 H3 hi ⟨Γ', H0', us, acc, w', s', hl, da, k'⟩ y => ?_) (fun H' ⟨Γ', H0', us, acc, w', s', hl, da, k'⟩ => q Dl us acc Γ' H' H0' w' s' hB hM k' da)
  obtain ⟨d, H4, e, s4, k4, r4⟩ := WalkD.step wy k' s' hi y
  have k4w := k4.wipe vs
  have ii : wipe (wipe σ vs) vs = wipe σ vs := wipe_eq (wipe_length _ _) fun j hj => wipe_get hj
  have outer : ∀ {H5 : Hp}, Same H4 H5 → ∀ (j : Nat) (d : D), j ∈ vs → Γ1[j]? = some (some (DCell.val d)) → ∃ v, σ[j]? = some (some v) ∧ Dp K H5 v d := fun {H5} s5 j d hj e => by
    obtain ⟨v, x, y⟩ := k1.val j d e
    exact ⟨v, x, dp_same ((s'.trans s4).trans s5) y⟩
  have fin : ∀ {Γ6 : DCtx} {σ6 : L2.St} {H6 H06 : Hp}, Same H4 H06 → Kn K (upd B Dl (.lst us)) M Γ6 σ6 H6 H06 → wipe σ6 vs = wipe σ vs → Kn K (upd B Dl (.lst us)) M (restore Γ1 Γ6 vs) σ H6 H06 := fun s6 k6 e6 => k6.restore k1.len (outer s6) hno e6
  refine ⟨_, M, wipeC Γ' vs, H4, d, _, k4w, r4, ws i acc Γ' d e w', fun Γ5 σ5 h5 k5 e5 => ⟨e5.trans ii, _, M, Γ5, H4, _, k5, h5, fun b Γ6 H6 H06 h6 s6 k6 => ?_⟩⟩
  cases b with
  | true =>
    refine ⟨_, M, Γ6, H06, _, k6, h6, fun u z Γ7 H7 H07 ⟨ed, ez, h7⟩ s7 k7 r7 => ?_⟩
    subst ez
    have hat : H7 Dl = some (.lst us) := k7.base Dl _ upd_same
    refine ⟨us, hat, ?_, restore Γ1 Γ7 vs, H07, us ++ [u], acc ++ [ed], h7, ((s'.trans s4).trans s6).trans s7, by simp; omega, DpAll.append (dpAll_same ((s4.trans s6).trans s7) da) (.cons r7 .nil), ?_⟩
    · have : i < items.length := hi
      exact Nat.lt_of_lt_of_le (show us.length < 1000001 by omega) (by decide)
    · exact (fin (s6.trans s7) k7 (e5.trans ii)).setB hM
  | false => exact ⟨restore Γ1 Γ6 vs, H06, us, acc, h6, (s'.trans s4).trans s6, by omega, dpAll_same (s4.trans s6) da, fin s6 k6 (e5.trans ii)⟩
theorem simN_lc {K : PySem.W.Frag} {wi : TI} {ι : DI} {γ : DG} {τ : DT} {δ : DE} {vs : List Nat} (si : SimI K wi ι) : SimN K (tLc wi (rdG K vs γ) (rdT K τ) (rd K δ) vs) (nLc ι γ τ δ vs) := by
  intro B M Γ σ H H0 Q R k h q
  refine si B M Γ σ H H0 _ _ k h fun J items Γ1 H1 H01 ⟨hno, hsz, W, w0, ws, wd⟩ s1 k1 wk => ?_
  exact lc_core2 k1 wk hno hsz W w0 ws fun Dl us acc Γ' H' H0' w' s' hB hM k' da => q Dl (.lst us) (.lst acc) Γ' H' H0' (wd acc Γ' w') (s1.trans s') hB hM k' (.lst da)
theorem pdn_lc {elt tg iter : Expr} {ifs : List Expr} {scope : Scope} {own : List (Str × Nat)} {vs : List Nat} {ι : DI} {γ : DG} {τ : DT} {δ : DE} (hc : X.calm = true) (hN : X.N.Nodup) (hv : own.map (·.2) = vs) (hi : PDI X tg iter ι) (ok : BlkOk X.N X.env.scope scope own)
    (hg : ∀ (s : Shared) (H : Hp) (C : Addr) (cl : List (Str × Addr)) (fp : List Addr), PDGv (X.blk s H scope (compEnvC scope cl C X.env) fp) vs tg γ) (ht : ∀ (s : Shared) (H : Hp) (C : Addr) (cl : List (Str × Addr)) (fp : List Addr), PDTs (X.blk s H scope (compEnvC scope cl C X.env) fp) ifs τ)
    (he : ∀ (s : Shared) (H : Hp) (C : Addr) (cl : List (Str × Addr)) (fp : List Addr), PD (X.blk s H scope (compEnvC scope cl C X.env) fp) elt δ) (hs : ∀ x, foldedSetIterable iter X.env x = pure x := by intro _; rfl) :
    PDN X (.ListComp elt [⟨tg, iter, ifs, 0⟩] scope pos) (nLc ι γ τ δ vs) := by
  subst hv
  obtain ⟨wi, pi, si⟩ := hi
  exact ⟨_, pe_lc (g := rdG X.K (List.map (fun z : Str × Nat => z.2) own) γ) (tt := rdT X.K τ) (te := rd X.K δ) hc hN pi ok hg ht (fun s H C cl fp => (he s H C cl fp).pe) hs, simN_lc si⟩
/-- y = [..] -/
theorem pds_lcN {i : Nat} {y : Str} {py spos : Pos} {elt tg iter : Expr} {ifs : List Expr} {scope : Scope} {own : List (Str × Nat)} {vs : List Nat} {ι : DI} {γ : DG} {τ : DT} {δ : DE} (hc : X.calm = true) (hN : X.N.Nodup) (hy : X.N[i]? = some y) (hyl : X.env.scope.names.lookup y = some .local)
    (hsw : swapsWith (.ListComp elt [⟨tg, iter, ifs, 0⟩] scope pos) (some (.Name y py)) spos.line X.env = pure true) (hv : own.map (·.2) = vs) (hi : PDI X tg iter ι) (ok : BlkOk X.N X.env.scope scope own)
    (hg : ∀ (s : Shared) (H : Hp) (C : Addr) (cl : List (Str × Addr)) (fp : List Addr), PDGv (X.blk s H scope (compEnvC scope cl C X.env) fp) vs tg γ) (ht : ∀ (s : Shared) (H : Hp) (C : Addr) (cl : List (Str × Addr)) (fp : List Addr), PDTs (X.blk s H scope (compEnvC scope cl C X.env) fp) ifs τ)
    (he : ∀ (s : Shared) (H : Hp) (C : Addr) (cl : List (Str × Addr)) (fp : List Addr), PD (X.blk s H scope (compEnvC scope cl C X.env) fp) elt δ) (hs : ∀ x, foldedSetIterable iter X.env x = pure x := by intro _; rfl) :
    PDS X (.Assign [.Name y py] (.ListComp elt [⟨tg, iter, ifs, 0⟩] scope pos) spos) (sSetN (nLc ι γ τ δ vs) i) := by
  subst hv
  obtain ⟨wi, pi, si⟩ := hi
  exact ⟨_, ps_setLc (g := rdG X.K (List.map (fun z : Str × Nat => z.2) own) γ) (tt := rdT X.K τ) (te := rd X.K δ) hc hN hy hyl hsw pi ok hg ht (fun s H C cl fp => (he s H C cl fp).pe) hs, simS_setN (simN_lc si)⟩

/-! ### what is walked -/
def frzD (R : D → DCtx → Prop) : DV → DCtx → Prop := fun x Γ => (∃ d, x = .d d ∧ R d Γ) ∨ ∃ j p ds, x = .o j ∧ Γ[j]? = some (some (DCell.own p (.lst ds))) ∧ R (.list ds) (Γ.set j (some (DCell.val (.list ds))))
theorem frzD_ok {K : PySem.W.Frag} {B M : Hp} {Γ : DCtx} {σ : L2.St} {H H0 : Hp} {v : V} {x : DV} {R : D → DCtx → Prop} (k : Kn K B M Γ σ H H0) (r : Rx K σ H0 v x) (h : frzD R x Γ) : ∃ d Γ' H1, R d Γ' ∧ Same H0 H1 ∧ Kn K B M Γ' σ H H1 ∧ Dp K H1 v d := by
  rcases h with ⟨d, rfl, h⟩ | ⟨j, p, ds, rfl, e, h⟩
  · exact ⟨d, Γ, H0, h, Same.refl _, k, r⟩
  · obtain ⟨u, H1, x, s1, d1, k1⟩ := k.freeze e
    have r : σ[j]? = some (some v) := r
    rw [x] at r; cases r
    exact ⟨_, _, H1, h, s1, k1, d1⟩
theorem walkD_at {K : PySem.W.Frag} {J : It} {B H0 : Hp} {xs : List V} {ds : List D} (hd : DpAll K H0 xs ds) (w : Walk J xs.length (fun H => Same B H ∧ Same H0 H) (YAt xs)) : WalkD K J B H0 ds := by
  refine ⟨YAt xs, by rw [← DpAll.length hd]; exact w, fun i H x H' H1 hi s1 s2 ⟨e1, e2⟩ => ?_⟩
  obtain ⟨v, ev, dv⟩ := DpAll.get (i := i) (d := ds[i]) hd (List.getElem?_eq_getElem hi)
  rw [ev] at e2; cases e2
  exact ⟨ds[i], List.getElem?_eq_getElem hi, .inl ⟨e1, dp_same s1 dv⟩⟩
def iLst (δ : DE) : DI := fun Γ R => δ Γ fun x Γ1 => frzD (fun d Γ2 => ∃ ds, d = .list ds ∧ R ds Γ2) x Γ1
theorem pdi_list {tg : Expr} (h1 : PD X e δe) : PDI X tg e (iLst δe) := match h1 with
  | ⟨_, h, s⟩ => ⟨_, pi_list h, fun B M Γ σ H H0 Q R k q ok => s B M Γ σ H H0 _ _ k q fun v x Γ1 H1 H01 h1 s1 k1 r1 => by
      obtain ⟨d, Γ2, H02, ⟨ds, e, h2⟩, s2, k2, r2⟩ := frzD_ok k1 r1 h1
      subst e
      obtain ⟨p, xs, rfl, hp, dv⟩ := dp_list_inv r2
      exact ⟨p, rfl, ⟨xs, k2.sub.seq hp⟩, ok _ ds Γ2 H1 H02 h2 (s1.trans s2) k2 (walkD_at dv (walk_list.mono (fun H s => Same.seq s.2 hp) fun _ _ _ _ _ _ y => y))⟩⟩
def iTpl (δ : DE) : DI := fun Γ R => δ Γ fun x Γ1 => ∃ ds, x = .d (.tuple ds) ∧ R ds Γ1
theorem pdi_tup {tg : Expr} (h1 : PD X e δe) : PDI X tg e (iTpl δe) := match h1 with
  | ⟨_, h, s⟩ => ⟨_, pi_tup h, fun B M Γ σ H H0 Q R k q ok => s B M Γ σ H H0 _ _ k q fun v x Γ1 H1 H01 ⟨ds, e, h1⟩ s1 k1 r1 => by
      subst e
      obtain ⟨p, xs, rfl, hp, dv⟩ := dp_tuple_inv r1
      exact ⟨p, rfl, ⟨xs, Same.sqT k1.sub hp⟩, ok _ ds Γ1 H1 H01 h1 s1 k1 (walkD_at dv (walk_tup.mono (fun H s => Same.sqT s.2 hp) fun _ _ _ _ _ _ y => y))⟩⟩
def iTxt (δ : DE) : DI := fun Γ R => δ Γ fun x Γ1 => ∃ w, x = .d (.str (T w)) ∧ R (w.map fun c => sD [c]) Γ1
theorem pdi_str {tg : Expr} (h1 : PD X e δe) : PDI X tg e (iTxt δe) := match h1 with
  | ⟨_, h, s⟩ => ⟨_, pi_str h, fun B M Γ σ H H0 Q R k q ok => s B M Γ σ H H0 _ _ k q fun v x Γ1 H1 H01 ⟨w, e, h1⟩ s1 k1 r1 => by
      subst e
      cases dp_str_inv r1
      refine ⟨T w, rfl, ok _ _ Γ1 H1 H01 h1 s1 k1 ⟨fun i H v H' => H' = H ∧ ∃ c, (T w).cps[i]? = some c ∧ v = .str ⟨#[c]⟩, ?_, ?_⟩⟩
      · have := (walk_str (z := T w)).mono (G' := fun H => Same B H ∧ Same H01 H) (fun _ _ => trivial) (fun _ _ _ _ _ _ y => y)
        have el : (w.map fun c => sD [c]).length = (T w).cps.size := by simp [T]
        rw [el]; exact this
      · intro i H x H' H2 hi _ _ ⟨e1, c, e2, e3⟩
        have hc : w[i]? = some c := by simpa [T] using e2
        refine ⟨sD [c], by rw [List.getElem?_map, hc]; rfl, .inl ⟨e1, ?_⟩⟩
        rw [e3]; exact .str _⟩
def iRg1 (α : DA) : DI := fun Γ R => α Γ fun xs Γ1 => ∃ n : Int, xs = [.d (.int n)] ∧ (-1000000000 ≤ n ∧ n ≤ 1000000000) ∧ R ((List.range n.toNat).map fun i => .int ((i : Nat) : Int)) Γ1
theorem walkD_rng {K : PySem.W.Frag} {B H0 : Hp} {lo : Int} {n : Nat} : WalkD K (Itr lo n) B H0 ((List.range n).map fun i => .int (lo + ((i : Nat) : Int))) := by
  refine ⟨YFn fun i => .int (lo + i), ?_, ?_⟩
  · have := (walk_range (lo := lo) (n := n)).mono (G' := fun H => Same B H ∧ Same H0 H) (fun _ _ => trivial) (fun _ _ _ _ _ _ y => y)
    rw [List.length_map, List.length_range]
    exact this
  · intro i H x H' H2 hi _ _ ⟨e1, e2⟩
    rw [List.length_map, List.length_range] at hi
    refine ⟨.int (lo + ((i : Nat) : Int)), by rw [List.getElem?_map, List.getElem?_range hi]; rfl, .inl ⟨e1, ?_⟩⟩
    rw [e2]; exact .int _
theorem pdi_range1 {tg : Expr} {α : DA} {p : Pos} (hg : Gl X "range") (hm : X.mg "range" = none) (hs : starEach [a] X.env = [(false, eval a X.env)] := by rfl) (h1 : PDA X [a] α) : PDI X tg (.Call (.Name "range" p) [a] [] pos) (iRg1 α) := match h1 with
  | ⟨_, h, s⟩ => ⟨_, pi_range1 hg hm h hs, fun B M Γ σ H H0 Q R k q ok => s B M Γ σ H H0 _ _ k q fun vs xs Γ1 H1 H01 ⟨n, e, hn, h1⟩ s1 k1 r1 => by
      subst e
      cases r1 with
      | cons r1 r2 =>
        cases r2
        cases dp_int_inv r1
        refine ⟨n, rfl, by omega, by omega, ok _ _ Γ1 H1 H01 h1 s1 k1 ?_⟩
        have := walkD_rng (K := X.K) (B := B) (H0 := H01) (lo := 0) (n := n.toNat)
        simpa using this⟩
def iRg2 (α : DA) : DI := fun Γ R => α Γ fun xs Γ1 => ∃ m n : Int, xs = [.d (.int m), .d (.int n)] ∧ (-1000000000 ≤ m ∧ m ≤ 1000000000 ∧ -1000000000 ≤ n ∧ n ≤ 1000000000) ∧ R ((List.range (n - m).toNat).map fun i => .int (m + ((i : Nat) : Int))) Γ1
theorem pdi_range2 {tg : Expr} {α : DA} {p : Pos} (hg : Gl X "range") (hm : X.mg "range" = none) (hs : starEach [a, b] X.env = [(false, eval a X.env), (false, eval b X.env)] := by rfl) (hs2 : starEach [b] X.env = [(false, eval b X.env)] := by rfl) (h1 : PDA X [a, b] α) : PDI X tg (.Call (.Name "range" p) [a, b] [] pos) (iRg2 α) := match h1 with
  | ⟨_, h, s⟩ => ⟨_, pi_range2 hg hm h hs hs2, fun B M Γ σ H H0 Q R k q ok => s B M Γ σ H H0 _ _ k q fun vs xs Γ1 H1 H01 ⟨m, n, e, hn, h1⟩ s1 k1 r1 => by
      subst e
      cases r1 with
      | cons r1 r2 =>
        cases r2 with
        | cons r2 r3 =>
          cases r3
          cases dp_int_inv r1
          cases dp_int_inv r2
          exact ⟨m, n, rfl, ⟨by omega, by omega, by omega, by omega⟩, ok _ _ Γ1 H1 H01 h1 s1 k1 (walkD_rng (K := X.K) (H0 := H01))⟩⟩
end
end DL

set_option Elab.async false
set_option linter.all false
set_option maxRecDepth 100000
set_option maxHeartbeats 2000000
set_option autoImplicit false
namespace DL
open PySem L2 PyProof.Rows

/-! ### defs over data -/
/-- what is wanted behind a call -/
def After (K : PySem.W.Frag) (H M : Hp) (Q : VK) (d : D) : Prop := ∀ v H' M', Same H H' → Same M M' → Same M' H' → (∀ a o, H a = some o → M a = none → M' a = none) → Clean K M' → Dp K M' v d → Q v H'
def spD (K : PySem.W.Frag) (n : Nat) (F : List D → (D → Prop) → Prop) : Sp := fun vs H Q _ => ∃ M ds, Same M H ∧ Clean K M ∧ DpAll K M vs ds ∧ ds.length = n ∧ F ds (After K H M Q)
def dCall (n : Nat) (F : List D → (D → Prop) → Prop) (α : DA) : DE := fun Γ R => α Γ fun xs Γ1 => ∃ ds, outs xs = some ds ∧ ds.length = n ∧ F ds fun d => R (.d d) Γ1
/-- the state behind a call that keeps all -/
theorem Kn.after {K : PySem.W.Frag} {B M : Hp} {Γ : DCtx} {σ : L2.St} {H H0 H' M' : Hp} (k : Kn K B M Γ σ H H0) (s1 : Same H H') (s2 : Same H0 M') (s3 : Same M' H') (nw : ∀ a o, H a = some o → H0 a = none → M' a = none) (cl : Clean K M') : Kn K B M Γ σ H' M' := by
  refine ⟨k.base.trans s1, k.mm.trans s2, s3, fun a o e n => ?_, k.len, fun i d e => ?_, fun i p o e => ?_, k.sep, cl⟩
  · exact nw a o (k.base a o e) (k.new a o e n)
  · obtain ⟨v, x, y⟩ := k.val i d e
    exact ⟨v, x, dp_same s2 y⟩
  · obtain ⟨h, x, hB, h0, hp, ok⟩ := k.own i p o e
    exact ⟨h, x, hB, nw p h hp h0, s1 p h hp, obOk_same s2 ok⟩
section
variable {X : Cx} {a b c e : Expr} {pos : Pos} {δa δb δc δe : DE}
theorem sim_call {K : PySem.W.Frag} {n : Nat} {F : List D → (D → Prop) → Prop} {t : TA} {α : DA} {E : XK} (hF : ∀ ds (P P' : D → Prop), (∀ d, P d → P' d) → F ds P → F ds P') (s : SimA K t α) : Sim K (tCall (spD K n F) [] E t) (dCall n F α) := fun B M Γ σ H H0 Q R k h q =>
  s B M Γ σ H H0 _ _ k h fun vs xs Γ1 H1 H01 ⟨ds, e, hl, h1⟩ s1 k1 r1 => by
    cases outs_eq e
    rw [List.append_nil]
    refine ⟨H01, ds, k1.sub, k1.cl, dpAll_of r1, hl, hF ds _ _ (fun d h2 => ?_) h1⟩
    intro v H' M' a1 a2 a3 a4 a5 a6
    exact q v (.d d) Γ1 H' M' h2 (s1.trans a2) (k1.after a1 a2 a3 a4 a5) a6
theorem pd_call {n : Nat} {F : List D → (D → Prop) → Prop} {CX : CXT} {E : XK} {k : Nat} {f : Addr} {fd : FuncData} {ps : List Str} {x : Str} {p : Pos} {es : List Expr} {α : DA} (hF : ∀ ds (P P' : D → Prop), (∀ d, P d → P' d) → F ds P → F ds P') (G : FnOk X.prog X.w X.K X.mg X.base CX k f fd ps (spD X.K n F)) (hr : Room k X.A) (hg : Gl X x) (hm : X.mg x = some (.ref f)) (hk : PySem.W.keepIn X.K (.ref f) = true) (hb : Binds X.K fd ps []) (hx : Passes CX X E)
    (hdb : (x == ("__debug__" : Str)) = false := by decide) (he : starEach (e :: es) X.env = (false, eval e X.env) :: starEach es X.env := by rfl) (hpl : (backTo pos (starEach es X.env)).any (·.1) = false := by rfl) (h1 : PDA X (e :: es) α) : PD X (.Call (.Name x p) (e :: es) [] pos) (dCall n F α) := match h1 with
  | ⟨_, h, s⟩ => ⟨_, pe_call G hr hg hm hk hb .nil hx h hdb he hpl, sim_call hF s⟩
end
/-- a def that takes data and gives data -/
theorem start_kn {K : PySem.W.Frag} {N : List Str} {vs : List V} {ds : List D} {H M : Hp} (hN : vs.length ≤ N.length) (s : Same M H) (cl : Clean K M) (h : DpAll K M vs ds) : Kn K H M (ds.map (fun d => some (DCell.val d)) ++ List.replicate (N.length - ds.length) none) (start N vs) H M := by
  have hl := DpAll.length h
  have none_at : ∀ {i : Nat} {c : DCell}, (ds.map (fun d => some (DCell.val d)) ++ List.replicate (N.length - ds.length) none)[i]? = some (some c) → ∃ d, c = .val d ∧ ds[i]? = some d := fun {i c} e => by
    by_cases hi : i < ds.length
    · rw [List.getElem?_append_left (by rw [List.length_map]; exact hi), List.getElem?_map, List.getElem?_eq_getElem hi] at e
      simp only [Option.map_some, Option.some.injEq] at e
      exact ⟨ds[i], e.symm, List.getElem?_eq_getElem hi⟩
    · rw [List.getElem?_append_right (by rw [List.length_map]; omega)] at e
      rw [List.getElem?_replicate] at e
      split at e
      · cases e
      · cases e
  refine ⟨Same.refl _, Same.refl _, s, fun a o e n => n, ?_, fun i d e => ?_, fun i p o e => ?_, fun a b oa ob p q hab ea eb => ?_, cl⟩
  · unfold L2.start; simp [hl]
  · obtain ⟨d', e1, e2⟩ := none_at e
    cases e1
    obtain ⟨v, a, b⟩ := DpAll.get h e2
    refine ⟨v, ?_, b⟩
    unfold L2.start
    rw [List.getElem?_append_left (by rw [List.length_map]; exact (List.getElem?_eq_some_iff.mp a).1), List.getElem?_map, a]
    rfl
  · obtain ⟨d', e1, _⟩ := none_at e
    cases e1
  · obtain ⟨d', e1, _⟩ := none_at ea
    cases e1
section
variable {P : Program} {w : World} {K : PySem.W.Frag} {mg : Str → Option Value} {base : Heap}
theorem fnD {x qual : Str} {st : Stmt} {f : Addr} {fd : FuncData} {N ps : List Str} {k n m : Nat} {F : List D → (D → Prop) → Prop} (G : Fun K x qual st f fd) (S : FnScope N ps (defScope st)) (hn : ps.length = n) (hN : N.length = n + m)
    (hbody : ∀ (ds : List D) (Q : D → Prop), ds.length = n → F ds Q → ∃ β : DS, (∀ (cdv : Value) (A : Around) (outer : List Env) (s : Shared) (H : Hp) (E : XK), Room k (A.deeper (envOfC qual (defScope st) s.heap.objs.size f cdv)) →
      PDSs (cxOf CX0 P w K mg base N qual (defScope st) f cdv A outer s H E).nox (defBody st) β) ∧
      β { nx := fun _ => Q .none, rt := fun d _ => Q d } (ds.map (fun d => some (DCell.val d)) ++ List.replicate m none)) : FnOk P w K mg base CX0 (k + 1) f fd ps (spD K n F) := by
  refine G.ok S (fun vs H Q E h => ?_) (fun cdv A outer s H vs Q E hr h => ?_)
  · obtain ⟨M, ds, _, _, hd, hl, _⟩ := h
    rw [DpAll.length hd, hl, hn]
  · obtain ⟨M, ds, sm, cl, hd, hl, hf⟩ := h
    obtain ⟨β, pb, hb⟩ := hbody ds _ hl hf
    obtain ⟨t, pt, ss⟩ := pb cdv A outer s H E hr
    have k0 : Kn K H M (ds.map (fun d => some (DCell.val d)) ++ List.replicate m none) (start N vs) H M := by
      have := start_kn (N := N) (by rw [DpAll.length hd, hl, hN]; omega) sm cl hd
      rw [hl, hN, Nat.add_sub_cancel_left] at this
      exact this
    refine ⟨t, pt, ss H M _ _ H M _ _ k0 hb ⟨fun Γ' σ' H' H0' q s' k' => ?_, fun v d Γ' σ' H' H0' q s' k' r' => ?_, fun _ _ _ _ q => q.elim, fun _ _ _ _ q => q.elim⟩⟩
    · exact q .non H' H0' k'.base k'.mm k'.sub k'.new k'.cl .non
    · exact q v H' H0' k'.base k'.mm k'.sub k'.new k'.cl r'
end
/-! ### defs that draw: (script, town, ..); town is changed -/
def del (H : Hp) (p : Addr) : Hp := fun a => if a = p then none else H a
theorem del_same {H : Hp} {p : Addr} : del H p p = none := by unfold del; rw [if_pos rfl]
theorem del_ne {H : Hp} {p a : Addr} (h : a ≠ p) : del H p a = H a := by unfold del; rw [if_neg h]
theorem del_some {H : Hp} {p a : Addr} {o : HO} (h : del H p a = some o) : a ≠ p ∧ H a = some o := by
  by_cases e : a = p
  · subst e; rw [del_same] at h; cases h
  · rw [del_ne e] at h; exact ⟨e, h⟩
def AfterT (K : PySem.W.Frag) (H M : Hp) (p : Addr) (Q : VK) (d : D) (ts : List D) : Prop := ∀ v H' M' us, (∀ a o, a ≠ p → H a = some o → H' a = some o) → Same M M' → Same M' H' → (∀ a o, H a = some o → M a = none → M' a = none) → H' p = some (.lst us) → Clean K M' → DpAll K M' us ts → Dp K M' v d → Q v H'
/-- ts: what town holds; ds: script and the other arguments -/
def spT (K : PySem.W.Frag) (n : Nat) (F : List D → List D → (D → List D → Prop) → Prop) : Sp := fun vs H Q _ => ∃ M p us ts sv rs ds, vs = sv :: .ref p :: rs ∧ M p = none ∧ H p = some (.lst us) ∧ Same M H ∧ Clean K M ∧ DpAll K M us ts ∧ DpAll K M (sv :: rs) ds ∧ ds.length = n ∧ F ts ds (AfterT K H M p Q)
/-- f(script, town, ..): town stands in slot j -/
def dCallT (n : Nat) (F : List D → List D → (D → List D → Prop) → Prop) (α : DA) : DE := fun Γ R => α Γ fun xs Γ1 => ∃ j p ts s xs' ds, xs = .d s :: .o j :: xs' ∧ outs xs' = some ds ∧ Γ1[j]? = some (some (DCell.own p (.lst ts))) ∧ ds.length + 1 = n ∧ F ts (s :: ds) fun d ts' => R (.d d) (Γ1.set j (some (DCell.own p (.lst ts'))))
theorem Kn.afterT {K : PySem.W.Frag} {B M : Hp} {Γ : DCtx} {σ : L2.St} {H H0 H' M' : Hp} {j : Nat} {p : Addr} {ts ts' : List D} {us : List V} (k : Kn K B M Γ σ H H0) (e : Γ[j]? = some (some (DCell.own p (.lst ts)))) (s1 : ∀ a o, a ≠ p → H a = some o → H' a = some o) (s2 : Same H0 M') (s3 : Same M' H') (nw : ∀ a o, H a = some o → H0 a = none → M' a = none)
    (hp : H' p = some (.lst us)) (cl : Clean K M') (dt : DpAll K M' us ts') : Kn K B M (Γ.set j (some (DCell.own p (.lst ts')))) σ H' M' := by
  obtain ⟨h, x, hB, h0, hpo, ok⟩ := k.own j p _ e
  refine ⟨fun a o ea => s1 a o (ne_of_none ea hB) (k.base a o ea), k.mm.trans s2, s3, fun a o ea n => nw a o (k.base a o ea) (k.new a o ea n), by simp [k.len], fun i d ei => ?_, fun i q o ei => ?_, fun a b oa ob q r hab ea eb => ?_, cl⟩
  · rcases set_get ei with ⟨_, e1, _⟩ | ⟨_, ei⟩
    · cases e1
    · obtain ⟨v, x, y⟩ := k.val i d ei
      exact ⟨v, x, dp_same s2 y⟩
  · rcases set_get ei with ⟨rfl, e1, _⟩ | ⟨hj, ei⟩
    · cases e1
      exact ⟨_, x, hB, nw p h hpo h0, hp, .lst dt⟩
    · obtain ⟨h2, x2, hB2, h02, hp2, ok2⟩ := k.own i q o ei
      exact ⟨h2, x2, hB2, nw q h2 hp2 h02, s1 q h2 (fun z => k.sep j i _ _ p q hj e ei z.symm) hp2, obOk_same s2 ok2⟩
  · have back : ∀ {i : Nat} {q : Addr} {o : DOb}, (Γ.set j (some (DCell.own p (.lst ts'))))[i]? = some (some (DCell.own q o)) → ∃ o', Γ[i]? = some (some (DCell.own q o')) := fun {i q o} ei => by
      rcases set_get ei with ⟨rfl, e1, _⟩ | ⟨_, ei⟩
      · cases e1; exact ⟨_, e⟩
      · exact ⟨_, ei⟩
    obtain ⟨o1, ea⟩ := back ea
    obtain ⟨o2, eb⟩ := back eb
    exact k.sep a b o1 o2 q r hab ea eb
section
variable {X : Cx} {a b c e : Expr} {pos : Pos} {δa δb δc δe : DE}
theorem sim_callT {K : PySem.W.Frag} {n : Nat} {F : List D → List D → (D → List D → Prop) → Prop} {t : TA} {α : DA} {E : XK} (hF : ∀ ts ds (P P' : D → List D → Prop), (∀ d ts, P d ts → P' d ts) → F ts ds P → F ts ds P') (s : SimA K t α) : Sim K (tCall (spT K n F) [] E t) (dCallT n F α) := fun B M Γ σ H H0 Q R k h q =>
  s B M Γ σ H H0 _ _ k h fun vs xs Γ1 H1 H01 ⟨j, p, ts, s0, xs', ds, e, eo, ej, hl, h1⟩ s1 k1 r1 => by
    cases outs_eq eo
    subst e
    rw [List.append_nil]
    cases r1 with
    | cons ra r1 =>
      cases r1 with
      | @cons vp _ rs _ rb r1 =>
        obtain ⟨us, x, hp, dt⟩ := k1.ownL ej
        have rb : σ[j]? = some (some vp) := rb
        rw [x] at rb; cases rb
        obtain ⟨_, _, hB, h0, _, _⟩ := k1.own j p _ ej
        refine ⟨H01, p, us, ts, _, rs, s0 :: ds, rfl, h0, hp, k1.sub, k1.cl, dt, .cons ra (dpAll_of r1), by simpa using hl, hF ts _ _ _ (fun d ts' h2 => ?_) h1⟩
        intro v H' M' us' a1 a2 a3 a4 a5 a6 a7 a8
        exact q v (.d d) _ H' M' h2 (s1.trans a2) (k1.afterT ej a1 a2 a3 a4 a5 a6 a7) a8
theorem pd_callT {n : Nat} {F : List D → List D → (D → List D → Prop) → Prop} {CX : CXT} {E : XK} {k : Nat} {f : Addr} {fd : FuncData} {ps : List Str} {x : Str} {p : Pos} {es : List Expr} {α : DA} (hF : ∀ ts ds (P P' : D → List D → Prop), (∀ d ts, P d ts → P' d ts) → F ts ds P → F ts ds P') (G : FnOk X.prog X.w X.K X.mg X.base CX k f fd ps (spT X.K n F)) (hr : Room k X.A) (hg : Gl X x) (hm : X.mg x = some (.ref f)) (hk : PySem.W.keepIn X.K (.ref f) = true) (hb : Binds X.K fd ps []) (hx : Passes CX X E)
    (hdb : (x == ("__debug__" : Str)) = false := by decide) (he : starEach (e :: es) X.env = (false, eval e X.env) :: starEach es X.env := by rfl) (hpl : (backTo pos (starEach es X.env)).any (·.1) = false := by rfl) (h1 : PDA X (e :: es) α) : PD X (.Call (.Name x p) (e :: es) [] pos) (dCallT n F α) := match h1 with
  | ⟨_, h, s⟩ => ⟨_, pe_call G hr hg hm hk hb .nil hx h hdb he hpl, sim_callT hF s⟩
end
section
variable {P : Program} {w : World} {K : PySem.W.Frag} {mg : Str → Option Value} {base : Heap}
theorem startT_kn {K : PySem.W.Frag} {N : List Str} {sv : V} {p : Addr} {rs us : List V} {s : D} {ds ts : List D} {H M : Hp} (hN : rs.length + 2 ≤ N.length) (sm : Same M H) (cl : Clean K M) (hM : M p = none) (hp : H p = some (.lst us)) (h1 : Dp K M sv s) (h : DpAll K M rs ds) (ht : DpAll K M us ts) :
    Kn K (del H p) M (some (DCell.val s) :: some (DCell.own p (.lst ts)) :: (ds.map (fun d => some (DCell.val d)) ++ List.replicate (N.length - 2 - ds.length) none)) (start N (sv :: .ref p :: rs)) H M := by
  have hl := DpAll.length h
  have st : start N (sv :: .ref p :: rs) = some sv :: some (.ref p) :: (rs.map some ++ List.replicate (N.length - 2 - ds.length) none) := by
    unfold L2.start
    simp only [List.map_cons, List.cons_append, List.length_cons, hl]
    rw [show N.length - (ds.length + 1 + 1) = N.length - 2 - ds.length by omega]
  rw [st]
  have tail : ∀ {i : Nat} {c : DCell}, (ds.map (fun d => some (DCell.val d)) ++ List.replicate (N.length - 2 - ds.length) none)[i]? = some (some c) → ∃ d, c = .val d ∧ ds[i]? = some d := fun {i c} e => by
    by_cases hi : i < ds.length
    · rw [List.getElem?_append_left (by rw [List.length_map]; exact hi), List.getElem?_map, List.getElem?_eq_getElem hi] at e
      simp only [Option.map_some, Option.some.injEq] at e
      exact ⟨ds[i], e.symm, List.getElem?_eq_getElem hi⟩
    · rw [List.getElem?_append_right (by rw [List.length_map]; omega)] at e
      rw [List.getElem?_replicate] at e
      split at e
      · cases e
      · cases e
  refine ⟨fun a o e => (del_some e).2, Same.refl _, sm, fun a o e n => n, by simp [hl], fun i d e => ?_, fun i q o e => ?_, fun a b oa ob q r hab ea eb => ?_, cl⟩
  · match i, e with
    | 0, e => simp at e; subst e; exact ⟨sv, rfl, h1⟩
    | 1, e => simp at e
    | i + 2, e =>
      simp only [List.getElem?_cons_succ] at e ⊢
      obtain ⟨d', e1, e2⟩ := tail e
      cases e1
      obtain ⟨v, a, b⟩ := DpAll.get h e2
      refine ⟨v, ?_, b⟩
      rw [List.getElem?_append_left (by rw [List.length_map]; exact (List.getElem?_eq_some_iff.mp a).1), List.getElem?_map, a]
      rfl
  · match i, e with
    | 0, e => simp at e
    | 1, e => simp at e; obtain ⟨rfl, rfl⟩ := e; exact ⟨_, rfl, del_same, hM, hp, .lst ht⟩
    | i + 2, e =>
      simp only [List.getElem?_cons_succ] at e
      obtain ⟨d', e1, e2⟩ := tail e
      cases e1
  · have one : ∀ {i : Nat} {q : Addr} {o : DOb}, (some (DCell.val s) :: some (DCell.own p (.lst ts)) :: (ds.map (fun d => some (DCell.val d)) ++ List.replicate (N.length - 2 - ds.length) none))[i]? = some (some (DCell.own q o)) → i = 1 := fun {i q o} e => by
      match i, e with
      | 0, e => simp at e
      | 1, e => rfl
      | i + 2, e =>
        simp only [List.getElem?_cons_succ] at e
        obtain ⟨d', e1, e2⟩ := tail e
        cases e1
    exact absurd ((one ea).trans (one eb).symm) hab
theorem fnT {x qual : Str} {st : Stmt} {f : Addr} {fd : FuncData} {N ps : List Str} {k n m : Nat} {F : List D → List D → (D → List D → Prop) → Prop} (G : Fun K x qual st f fd) (S : FnScope N ps (defScope st)) (hn : ps.length = n + 2) (hN : N.length = n + 2 + m)
    (hbody : ∀ (ts : List D) (s : D) (ds : List D) (Q : D → List D → Prop), ds.length = n → F ts (s :: ds) Q → ∃ β : DS, (∀ (cdv : Value) (A : Around) (outer : List Env) (s : Shared) (H : Hp) (E : XK), Room k (A.deeper (envOfC qual (defScope st) s.heap.objs.size f cdv)) →
      PDSs (cxOf CX0 P w K mg base N qual (defScope st) f cdv A outer s H E).nox (defBody st) β) ∧
      ∀ p, β { nx := fun _ => False, rt := fun d Γ => ∃ ts', Γ[1]? = some (some (DCell.own p (.lst ts'))) ∧ Q d ts' } (some (DCell.val s) :: some (DCell.own p (.lst ts)) :: (ds.map (fun d => some (DCell.val d)) ++ List.replicate m none))) : FnOk P w K mg base CX0 (k + 1) f fd ps (spT K (n + 1) F) := by
  refine G.ok S (fun vs H Q E h => ?_) (fun cdv A outer s H vs Q E hr h => ?_)
  · obtain ⟨M, p, us, ts, sv, rs, ds, rfl, _, _, _, _, _, hd, hl, _⟩ := h
    have := DpAll.length hd
    simp only [List.length_cons] at this ⊢
    omega
  · obtain ⟨M, p, us, ts, sv, rs, ds, rfl, hM, hp, sm, cl, dt, hd, hl, hf⟩ := h
    cases hd with
    | @cons _ _ d0 ds hs hd =>
      have hl' : ds.length = n := by simpa using hl
      obtain ⟨β, pb, hb⟩ := hbody ts d0 ds _ hl' hf
      obtain ⟨t, pt, ss⟩ := pb cdv A outer s H E hr
      have k0 := startT_kn (N := N) (by rw [DpAll.length hd, hl', hN]; omega) sm cl hM hp hs hd dt
      rw [hl', hN, show n + 2 + m - 2 - n = m by omega] at k0
      refine ⟨t, pt, ss _ M _ _ H M _ _ k0 (hb p) ⟨fun Γ' σ' H' H0' q s' k' => q.elim, fun v d Γ' σ' H' H0' ⟨ts', e1, q⟩ s' k' r' => ?_, fun _ _ _ _ q => q.elim, fun _ _ _ _ q => q.elim⟩⟩
      obtain ⟨us', x', hp', dt'⟩ := k'.ownL e1
      obtain ⟨_, _, _, h0', _, _⟩ := k'.own 1 p _ e1
      refine q v H' H0' us' (fun a o ne e => k'.base a o (by rw [del_ne ne]; exact e)) k'.mm k'.sub (fun a o e n => ?_) hp' k'.cl dt' r'
      by_cases ha : a = p
      · subst ha; exact h0'
      · exact k'.new a o (by rw [del_ne ha]; exact e) n
end
end DL

set_option Elab.async false
set_option linter.all false
set_option maxRecDepth 100000
set_option maxHeartbeats 2000000
set_option autoImplicit false
namespace DL
open PySem L2 PyProof.Rows

/-! ### isinstance -/
theorem tyX_of {K : PySem.W.Frag} {H : Hp} {v : V} {d : D} (h : Dp K H v d) : TyX K H v (.type (tyN d)) := by
  cases h with
  | non => exact .base .non
  | bl b => exact .base (.bl b)
  | int i => exact .base (.int i)
  | str x => exact .base (.str x)
  | lst h _ =>
    rcases h with (h | ⟨o, h⟩) | ⟨o, its, n, h, c, _⟩
    · exact .base (.lst h)
    · exact .base (.frz h)
    · exact .kList h c
  | tup h _ =>
    rcases h with (h | ⟨o, h⟩) | ⟨o, its, n, h, c, _⟩
    · exact .base (.tup h)
    · exact .fTuple h
    · exact .kTuple h c
def isStrD : D → Bool
  | .str _ => true
  | _ => false
def isIntD : D → Bool
  | .int _ => true | .bool _ => true
  | _ => false
def isBoolD : D → Bool
  | .bool _ => true
  | _ => false
def isTupD : D → Bool
  | .tuple _ => true
  | _ => false
theorem kit_str : ∀ d : D, kitB (tyN d) "str" = some (isStrD d)
  | .none => (by decide +kernel : kitB "NoneType" "str" = some false)
  | .bool _ => (by decide +kernel : kitB "bool" "str" = some false)
  | .int _ => (by decide +kernel : kitB "int" "str" = some false)
  | .str _ => (by decide +kernel : kitB "str" "str" = some true)
  | .list _ => (by decide +kernel : kitB "list" "str" = some false)
  | .tuple _ => (by decide +kernel : kitB "tuple" "str" = some false)
  | .dict _ => (by decide +kernel : kitB "dict" "str" = some false)
theorem kit_int : ∀ d : D, kitB (tyN d) "int" = some (isIntD d)
  | .none => (by decide +kernel : kitB "NoneType" "int" = some false)
  | .bool _ => (by decide +kernel : kitB "bool" "int" = some true)
  | .int _ => (by decide +kernel : kitB "int" "int" = some true)
  | .str _ => (by decide +kernel : kitB "str" "int" = some false)
  | .list _ => (by decide +kernel : kitB "list" "int" = some false)
  | .tuple _ => (by decide +kernel : kitB "tuple" "int" = some false)
  | .dict _ => (by decide +kernel : kitB "dict" "int" = some false)
theorem kit_bool : ∀ d : D, kitB (tyN d) "bool" = some (isBoolD d)
  | .none => (by decide +kernel : kitB "NoneType" "bool" = some false)
  | .bool _ => (by decide +kernel : kitB "bool" "bool" = some true)
  | .int _ => (by decide +kernel : kitB "int" "bool" = some false)
  | .str _ => (by decide +kernel : kitB "str" "bool" = some false)
  | .list _ => (by decide +kernel : kitB "list" "bool" = some false)
  | .tuple _ => (by decide +kernel : kitB "tuple" "bool" = some false)
  | .dict _ => (by decide +kernel : kitB "dict" "bool" = some false)
theorem kit_tup : ∀ d : D, kitB (tyN d) "tuple" = some (isTupD d)
  | .none => (by decide +kernel : kitB "NoneType" "tuple" = some false)
  | .bool _ => (by decide +kernel : kitB "bool" "tuple" = some false)
  | .int _ => (by decide +kernel : kitB "int" "tuple" = some false)
  | .str _ => (by decide +kernel : kitB "str" "tuple" = some false)
  | .list _ => (by decide +kernel : kitB "list" "tuple" = some false)
  | .tuple _ => (by decide +kernel : kitB "tuple" "tuple" = some true)
  | .dict _ => (by decide +kernel : kitB "dict" "tuple" = some false)
def dIsi (f : D → Bool) (δ : DE) : DE := fun Γ R => δ Γ fun x Γ1 => ∃ d, x = .d d ∧ R (.d (.bool (f d))) Γ1
section
variable {X : Cx} {a b c e : Expr} {pos : Pos} {δa δb δc δe : DE}
theorem pd_isi {f : D → Bool} {ty : String} {x : Str} {p p2 : Pos} (hk : ∀ d, kitB (tyN d) ty = some (f d)) (hg : Gl X "isinstance") (hm : X.mg "isinstance" = none) (hgx : Gl X x) (hmx : X.mg x = none) (hvx : bootBuiltins x = some (.type ty)) (hn : x ≠ "__name__" := by decide) (hdx : (x == ("__debug__" : Str)) = false := by decide) (hcx : (x == ("__classdict__" : Str)) = false := by decide)
    (hst : starEach [e, .Name x p2] X.env = (false, eval e X.env) :: starEach [.Name x p2] X.env := by rfl) (hst2 : starEach [.Name x p2] X.env = (false, eval (.Name x p2) X.env) :: starEach [] X.env := by rfl) (hp : (backTo pos (starEach [.Name x p2] X.env)).any (·.1) = false := by rfl) (h1 : PD X e δe) : PD X (.Call (.Name "isinstance" p) [e, .Name x p2] [] pos) (dIsi f δe) := match h1 with
  | ⟨_, h, s⟩ => ⟨_, pe_callB call_isi hg hm (by decide +kernel) (pa_cons h (pa_cons (pe_bltn (v := .ty ty) hgx hmx hvx rfl hn hdx) pa_nil hst2) hst) (by decide) (by decide) hst hp, fun B M Γ σ H H0 Q R k q ok => s B M Γ σ H H0 _ _ k q fun v x Γ1 H1 H01 ⟨d, e, h1⟩ s1 k1 r1 => by
      subst e
      exact ⟨v, .ty ty, .type (tyN d), .type ty, f d, rfl, .ty ty, tyX_of (dp_same k1.sub r1), kit_ty (hk d), ok _ _ Γ1 H1 H01 h1 s1 k1 (.bl _)⟩⟩
/-! ### x is None, x is not None -/
def dIsN (neg : Bool) : DR2 := fun x y Γ R => ∃ d, x = .d d ∧ y = .d .none ∧ R (.d (.bool (neg != decide (tyN d = "NoneType")))) Γ
theorem dp_non_iff {K : PySem.W.Frag} {H : Hp} {v : V} {d : D} (h : Dp K H v d) : decide (v = .non) = decide (tyN d = "NoneType") := by
  cases h <;> simp [tyN]
theorem rs_isN {K : PySem.W.Frag} : RSim2 K (fun x y H Q => y = .non ∧ Q (.bl (decide (x = .non))) H) (dIsN false) := by
  intro B M Γ σ H H0 Q R x y v u k r1 r2 ⟨d, e1, e2, h1⟩ q
  subst e1 e2
  exact ⟨dp_none_inv r2, q _ _ Γ H H0 h1 (Same.refl _) k (bl_of (by rw [dp_non_iff r1]; simp))⟩
theorem rs_notN {K : PySem.W.Frag} : RSim2 K (fun x y H Q => y = .non ∧ Q (.bl (!decide (x = .non))) H) (dIsN true) := by
  intro B M Γ σ H H0 Q R x y v u k r1 r2 ⟨d, e1, e2, h1⟩ q
  subst e1 e2
  exact ⟨dp_none_inv r2, q _ _ Γ H H0 h1 (Same.refl _) k (bl_of (by rw [dp_non_iff r1]; simp))⟩
def dNeg (δ : DE) : DE := fun Γ R => δ Γ fun x Γ1 => ∃ i, x = .d (.int i) ∧ R (.d (.int (-i))) Γ1
theorem pd_neg (h1 : PD X e δe) : PD X (.UnaryOp .USub e pos) (dNeg δe) := match h1 with
  | ⟨_, h, s⟩ => ⟨_, pe_un un_neg h, fun B M Γ σ H H0 Q R k q ok => s B M Γ σ H H0 _ _ k q fun v x Γ1 H1 H01 ⟨i, e, h1⟩ s1 k1 r1 => by
      subst e
      exact ⟨i, dp_int_inv r1, ok _ _ Γ1 H1 H01 h1 s1 k1 (.int _)⟩⟩
/-! ### sep.join(texts) -/
def joinW (S : List Nat) : List (List Nat) → List Nat
  | [] => []
  | [p] => p
  | p :: q :: r => p ++ (S ++ joinW S (q :: r))
theorem joinL_eq (S : List Nat) : ∀ ws : List (List Nat), TL.joinL S ws = joinW S ws
  | [] => rfl
  | [_] => rfl
  | p :: q :: r => by
    show p ++ (S ++ TL.joinL S (q :: r)) = p ++ (S ++ joinW S (q :: r))
    rw [joinL_eq S (q :: r)]
theorem join_T (S : List Nat) (ws : List (List Nat)) : Txt.join (T S) (ws.map T) = T (joinW S ws) := by
  have h := TL.tl_join (T S) (ws.map T)
  rw [← TL.join_eq] at h
  rw [← T_surj (Txt.join (T S) (ws.map T))]
  apply congrArg T
  have e : (ws.map T).map TL.tl = ws := by
    rw [List.map_map]
    conv => rhs; rw [← List.map_id ws]
    apply List.map_congr_left
    intro w _
    simp [T, TL.tl]
  rw [e, joinL_eq] at h
  have e2 : TL.tl (T S) = S := by simp [T, TL.tl]
  rw [e2] at h
  exact h
def dJoin (δo δe : DE) : DE := fun Γ R => δo Γ fun x Γ1 => (∃ S, x = .d (.str (T S))) ∧ δe Γ1 fun y Γ2 => ∃ (S : List Nat) (ws : List (List Nat)), x = .d (.str (T S)) ∧ Sq Γ2 y (ws.map sD) ∧ (ws.map List.length).sum + ws.length * S.length ≤ 1000000 ∧ R (.d (.str (T (joinW S ws)))) Γ2
theorem pd_join {o : Expr} {δo : DE} {apos : Pos} (hs : starEach [e] X.env = [(false, eval e X.env)] := by rfl) (hbase : attributeBase o "join" X.env (eval o X.env) = eval o X.env := by rfl) (hline : (apos.endLine == pos.line) = true := by rfl) (h1 : PD X o δo) (h2 : PD X e δe) : PD X (.Call (.Attribute o "join" apos) [e] [] pos) (dJoin δo δe) := match h1, h2 with
  | ⟨_, ho, so⟩, ⟨_, he, se⟩ => ⟨_, pe_join ho he hs hbase hline, fun B M Γ σ H H0 Q R k q ok => so B M Γ σ H H0 _ _ k q fun v x Γ1 H1 H01 ⟨⟨S, ex⟩, h1⟩ s1 k1 r1 => by
      subst ex
      refine ⟨⟨_, dp_str_inv r1⟩, se B M Γ1 σ H1 H01 _ _ k1 h1 fun u y Γ2 H2 H02 ⟨S', ws, ex, hy, hz, h2⟩ s2 k2 r2 => ?_⟩
      have ex : S = S' := by simpa [T_inj] using ex
      subst ex
      obtain ⟨p, vs, rfl, hp, dv⟩ := sq_get k2 r2 hy
      have ev := dpAll_sD dv
      subst ev
      have em : ws.map (fun w => V.str (T w)) = (ws.map T).map V.str := by rw [List.map_map]; rfl
      rw [em] at hp
      refine ⟨T S, p, ws.map T, dp_str_inv r1, rfl, hp, ?_, ok _ _ Γ2 H2 H02 h2 (s1.trans s2) k2 ?_⟩
      · have e1 : ((ws.map T).map (·.length)).sum = (ws.map List.length).sum := by
          rw [List.map_map]; rfl
        rw [e1, List.length_map, T_len]; omega
      · rw [join_T]; exact .str _⟩
/-! ### xs.append(e), xs of one's own -/
def dAppend (δo δe : DE) : DE := fun Γ R => δo Γ fun x Γ1 => ∃ j, x = .o j ∧ (∃ p ds, Γ1[j]? = some (some (DCell.own p (.lst ds)))) ∧ δe Γ1 fun y Γ2 => ∃ p ds d, y = .d d ∧ Γ2[j]? = some (some (DCell.own p (.lst ds))) ∧ ds.length ≤ 1000000 ∧ R (.d .none) (Γ2.set j (some (DCell.own p (.lst (ds ++ [d])))))
theorem pd_append {o : Expr} {δo : DE} {apos : Pos} (hbase : attributeBase o "append" X.env (eval o X.env) = eval o X.env := by rfl)
    (hfew : ((backTo pos (starEach [e] X.env)).all (fun x => !x.1) && (backToKw pos (keywordEach [] X.env)).all (fun x => x.1.isSome)
      && decide (([e] : List Expr).length + ([] : List Keyword).length + (if ([] : List Keyword).isEmpty then 0 else 1) < 30)) = true := by rfl)
    (hline : (apos.endLine == pos.line) = true := by rfl) (hs : starEach [e] X.env = (false, eval e X.env) :: starEach [] X.env := by rfl) (hplain : (backTo pos (starEach [] X.env)).any (·.1) = false := by rfl) (h1 : PD X o δo) (h2 : PD X e δe) : PD X (.Call (.Attribute o "append" apos) [e] [] pos) (dAppend δo δe) := match h1, h2 with
  | ⟨_, ho, so⟩, ⟨_, he, se⟩ => ⟨_, pe_bm PySem.F.plainAttrs_list PySem.F.slot_list_append PySem.F.type_list_append mt_append ho (pa_cons he pa_nil hs) hbase hfew hline hs hplain, fun B M Γ σ H H0 Q R k q ok => so B M Γ σ H H0 _ _ k q fun v x Γ1 H1 H01 ⟨j, ex, ⟨p, ds, e1⟩, h1⟩ s1 k1 r1 => by
      subst ex
      have r1 : σ[j]? = some (some v) := r1
      obtain ⟨vs, x1, hp, _⟩ := k1.ownL e1
      rw [x1] at r1; cases r1
      refine ⟨.inl ⟨rfl, vs, .inl (.inl hp)⟩, se B M Γ1 σ H1 H01 _ _ k1 h1 fun u y Γ2 H2 H02 ⟨p2, ds2, d, ey, e2, hz, h2⟩ s2 k2 r2 => ?_⟩
      subst ey
      obtain ⟨vs2, x2, hp2, dv2⟩ := k2.ownL e2
      rw [x1] at x2; cases x2
      refine ⟨p, vs2, u, rfl, rfl, hp2, ?_, ok _ _ _ _ H02 h2 (s1.trans s2) (k2.put e2 (.lst (DpAll.append dv2 (.cons r2 .nil)))) .non⟩
      rw [DpAll.length dv2]
      exact Nat.lt_of_le_of_lt hz (by decide)⟩
/-! ### xs[i] = e, xs of one's own -/
def sPutL (δv δo δi : DE) : DS := fun D Γ => δv Γ fun y Γ1 => δo Γ1 fun x Γ2 => δi Γ2 fun z Γ3 => ∃ d j p ds i n, y = .d d ∧ x = .o j ∧ z = .d (.int i) ∧ Γ3[j]? = some (some (DCell.own p (.lst ds))) ∧ ixN ds.length i = some n ∧ D.nx (Γ3.set j (some (DCell.own p (.lst (ds.set n d)))))
theorem pds_putL {o i v : Expr} {δo δi δv : DE} {tpos : Pos} (hs : swapsWithSole [.Subscript o i tpos] v pos.line X.env = pure false := by rfl) (hw : swappedStores [.Subscript o i tpos] v X.env = pure none := by rfl) (hae : (assignEach [.Subscript o i tpos] X.env).map (·.2) = [assign (.Subscript o i tpos) X.env] := by rfl)
    (ha : ∀ v, assign (.Subscript o i tpos) X.env v = (do
      let ov ← holding [v] (eval o X.env)
      let iv ← holding [v, ov] (eval i X.env)
      standAt tpos
      holding [v, ov, iv] (setItem ov iv v)
      release [v, ov, iv] []) := by intro _; rfl) (h1 : PD X v δv) (h2 : PD X o δo) (h3 : PD X i δi) : PDS X (.Assign [.Subscript o i tpos] v pos) (sPutL δv δo δi) := match h1, h2, h3 with
  | ⟨_, hv, sv⟩, ⟨_, ho, so⟩, ⟨_, hi, si⟩ => ⟨_, ps_asg hv (pg_sub ho hi set_list ha) hs hw hae, fun B M Γ σ H H0 E D k q ok => sv B M Γ σ H H0 _ _ k q fun u y Γ1 H1 H01 h1 s1 k1 r1 => so B M Γ1 σ H1 H01 _ _ k1 h1 fun w x Γ2 H2 H02 h2 s2 k2 r2 =>
      si B M Γ2 σ H2 H02 _ _ k2 h2 fun t z Γ3 H3 H03 ⟨d, j, p, ds, i, n, ey, ex, ez, e3, hx, h3⟩ s3 k3 r3 => by
        subst ey ex ez
        obtain ⟨vs, x3, hp, dv⟩ := k3.ownL e3
        have r2 : σ[j]? = some (some w) := r2
        rw [x3] at r2; cases r2
        exact ⟨p, vs, i, n, rfl, dp_int_inv r3, hp, by rw [DpAll.length dv]; exact hx, ok.nx _ _ _ H03 h3 ((s1.trans s2).trans s3) (k3.put e3 (.lst (DpAll.set n dv (dp_same (s2.trans s3) r1))))⟩⟩
/-! ### [x] * n -/
def nRep (δa δb : DE) : DN := fun Γ R => δa Γ fun x Γ1 => δb Γ1 fun y Γ2 => ∃ d n, x = .d (.list [d]) ∧ y = .d (.int n) ∧ -1000000 ≤ n ∧ n ≤ 1000000 ∧ R (.lst (List.replicate n.toNat d)) Γ2
end
/-! ### dicts of one's own, keys ints and texts -/
def kD : Key → D
  | .inl i => .int i
  | .inr x => .str x
theorem kD_inl (i : Int) : kD (Sum.inl i) = .int i := rfl
theorem kD_inr (x : Str) : kD (Sum.inr x) = .str x := rfl
theorem kD_eqS {x : Str} {k : Key} : (PyData.str x = kD k) ↔ k = Sum.inr x := by
  cases k with
  | inl i => constructor <;> intro h <;> cases h
  | inr y => constructor <;> intro h <;> cases h <;> rfl
theorem kD_eqI {x : Int} {k : Key} : (PyData.int x = kD k) ↔ k = Sum.inl x := by
  cases k with
  | inl i => constructor <;> intro h <;> cases h <;> rfl
  | inr y => constructor <;> intro h <;> cases h
def valG {κ α : Type} [DecidableEq κ] (kvs : List (κ × α)) (k : κ) : Option α := (kvs.find? fun kv => decide (kv.1 = k)).map (·.2)
def putG {κ α : Type} [DecidableEq κ] (kvs : List (κ × α)) (k : κ) (v : α) : List (κ × α) := if (kvs.any fun kv => decide (kv.1 = k)) = true then kvs.map (fun kv => if kv.1 = k then (kv.1, v) else kv) else kvs ++ [(k, v)]
section
variable {K : PySem.W.Frag} {H : Hp} {κ : Type} [DecidableEq κ]
theorem kvd_val (k : κ) : ∀ {ws : List (κ × V)} {kvs : List (κ × D)}, KVD K H ws kvs → (valV ws k = none ∧ valG kvs k = none) ∨ ∃ v d, valV ws k = some v ∧ valG kvs k = some d ∧ Dp K H v d
  | _, _, .nil => .inl ⟨rfl, rfl⟩
  | (k1, v) :: ws, (k2, d) :: kvs, .cons ⟨e, h⟩ t => by
    have e : k1 = k2 := e
    subst e
    by_cases hk : k1 = k
    · exact .inr ⟨v, d, by simp [valV, List.find?_cons, hk], by simp [valG, List.find?_cons, hk], h⟩
    · have a1 : valV ((k1, v) :: ws) k = valV ws k := by simp [valV, List.find?_cons, hk]
      have a2 : valG ((k1, d) :: kvs) k = valG kvs k := by simp [valG, List.find?_cons, hk]
      rw [a1, a2]
      exact kvd_val k t
theorem kvd_any (k : κ) : ∀ {ws : List (κ × V)} {kvs : List (κ × D)}, KVD K H ws kvs → (ws.any fun kv => decide (kv.1 = k)) = (kvs.any fun kv => decide (kv.1 = k))
  | _, _, .nil => rfl
  | (k1, v) :: ws, (k2, d) :: kvs, .cons ⟨e, h⟩ t => by
    have e : k1 = k2 := e
    subst e
    simp only [List.any_cons, kvd_any k t]
theorem kvd_map (k : κ) {v : V} {d : D} (hv : Dp K H v d) : ∀ {ws : List (κ × V)} {kvs : List (κ × D)}, KVD K H ws kvs → KVD K H (ws.map (fun kv => if kv.1 = k then (kv.1, v) else kv)) (kvs.map (fun kv => if kv.1 = k then (kv.1, d) else kv))
  | _, _, .nil => .nil
  | (k1, v1) :: ws, (k2, d1) :: kvs, .cons ⟨e, h⟩ t => by
    have e : k1 = k2 := e
    subst e
    rw [List.map_cons, List.map_cons]
    refine .cons ?_ (kvd_map k hv t)
    by_cases hk : k1 = k
    · subst hk; rw [if_pos rfl, if_pos rfl]; exact ⟨rfl, hv⟩
    · rw [if_neg hk, if_neg hk]; exact ⟨rfl, h⟩
theorem kvd_app {ws ws' : List (κ × V)} {kvs kvs' : List (κ × D)} (h : KVD K H ws kvs) (h' : KVD K H ws' kvs') : KVD K H (ws ++ ws') (kvs ++ kvs') := by
  induction h with
  | nil => exact h'
  | cons r _ ih => exact .cons r ih
theorem kvd_put (k : κ) {v : V} {d : D} {ws : List (κ × V)} {kvs : List (κ × D)} (h : KVD K H ws kvs) (hv : Dp K H v d) : KVD K H (putK ws k v) (putG kvs k d) := by
  unfold putK putG
  rw [kvd_any k h]
  split
  · exact kvd_map k hv h
  · exact kvd_app h (.cons ⟨rfl, hv⟩ .nil)
theorem kvd_len {ws : List (κ × V)} {kvs : List (κ × D)} (h : KVD K H ws kvs) : ws.length = kvs.length := by
  induction h with
  | nil => rfl
  | cons _ _ ih => simp [ih]
end
theorem dp_kD {K : PySem.W.Frag} {H : Hp} {v : V} : ∀ {k : Key}, Dp K H v (kD k) → v = kV k
  | .inl _, h => dp_int_inv h
  | .inr _, h => dp_str_inv h
section
variable {X : Cx} {a b c e : Expr} {pos : Pos} {δa δb δc δe : DE}
/-- d[k] = e -/
def sPutD (δv δo δi : DE) : DS := fun D Γ => δv Γ fun y Γ1 => δo Γ1 fun x Γ2 => δi Γ2 fun z Γ3 => ∃ d j p kvs, y = .d d ∧ x = .o j ∧ Γ3[j]? = some (some (DCell.own p (.dK kvs))) ∧ ∃ k, z = .d (kD k) ∧ kvs.length ≤ 1000000 ∧ D.nx (Γ3.set j (some (DCell.own p (.dK (putG kvs k d)))))
theorem pds_putD {o i v : Expr} {δo δi δv : DE} {tpos : Pos} (hu : X.A.units + 1 < cLine) (hs : swapsWith v (some (.Subscript o i tpos)) pos.line X.env = pure false := by rfl) (h1 : PD X v δv) (h2 : PD X o δo) (h3 : PD X i δi) : PDS X (.Assign [.Subscript o i tpos] v pos) (sPutD δv δo δi) := match h1, h2, h3 with
  | ⟨_, hv, sv⟩, ⟨_, ho, so⟩, ⟨_, hi, si⟩ => ⟨_, ps_dput hu ho hi hv hs, fun B M Γ σ H H0 E D k q ok => sv B M Γ σ H H0 _ _ k q fun u y Γ1 H1 H01 h1 s1 k1 r1 => so B M Γ1 σ H1 H01 _ _ k1 h1 fun w x Γ2 H2 H02 h2 s2 k2 r2 =>
      si B M Γ2 σ H2 H02 _ _ k2 h2 fun t z Γ3 H3 H03 ⟨d, j, p, kvs, ey, ex, e3, kk, ez, hz, h3⟩ s3 k3 r3 => by
        subst ey ex ez
        obtain ⟨ws, x3, hp, dv⟩ := k3.ownK e3
        have r2 : σ[j]? = some (some w) := r2
        rw [x3] at r2; cases r2
        refine ⟨p, _, rfl, ?_, ok.nx _ _ _ H03 h3 ((s1.trans s2).trans s3) (k3.put e3 (.dK (kvd_put kk dv (dp_same (s2.trans s3) r1))))⟩
        rw [dp_kD r3]
        exact DPut.k hp (by rw [kvd_len dv]; exact Nat.lt_of_le_of_lt hz (by decide))⟩
/-- k in d, k not in d -/
def dInD (neg : Bool) (δk δo : DE) : DE := fun Γ R => δk Γ fun y Γ1 => δo Γ1 fun x Γ2 => ∃ j p kvs, x = .o j ∧ Γ2[j]? = some (some (DCell.own p (.dK kvs))) ∧ ∃ k, y = .d (kD k) ∧ R (.d (.bool (neg != (valG kvs k).isSome))) Γ2
theorem dget_own {K : PySem.W.Frag} {H H0 : Hp} {p : Addr} {ws : List (Key × V)} {kvs : List (Key × D)} {v : V} {k : Key} (hp : H p = some (.dK ws)) (dv : KVD K H0 ws kvs) (r : Dp K H0 v (kD k)) : ∃ o, DGet H p v o ∧ ((o = none ∧ valG kvs k = none) ∨ ∃ u d, o = some u ∧ valG kvs k = some d ∧ Dp K H0 u d) := by
  rw [dp_kD r]
  refine ⟨_, DGet.k hp, ?_⟩
  rcases kvd_val k dv with ⟨a, b⟩ | ⟨u, d, a, b, c⟩
  · exact .inl ⟨a, b⟩
  · exact .inr ⟨u, d, a, b, c⟩
theorem pdt_inD {neg : Bool} {i o : Expr} {δi δo : DE} (hu : X.A.units + 1 < cLine) (hbm : behindInMarks (if neg then CmpOp.NotIn else CmpOp.In) o = false := by rfl) (h1 : PD X i δi) (h2 : PD X o δo) : PDT X (.Compare i [if neg then CmpOp.NotIn else CmpOp.In] [o] pos) (dTst (dInD neg δi δo)) := match h1, h2 with
  | ⟨_, hi, si⟩, ⟨_, ho, so⟩ => by
      have key : ∀ (f : Bool → Bool) (hf : ∀ b, f b = (neg != b)), SimT X.K (tB (fun σ H Q => (_ : TE) σ H fun y H1 => (_ : TE) σ H1 fun x H2 => ∃ a o, x = .ref a ∧ DGet H2 a y o ∧ Q (.bl (f o.isSome)) H2)) (dTst (dInD neg δi δo)) := fun f hf B M Γ σ H H0 Q R k q ok =>
        si B M Γ σ H H0 _ _ k q fun v y Γ1 H1 H01 h1 s1 k1 r1 => so B M Γ1 σ H1 H01 _ _ k1 h1 fun w x Γ2 H2 H02 ⟨j, p, kvs, ex, e2, kk, ey, h2⟩ s2 k2 r2 => by
          subst ex ey
          obtain ⟨ws, x3, hp, dv⟩ := k2.ownK e2
          have r2 : σ[j]? = some (some w) := r2
          rw [x3] at r2; cases r2
          obtain ⟨o, g, ho⟩ := dget_own hp dv (dp_same s2 r1)
          have eo : o.isSome = (valG kvs kk).isSome := by
            rcases ho with ⟨a, b⟩ | ⟨u, d, a, b, _⟩ <;> simp [a, b]
          obtain ⟨bb, eb, h2⟩ := h2
          refine ⟨p, o, rfl, g, _, rfl, ?_⟩
          rw [hf, eo]
          have : bb = (neg != (valG kvs kk).isSome) := by simpa using eb.symm
          rw [← this]
          exact ok bb Γ2 H2 H02 h2 (s1.trans s2) k2
      cases neg with
      | true => exact ⟨_, pt_cmp (pc_dnotin hu hi ho) hbm, key (fun b => !b) (by intro b; cases b <;> rfl)⟩
      | false => exact ⟨_, pt_cmp (pc_din hu hi ho) hbm, key (fun b => b) (by intro b; cases b <;> rfl)⟩
/-- d.get(k, x) -/
def dGet2 (δo δk δx : DE) : DE := fun Γ R => δo Γ fun x Γ1 => ∃ j, x = .o j ∧ (∃ p kvs, Γ1[j]? = some (some (DCell.own p (.dK kvs)))) ∧ δk Γ1 fun y Γ2 => δx Γ2 fun z Γ3 => ∃ p kvs d, z = .d d ∧ Γ3[j]? = some (some (DCell.own p (.dK kvs))) ∧ ∃ k, y = .d (kD k) ∧ R (.d ((valG kvs k).getD d)) Γ3
theorem pd_get2 {o f : Expr} {δo δf : DE} {apos : Pos} (hu : X.A.units + 1 < cLine) (m : M2 X o "get" apos e f pos) (h1 : PD X o δo) (h2 : PD X e δe) (h3 : PD X f δf) : PD X (.Call (.Attribute o "get" apos) [e, f] [] pos) (dGet2 δo δe δf) := match h1, h2, h3 with
  | ⟨_, ho, so⟩, ⟨_, he, se⟩, ⟨_, hf, sf⟩ => ⟨_, pe_dget2 hu ho he hf m, fun B M Γ σ H H0 Q R k q ok => so B M Γ σ H H0 _ _ k q fun v x Γ1 H1 H01 ⟨j, ex, ⟨p, kvs, e1⟩, h1⟩ s1 k1 r1 => by
      subst ex
      have r1 : σ[j]? = some (some v) := r1
      obtain ⟨ws, x1, hp, _⟩ := k1.ownK e1
      rw [x1] at r1; cases r1
      refine ⟨p, rfl, .inl ⟨ws, .inl hp⟩, se B M Γ1 σ H1 H01 _ _ k1 h1 fun u y Γ2 H2 H02 h2 s2 k2 r2 => sf B M Γ2 σ H2 H02 _ _ k2 h2 fun t z Γ3 H3 H03 ⟨p3, kvs3, d, ez, e3, kk, ey, h3⟩ s3 k3 r3 => ?_⟩
      subst ey ez
      obtain ⟨ws3, x3, hp3, dv⟩ := k3.ownK e3
      rw [x1] at x3; cases x3
      obtain ⟨o, g, hg⟩ := dget_own hp3 dv (dp_same s3 r2)
      refine ⟨o, g, ok _ _ Γ3 H3 H03 h3 ((s1.trans s2).trans s3) k3 ?_⟩
      rcases hg with ⟨a, b⟩ | ⟨u', d', a, b, c⟩
      · rw [a, b]; exact r3
      · rw [a, b]; exact c⟩
end
end DL

set_option Elab.async false
set_option linter.all false
set_option maxRecDepth 100000
set_option maxHeartbeats 2000000
set_option autoImplicit false
namespace DL
open PySem L2 PyProof.Rows

/-! ### sorted(xs) -/
abbrev sortD (ds : List D) : List D := ds.mergeSort (PySem.W.dataLe false id)
def rSortD (K : PySem.W.Frag) : List V → Hp → VK → Prop := fun vs H Q => ∃ M x ds, vs = [x] ∧ Same M H ∧ Dp K M x (.list ds) ∧ PySem.W.AllAlike ds ∧ PySem.W.Sortable ds ∧ (∀ d ∈ ds, d.depth ≤ 60) ∧ ∀ p ys, H p = none → DpAll K M ys (sortD ds) → Q (.ref p) (upd H p (.lst ys))
section
variable {X : Cx}
theorem each_zip {K : PySem.W.Frag} {H : Hp} : ∀ {xs : List V} {ds : List D} {its : List Value}, DpAll K H xs ds → Vals xs its → PySem.W.EachIs (fun (v : Value) (b : V × D) => RelV b.1 v ∧ Dp K H b.1 b.2) its (xs.zip ds)
  | _, _, _, .nil, .nil => .nil
  | _, _, _, .cons h t, .cons r rs => .cons ⟨r, h⟩ (each_zip t rs)
theorem each_reads {pins : List (Addr × Obj)} {σ : L2.St} {H : Hp} {s : Shared} (I : Inv X pins σ H s) : ∀ {xs : List V} {ds : List D} {its : List Value}, DpAll X.K H xs ds → Vals xs its → PySem.W.EachIs (fun (v : Value) (b : V × D) => ∃ as, Reads s.heap v b.2 as) its (xs.zip ds)
  | _, _, _, .nil, .nil => .nil
  | _, _, _, .cons h t, .cons r rs => .cons (Dp.reads I _ _ _ h r) (each_reads I t rs)
theorem each_vals {K : PySem.W.Frag} {H : Hp} : ∀ {out : List Value} {bs : List (V × D)}, PySem.W.EachIs (fun (v : Value) (b : V × D) => RelV b.1 v ∧ Dp K H b.1 b.2) out bs → Vals (bs.map Prod.fst) out ∧ DpAll K H (bs.map Prod.fst) (bs.map Prod.snd)
  | _, _, .nil => ⟨.nil, .nil⟩
  | _, _, .cons h t => ⟨.cons h.1 (each_vals t).1, .cons h.2 (each_vals t).2⟩
theorem zip_snd {α β : Type} : ∀ {xs : List α} {ds : List β}, xs.length = ds.length → (xs.zip ds).map Prod.snd = ds
  | [], [], _ => rfl
  | _ :: xs, _ :: ds, h => by
    rw [List.zip_cons_cons, List.map_cons, zip_snd (by simpa using h)]
  | [], _ :: _, h => by simp at h
  | _ :: _, [], h => by simp at h
theorem cr_sortD (hu : X.A.units + 100 < cLine) : CallR X (.builtin "sorted") (rSortD X.K) := by
  intro pins s σ H vs us Q I r h
  obtain ⟨M, x, ds, rfl, sm, hx, hal, hk, hd, q⟩ := h
  obtain ⟨a, xs, rfl, hs, da⟩ := dp_list_inv hx
  rw [Vals.ref1 r]
  obtain ⟨its, rv, hl, hz⟩ := I.list (sm.seq hs)
  have hlen := DpAll.length da
  have es : (xs.zip ds).map Prod.snd = ds := zip_snd hlen
  have ez : (xs.zip ds).length = ds.length := by rw [← List.length_map (f := Prod.snd), es]
  have hsort : ((xs.zip ds).mergeSort (PySem.W.dataLe false Prod.snd)).map Prod.snd = sortD ds := by
    have := PySem.W.sort_maps (r := PySem.W.dataLe false Prod.snd) (s := PySem.W.dataLe false id) (l := xs.zip ds) Prod.snd (fun _ _ _ _ => rfl)
    rw [es] at this
    exact this
  refine PySem.W.sorted_data (enc := Prod.snd) hl.isList (each_zip da rv) (each_reads I (dpAll_same sm da) rv) (by rw [es]; exact hal) (by rw [es]; exact hk) (by rw [ez, ← hlen]; exact hz) (fun b hb => ?_) fun out ho he => ?_
  · have : b.2 ∈ ds := by rw [← es]; exact List.mem_map.mpr ⟨b, hb, rfl⟩
    have := hd _ this
    omega
  · obtain ⟨h1, h2⟩ := each_vals he
    rw [hsort] at h2
    obtain ⟨ep, he'⟩ := PyProof.Rows.sortedAll_at s.heap its out.toArray
    refine ⟨.ref _, upd H (s.heap.objs.size + 1) (.lst (((xs.zip ds).mergeSort (PySem.W.dataLe false Prod.snd)).map Prod.fst)), I.laid (t' := s.toks) (fun _ _ => PyProof.Rows.sortedAll_old) (Nat.le_succ _) ⟨?_, out, ep, h1, he'⟩, rfl, q _ _ (I.hok.fresh (Nat.le_succ _)) h2⟩
    rw [List.length_map, List.length_mergeSort, ez, ← hlen]; exact hz
def dSort : DRC := fun xs Γ R => ∃ ds, xs = [.d (.list ds)] ∧ PySem.W.AllAlike ds ∧ PySem.W.Sortable ds ∧ (∀ d ∈ ds, d.depth ≤ 60) ∧ R (.d (.list (sortD ds))) Γ
theorem cs_sort {K : PySem.W.Frag} : CSim K (rSortD K) dSort := by
  intro B M Γ σ H H0 Q R xs vs k r ⟨ds, e, a1, a2, a3, h1⟩ q
  subst e
  cases r with
  | cons r1 r2 =>
    cases r2
    refine ⟨H0, _, ds, rfl, k.sub, r1, a1, a2, a3, fun p ys hp dy => ?_⟩
    obtain ⟨k2, s2⟩ := k.laid (o := .lst ys) hp
    exact q _ _ Γ _ _ h1 s2 k2 (Dp.lst (.inl (.inl upd_same)) (dpAll_same s2 dy))
/-! ### [x] * n: a new list -/
theorem rep_flat {α : Type} (x : α) : ∀ n : Nat, (List.replicate n [x]).flatten = List.replicate n x
  | 0 => rfl
  | n + 1 => by rw [List.replicate_succ, List.flatten_cons, rep_flat x n]; rfl
theorem dpAll_rep {K : PySem.W.Frag} {H : Hp} {v : V} {d : D} (h : Dp K H v d) : ∀ n : Nat, DpAll K H (List.replicate n v) (List.replicate n d)
  | 0 => .nil
  | n + 1 => .cons h (dpAll_rep h n)
variable {a b c e : Expr} {pos : Pos} {δa δb δc δe : DE}
/-- [e] * n, the list written there -/
def nRep1 (δa δb : DE) : DN := fun Γ R => δa Γ fun x Γ1 => δb Γ1 fun y Γ2 => ∃ d n, x = .d d ∧ y = .d (.int n) ∧ (-1000000 ≤ n ∧ n ≤ 1000000) ∧ R (.lst (List.replicate n.toNat d)) Γ2
theorem pdn_rep {p1 : Pos} (hst : starEach [a] X.env = (false, eval a X.env) :: starEach [] X.env := by rfl) (h1 : PD X a δa) (h2 : PD X b δb) : PDN X (.BinOp (.List [a] p1) .Mult b pos) (nRep1 δa δb) := match h1, h2 with
  | ⟨_, ha, sa⟩, ⟨_, hb, sb⟩ => ⟨_, pe_op op_rep (pe_lst (pa_cons ha pa_nil hst)) hb, fun B M Γ σ H H0 Q R k q ok => sa B M Γ σ H H0 _ _ k q fun v x Γ1 H1 H01 h1 s1 k1 r1 => ⟨by show 1 ≤ sizeLine; decide, fun l hl => by
      have k1b := k1.newB (o := .lst [v]) hl
      refine sb (upd B l (.lst [v])) M Γ1 σ _ H01 _ _ k1b h1 fun u y Γ2 H2 H02 ⟨d, n, ex, ey, hn, h2⟩ s2 k2 r2 => ?_
      subst ex ey
      have hB : B l = none := k1.base.free hl
      have hM : M l = none := (k1.mm.trans k1.sub).free hl
      have hat : H2 l = some (.lst [v]) := k2.base l _ upd_same
      refine ⟨l, n, [v], rfl, dp_int_inv r2, hat, by omega, by omega, by rw [List.length_singleton, Nat.one_mul]; exact line_m (by omega), fun p hp => ?_⟩
      rw [rep_flat]
      obtain ⟨k3, s3⟩ := k2.frzB hB hM
      exact ok p (.lst (List.replicate n.toNat v)) (.lst (List.replicate n.toNat d)) Γ2 _ _ h2 ((s1.trans s2).trans s3) (k3.base.free hp) ((k3.mm.trans k3.sub).free hp) (k3.newB hp) (.lst (dpAll_rep (dp_same (s2.trans s3) r1) _))⟩⟩
/-! ### a comprehension over a dict of one's own: its keys -/
theorem upd_comm {H : Hp} {p q : Addr} {x y : HO} (h : p ≠ q) : upd (upd H p x) q y = upd (upd H q y) p x := by
  funext b
  unfold upd
  by_cases h1 : b = q
  · subst h1
    rw [if_pos rfl, if_neg (fun z => h z.symm), if_pos rfl]
  · rw [if_neg h1]
    by_cases h2 : b = p
    · rw [if_pos h2, if_pos h2]
    · rw [if_neg h2, if_neg h2, if_neg h1]
theorem Kn.lock {K : PySem.W.Frag} {B M : Hp} {Γ : DCtx} {σ : L2.St} {H H0 : Hp} {j : Nat} {p : Addr} {o : DOb} {u : HO} (k : Kn K B M Γ σ H H0) (e : Γ[j]? = some (some (DCell.own p o))) : Kn K (upd B p u) M (Γ.set j none) σ (upd H p u) H0 := by
  obtain ⟨h, x, hB, h0, hp, ok⟩ := k.own j p o e
  refine ⟨fun b y eb => ?_, k.mm, fun b y eb => ?_, fun a y ea n => ?_, by simp [k.len], fun i d ei => ?_, fun i q oi ei => ?_, fun a b oa ob q r hab ea eb => ?_, k.cl⟩
  · by_cases hb : b = p
    · subst hb; rw [upd_same] at eb ⊢; exact eb
    · rw [upd_ne hb] at eb ⊢; exact k.base b y eb
  · rw [upd_ne (ne_of_none eb h0)]; exact k.sub b y eb
  · by_cases ha : a = p
    · subst ha; exact h0
    · rw [upd_ne ha] at ea; exact k.new a y ea n
  · rcases set_get ei with ⟨_, e1, _⟩ | ⟨_, ei⟩
    · cases e1
    · exact k.val i d ei
  · rcases set_get ei with ⟨_, e1, _⟩ | ⟨hj, ei⟩
    · cases e1
    · obtain ⟨h2, x2, hB2, h02, hp2, ok2⟩ := k.own i q oi ei
      have ne : p ≠ q := k.sep j i _ _ p q hj e ei
      exact ⟨h2, x2, by rw [upd_ne ne.symm]; exact hB2, h02, by rw [upd_ne ne.symm]; exact hp2, ok2⟩
  · rcases set_get ea with ⟨_, e1, _⟩ | ⟨_, ea⟩
    · cases e1
    · rcases set_get eb with ⟨_, e1, _⟩ | ⟨_, eb⟩
      · cases e1
      · exact k.sep a b oa ob q r hab ea eb
theorem Kn.unlock {K : PySem.W.Frag} {B M : Hp} {Γ : DCtx} {σ : L2.St} {H H0 : Hp} {j : Nat} {p : Addr} {o : DOb} {u h : HO} (k : Kn K (upd B p u) M Γ σ H H0) (hB : B p = none) (hM : M p = none) (hj : σ[j]? = some (some (V.ref p))) (ok : ObOk K H0 o h) : Kn K B M (Γ.set j (some (DCell.own p o))) σ (upd H p h) H0 := by
  have := (k.setB (o' := h) hM).takeB (i := j) hB hM ok
  rw [show σ.set j (some (V.ref p)) = σ by
    apply List.ext_getElem?
    intro i
    by_cases e : j = i
    · subst e
      rw [List.getElem?_set_self (List.getElem?_eq_some_iff.mp hj).1, hj]
    · rw [List.getElem?_set_ne e]] at this
  exact this
def nLcK (j : Nat) (γ : DG) (τ : DT) (δ : DE) (vs : List Nat) : DN := fun Γ R => ∃ p kvs, Γ[j]? = some (some (DCell.own p (.dK kvs))) ∧ (∀ i ∈ vs, ∀ p o, (Γ.set j none)[i]? ≠ some (some (DCell.own p o))) ∧ kvs.length ≤ 1000000 ∧ ∃ W : Nat → List D → DCtx → Prop, W 0 [] (Γ.set j none) ∧
  (∀ (i : Nat) acc Γ2 kv, kvs[i]? = some kv → W i acc Γ2 → γ (kD kv.1) (wipeC Γ2 vs) fun Γ3 => τ Γ3 fun b Γ4 => if b = true then δ Γ4 fun y Γ5 => ∃ e, y = .d e ∧ W (i + 1) (acc ++ [e]) (restore (Γ.set j none) Γ5 vs) else W (i + 1) acc (restore (Γ.set j none) Γ4 vs)) ∧
  ∀ acc Γ2, W kvs.length acc Γ2 → R (.lst acc) (Γ2.set j (some (DCell.own p (.dK kvs))))
theorem kvd_get {K : PySem.W.Frag} {H : Hp} {κ : Type} : ∀ {ws : List (κ × V)} {kvs : List (κ × D)} {i : Nat} {kv : κ × V}, KVD K H ws kvs → ws[i]? = some kv → ∃ d, kvs[i]? = some (kv.1, d)
  | _, _, _, _, .nil, h => by simp at h
  | _, (k2, d2) :: _, 0, _, .cons r _, h => by
    simp at h; subst h
    have r1 := r.1
    exact ⟨d2, by simp at r1 ⊢; exact r1.symm⟩
  | _, _, i + 1, kv, .cons _ t, h => by
    obtain ⟨d, e⟩ := kvd_get (i := i) t (by simpa using h)
    exact ⟨d, by simpa using e⟩
theorem dp_of_kD {K : PySem.W.Frag} {H : Hp} : ∀ (k : Key), Dp K H (kV k) (kD k)
  | .inl i => .int i
  | .inr x => .str x
theorem simN_lcK {K : PySem.W.Frag} {j : Nat} {γ : DG} {τ : DT} {δ : DE} {vs : List Nat} : SimN K (tLockE (tLc (iKeys (tVar j)) (rdG K vs γ) (rdT K τ) (rd K δ) vs)) (nLcK j γ τ δ vs) := by
  intro B M Γ σ H H0 Q R k ⟨p, kvs, ej, hno, hsz, W, w0, wt, wd⟩ q
  obtain ⟨ws, xj, hp, dv⟩ := k.ownK ej
  obtain ⟨_, _, hB, h0, _, _⟩ := k.own j p _ ej
  have hM : M p = none := k.mm.free h0
  refine ⟨p, .dK ws, hp, trivial, fun od => ?_⟩
  have k1 : Kn K (upd B p (.frz od (.dK ws))) M (Γ.set j none) σ (upd H p (.frz od (.dK ws))) H0 := k.lock ej
  refine ⟨.ref p, xj, p, od, rfl, .inl ⟨ws, upd_same, ?_⟩⟩
  have wk : WalkD K (Itk p od ws) (upd B p (.frz od (.dK ws))) H0 (kvs.map fun kv => kD kv.1) := by
    refine ⟨fun i H x H' => H' = H ∧ ∃ k v, ws[i]? = some (k, v) ∧ x = kV k, ?_, ?_⟩
    · have := (walk_keys (d := p) (o := od) (kvs := ws)).mono (G' := fun H => Same (upd B p (.frz od (.dK ws))) H ∧ Same H0 H) (fun H s => s.1 p _ upd_same) (fun _ _ _ _ _ _ y => y)
      rw [List.length_map, ← kvd_len dv]
      exact this
    · intro i H x H' H1 hi s1 s2 ⟨e1, kk, v, e2, e3⟩
      obtain ⟨d, e4⟩ := kvd_get dv e2
      refine ⟨kD kk, by rw [List.getElem?_map, e4]; rfl, .inl ⟨e1, ?_⟩⟩
      rw [e3]; exact dp_of_kD kk
  refine lc_core2 (Q := fun v H' => H' p = some (HO.frz od (HO.dK ws)) ∧ Q v (upd H' p (HO.dK ws))) (γ := γ) (τ := τ) (δ := δ) k1 wk hno (by rw [List.length_map]; exact hsz) W w0 (fun i acc Γ2 d hd w => ?_) fun Dl us acc Γ' H' H0' w' s' hB' hM' k' da => ?_
  · rw [List.getElem?_map] at hd
    cases hk : kvs[i]? with
    | none => rw [hk] at hd; cases hd
    | some kv =>
      rw [hk] at hd; cases hd
      exact wt i acc Γ2 kv hk w
  · rw [List.length_map] at w'
    have hne : Dl ≠ p := fun e => by subst e; rw [upd_same] at hB'; cases hB'
    have hBl : B Dl = none := by rw [upd_ne hne] at hB'; exact hB'
    have hat : H' p = some (.frz od (.dK ws)) := k'.base p _ (by rw [upd_ne (Ne.symm hne), upd_same])
    refine ⟨hat, q Dl (.lst us) (.lst acc) _ _ H0' (wd acc Γ' w') s' hBl hM' ?_ (.lst da)⟩
    rw [upd_comm hne.symm] at k'
    exact k'.unlock (by rw [upd_ne (Ne.symm hne)]; exact hB) hM xj (.dK (kvd_same s' dv))
theorem pdn_lcK {elt tg : Expr} {ifs : List Expr} {scope : Scope} {own : List (Str × Nat)} {vs : List Nat} {j : Nat} {y : Str} {py : Pos} {γ : DG} {τ : DT} {δ : DE} (hc : X.calm = true) (hN : X.N.Nodup) (hv : own.map (·.2) = vs) (hy : PE X (.Name y py) (tVar j)) (ok : BlkOk X.N X.env.scope scope own)
    (hg : ∀ (s : Shared) (H : Hp) (C : Addr) (cl : List (Str × Addr)) (fp : List Addr), PDGv (X.blk s H scope (compEnvC scope cl C X.env) fp) vs tg γ) (ht : ∀ (s : Shared) (H : Hp) (C : Addr) (cl : List (Str × Addr)) (fp : List Addr), PDTs (X.blk s H scope (compEnvC scope cl C X.env) fp) ifs τ)
    (he : ∀ (s : Shared) (H : Hp) (C : Addr) (cl : List (Str × Addr)) (fp : List Addr), PD (X.blk s H scope (compEnvC scope cl C X.env) fp) elt δ) (hs : ∀ x, foldedSetIterable (.Name y py) X.env x = pure x := by intro _; rfl) :
    PDN X (.ListComp elt [⟨tg, .Name y py, ifs, 0⟩] scope pos) (nLcK j γ τ δ vs) := by
  subst hv
  exact ⟨_, pe_lock (pe_lc (g := rdG X.K (List.map (fun z : Str × Nat => z.2) own) γ) (tt := rdT X.K τ) (te := rd X.K δ) hc hN (pi_keys hy) ok hg ht (fun s H C cl fp => (he s H C cl fp).pe) hs), simN_lcK⟩
end
end DL

set_option Elab.async false
set_option linter.all false
set_option maxRecDepth 100000
set_option maxHeartbeats 2000000
set_option autoImplicit false
namespace DL
open PySem L2 PyProof.Rows

/-! ### calls by what is known of the called def -/
structure Cl (P : Program) (w : World) (K : PySem.W.Frag) (mg : Str → Option Value) (base : Heap) (k : Nat) (x : Str) (ps : List Str) (sp : Sp) : Prop where
  ex : ∃ f fd, FnOk P w K mg base CX0 k f fd ps sp ∧ mg x = some (.ref f) ∧ PySem.W.keepIn K (.ref f) = true ∧ Binds K fd ps []
section
variable {P : Program} {w : World} {K : PySem.W.Frag} {mg : Str → Option Value} {base : Heap}
theorem Cl.mk' {k : Nat} {x qual : Str} {st : Stmt} {f : Addr} {fd : FuncData} {ps : List Str} {sp : Sp} (F : Fun K x qual st f fd) (hm : mg x = some (.ref f)) (hb : Binds K fd ps []) (ok : FnOk P w K mg base CX0 k f fd ps sp) : Cl P w K mg base k x ps sp := ⟨f, fd, ok, hm, F.kp, hb⟩
end
theorem room64 {k : Nat} {A : Around} (hr : Room k A) : A.units + 64 < cLine := by have := hr.un; omega
theorem room100 {k : Nat} {A : Around} (hr : Room k A) : A.units + 100 < cLine := by have := hr.un; omega
section
variable {X : Cx} {a b c e : Expr} {pos : Pos} {δa δb δc δe : DE}
def MonoD (F : List D → (D → Prop) → Prop) : Prop := ∀ ds (P P' : D → Prop), (∀ d, P d → P' d) → F ds P → F ds P'
def MonoT (F : List D → List D → (D → List D → Prop) → Prop) : Prop := ∀ ts ds (P P' : D → List D → Prop), (∀ d ts, P d ts → P' d ts) → F ts ds P → F ts ds P'
theorem pd_cl {n : Nat} {F : List D → (D → Prop) → Prop} {k j : Nat} {ps : List Str} {x : Str} {p : Pos} {es : List Expr} {α : DA} (C : Cl X.prog X.w X.K X.mg X.base k x ps (spD X.K n F)) (hF : MonoD F) (hr : Room j X.A) (hk : k ≤ j) (hg : Gl X x)
    (hdb : (x == ("__debug__" : Str)) = false := by decide) (he : starEach (e :: es) X.env = (false, eval e X.env) :: starEach es X.env := by rfl) (hpl : (backTo pos (starEach es X.env)).any (·.1) = false := by rfl) (h : PDA X (e :: es) α) : PD X (.Call (.Name x p) (e :: es) [] pos) (dCall n F α) := by
  obtain ⟨f, fd, ok, hm, kp, hb⟩ := C.ex
  exact pd_call hF ok (hr.mono hk) hg hm kp hb pass0 hdb he hpl h
theorem pd_clT {n : Nat} {F : List D → List D → (D → List D → Prop) → Prop} {k j : Nat} {ps : List Str} {x : Str} {p : Pos} {es : List Expr} {α : DA} (C : Cl X.prog X.w X.K X.mg X.base k x ps (spT X.K n F)) (hF : MonoT F) (hr : Room j X.A) (hk : k ≤ j) (hg : Gl X x)
    (hdb : (x == ("__debug__" : Str)) = false := by decide) (he : starEach (e :: es) X.env = (false, eval e X.env) :: starEach es X.env := by rfl) (hpl : (backTo pos (starEach es X.env)).any (·.1) = false := by rfl) (h : PDA X (e :: es) α) : PD X (.Call (.Name x p) (e :: es) [] pos) (dCallT n F α) := by
  obtain ⟨f, fd, ok, hm, kp, hb⟩ := C.ex
  exact pd_callT hF ok (hr.mono hk) hg hm kp hb pass0 hdb he hpl h
theorem pdt_chain {op op' : CmpOp} {r r' : R2} {ρ ρ' : DR2} (ho : OpR X (compareOp op) r) (hs : RSim2 X.K r ρ) (ho' : OpR X (compareOp op') r') (hs' : RSim2 X.K r' ρ') (hm : lastMarks [op, op'] [b, c] = false := by rfl) (h1 : PD X a δa) (h2 : PD X b δb) (h3 : PD X c δc) : PDT X (.Compare a [op, op'] [b, c] pos) (dTst (dChain ρ ρ' δa δb δc)) := match h1, h2, h3 with
  | ⟨_, ha, sa⟩, ⟨_, hb, sb⟩, ⟨_, hc, sc⟩ => ⟨_, pt_chain ho ho' ha hb hc hm, sim_tst (sim_chain hs hs' sa sb sc)⟩
/-- y = [..], as data -/
theorem pds_lcD {i : Nat} {y : Str} {py spos : Pos} {elt tg iter : Expr} {ifs : List Expr} {scope : Scope} {own : List (Str × Nat)} {vs : List Nat} {ι : DI} {γ : DG} {τ : DT} {δ : DE} (hc : X.calm = true) (hN : X.N.Nodup) (hy : X.N[i]? = some y) (hyl : X.env.scope.names.lookup y = some .local)
    (hsw : swapsWith (.ListComp elt [⟨tg, iter, ifs, 0⟩] scope pos) (some (.Name y py)) spos.line X.env = pure true) (hv : own.map (·.2) = vs) (hi : PDI X tg iter ι) (ok : BlkOk X.N X.env.scope scope own)
    (hg : ∀ (s : Shared) (H : Hp) (C : Addr) (cl : List (Str × Addr)) (fp : List Addr), PDGv (X.blk s H scope (compEnvC scope cl C X.env) fp) vs tg γ) (ht : ∀ (s : Shared) (H : Hp) (C : Addr) (cl : List (Str × Addr)) (fp : List Addr), PDTs (X.blk s H scope (compEnvC scope cl C X.env) fp) ifs τ)
    (he : ∀ (s : Shared) (H : Hp) (C : Addr) (cl : List (Str × Addr)) (fp : List Addr), PD (X.blk s H scope (compEnvC scope cl C X.env) fp) elt δ) (hs : ∀ x, foldedSetIterable iter X.env x = pure x := by intro _; rfl) :
    PDS X (.Assign [.Name y py] (.ListComp elt [⟨tg, iter, ifs, 0⟩] scope pos) spos) (sSet (dFrz (nLc ι γ τ δ vs)) (gNm i)) := by
  subst hv
  obtain ⟨wi, pi, si⟩ := hi
  refine ⟨_, ps_setLc (g := rdG X.K (List.map (fun z : Str × Nat => z.2) own) γ) (tt := rdT X.K τ) (te := rd X.K δ) hc hN hy hyl hsw pi ok hg ht (fun s H C cl fp => (he s H C cl fp).pe) hs, ?_⟩
  have s := sim_frz (simN_lc (γ := γ) (τ := τ) (δ := δ) (vs := List.map (fun z : Str × Nat => z.2) own) si)
  intro B M Γ σ H H0 E D k q ok
  refine s B M Γ σ H H0 _ _ k q fun v x Γ1 H1 H01 h1 s1 k1 r1 => ?_
  obtain ⟨d, Γ2, H02, h2, s2, k2, r2⟩ := asD_ok k1 r1 h1
  exact ok.nx _ _ H1 H02 h2 (s1.trans s2) (k2.set r2)
/-- a list of one's own, from now on data -/
def dVarF (i : Nat) : DE := fun Γ R => ∃ p ds, Γ[i]? = some (some (DCell.own p (.lst ds))) ∧ R (.d (.list ds)) (Γ.set i (some (DCell.val (.list ds))))
theorem pd_varF (i : Nat) {x : Str} {pos : Pos} (hN : X.N[i]? = some x := by rfl) (hv : Vis X.env.scope x := by first | exact Or.inl rfl | exact Or.inr (Or.inl rfl) | exact Or.inr (Or.inr rfl)) (hd : (x == ("__debug__" : Str)) = false := by decide)
    (hcd : (x == ("__classdict__" : Str)) = false := by decide) : PD X (.Name x pos) (dVarF i) := ⟨_, pe_var hN hv hd hcd, fun B M Γ σ H H0 Q R k ⟨p, ds, e, r⟩ q => by
  obtain ⟨v, H1, x, s1, d1, k1⟩ := k.freeze e
  exact ⟨v, x, q v _ _ H H1 r s1 k1 d1⟩⟩
end
theorem getD_lt {α : Type} {l : List α} {i : Nat} (h : i < l.length) : l[i]? = some l[i] := List.getElem?_eq_getElem h
/-! ### a comprehension that changes nothing: the plain rule -/
theorem lc_useM {α : Type} {γ : DG} {τ : DT} {δ : DE} {vs : List Nat} {Γ1 : DCtx} {R : DOb → DCtx → Prop} (xs : List α) (enc : α → D) (f : α → Bool) (g : α → D) (hno : ∀ i ∈ vs, ∀ p o, Γ1[i]? ≠ some (some (DCell.own p o))) (hl : xs.length ≤ 1000000)
    (h3 : ∀ x ∈ xs, ∀ (acc : List D) (P : List D → DCtx → Prop), (f x = true → P (acc ++ [g x]) Γ1) → (f x = false → P acc Γ1) → γ (enc x) (wipeC Γ1 vs) fun Γ3 => τ Γ3 fun b Γ4 => if b = true then δ Γ4 fun y Γ5 => ∃ e, y = .d e ∧ P (acc ++ [e]) (restore Γ1 Γ5 vs) else P acc (restore Γ1 Γ4 vs))
    (hR : R (.lst ((xs.filter f).map g)) Γ1) : nLcB γ τ δ vs R (xs.map enc) Γ1 := by
  refine ⟨hno, by rw [List.length_map]; exact hl, fun i acc Γ2 => Γ2 = Γ1 ∧ acc = (((xs.take i).filter f).map g), ⟨rfl, by simp⟩, fun i acc Γ2 d hd ⟨e1, e2⟩ => ?_, fun acc Γ2 ⟨e1, e2⟩ => ?_⟩
  · subst e1 e2
    rw [List.getElem?_map] at hd
    cases hx : xs[i]? with
    | none => rw [hx] at hd; cases hd
    | some x =>
      rw [hx] at hd
      cases hd
      have ht : xs.take (i + 1) = xs.take i ++ [x] := by rw [List.take_add_one, hx]; rfl
      have hm : x ∈ xs := List.mem_of_getElem? hx
      refine h3 x hm _ (fun acc Γ' => Γ' = Γ2 ∧ acc = (((xs.take (i + 1)).filter f).map g)) (fun hf => ⟨rfl, ?_⟩) (fun hf => ⟨rfl, ?_⟩)
      · rw [ht, List.filter_append, List.map_append]
        simp [List.filter_cons, hf]
      · rw [ht, List.filter_append, List.map_append]
        simp [List.filter_cons, hf]
  · rw [List.length_map, List.take_of_length_le (Nat.le_refl _)] at e2
    subst e1 e2
    exact hR
theorem filter_tt {α : Type} : ∀ l : List α, l.filter (fun _ => true) = l
  | [] => rfl
  | x :: l => by rw [List.filter_cons, if_pos rfl, filter_tt l]
/-- .. without a test -/
theorem lc_useA {α : Type} {γ : DG} {δ : DE} {vs : List Nat} {Γ1 : DCtx} {R : DOb → DCtx → Prop} (xs : List α) (enc : α → D) (g : α → D) (hno : ∀ i ∈ vs, ∀ p o, Γ1[i]? ≠ some (some (DCell.own p o))) (hl : xs.length ≤ 1000000)
    (h3 : ∀ x ∈ xs, ∀ (acc : List D) (P : List D → DCtx → Prop), P (acc ++ [g x]) Γ1 → γ (enc x) (wipeC Γ1 vs) fun Γ3 => δ Γ3 fun y Γ5 => ∃ e, y = .d e ∧ P (acc ++ [e]) (restore Γ1 Γ5 vs))
    (hR : R (.lst (xs.map g)) Γ1) : nLcB γ dYes δ vs R (xs.map enc) Γ1 := by
  refine lc_useM xs enc (fun _ => true) g hno hl (fun x hx acc P hy hn => ?_) (by rw [filter_tt]; exact hR)
  exact h3 x hx acc P (hy rfl)
/-- .. over the keys of a dict of one's own -/
theorem lcK_use {j : Nat} {γ : DG} {τ : DT} {δ : DE} {vs : List Nat} {Γ : DCtx} {R : DOb → DCtx → Prop} {p : Addr} {kvs : List (Key × D)} (f : Key → Bool) (g : Key → D) (ej : Γ[j]? = some (some (DCell.own p (.dK kvs)))) (hno : ∀ i ∈ vs, ∀ p o, (Γ.set j none)[i]? ≠ some (some (DCell.own p o))) (hl : kvs.length ≤ 1000000)
    (h3 : ∀ kv ∈ kvs, ∀ (acc : List D) (P : List D → DCtx → Prop), (f kv.1 = true → P (acc ++ [g kv.1]) (Γ.set j none)) → (f kv.1 = false → P acc (Γ.set j none)) → γ (kD kv.1) (wipeC (Γ.set j none) vs) fun Γ3 => τ Γ3 fun b Γ4 => if b = true then δ Γ4 fun y Γ5 => ∃ e, y = .d e ∧ P (acc ++ [e]) (restore (Γ.set j none) Γ5 vs) else P acc (restore (Γ.set j none) Γ4 vs))
    (hR : R (.lst (((kvs.map (·.1)).filter f).map g)) ((Γ.set j none).set j (some (DCell.own p (.dK kvs))))) : nLcK j γ τ δ vs Γ R := by
  refine ⟨p, kvs, ej, hno, hl, fun i acc Γ2 => Γ2 = Γ.set j none ∧ acc = ((((kvs.take i).map (·.1)).filter f).map g), ⟨rfl, by simp⟩, fun i acc Γ2 kv hx ⟨e1, e2⟩ => ?_, fun acc Γ2 ⟨e1, e2⟩ => ?_⟩
  · subst e1 e2
    have ht : kvs.take (i + 1) = kvs.take i ++ [kv] := by rw [List.take_add_one, hx]; rfl
    have hm : kv ∈ kvs := List.mem_of_getElem? hx
    refine h3 kv hm _ (fun acc Γ' => Γ' = Γ.set j none ∧ acc = ((((kvs.take (i + 1)).map (·.1)).filter f).map g)) (fun hf => ⟨rfl, ?_⟩) (fun hf => ⟨rfl, ?_⟩)
    · rw [ht, List.map_append, List.filter_append, List.map_append]
      simp [List.filter_cons, hf]
    · rw [ht, List.map_append, List.filter_append, List.map_append]
      simp [List.filter_cons, hf]
  · rw [List.take_of_length_le (Nat.le_refl _)] at e2
    subst e1 e2
    exact hR
/-- a loop over items that are data of some kind -/
theorem for_use {α : Type} {γ : DG} {β : DS} {D : DEnds} {Γ1 : DCtx} (xs : List α) (enc : α → DL.D) (W : Nat → DCtx → Prop) (h0 : W 0 Γ1) (hs : ∀ (i : Nat) x Γ2, xs[i]? = some x → W i Γ2 → γ (enc x) Γ2 fun Γ3 => β { D with nx := W (i + 1), ct := W (i + 1), bk := D.nx } Γ3) (hd : ∀ Γ2, W xs.length Γ2 → D.nx Γ2) : sForB γ β D (xs.map enc) Γ1 := by
  refine ⟨W, h0, fun i d Γ2 hd w => ?_, fun Γ2 w => hd Γ2 (by rw [List.length_map] at w; exact w)⟩
  rw [List.getElem?_map] at hd
  cases hx : xs[i]? with
  | none => rw [hx] at hd; cases hd
  | some x =>
    rw [hx] at hd
    cases hd
    exact hs i x Γ2 hx w
end DL

set_option Elab.async false
set_option linter.all false
set_option maxRecDepth 100000
set_option maxHeartbeats 2000000
set_option autoImplicit false
namespace DL
open PySem L2 PyProof.Rows

section
variable {X : Cx} {K : PySem.W.Frag}
/-! ### list(text) -/
def rListS : List V → Hp → VK → Prop := fun xs H Q => ∃ z : Str, xs = [.str z] ∧ z.length ≤ sizeLine ∧ ∀ l, H l = none → Q (.ref l) (upd H l (.lst (z.cps.toList.map fun c => V.str ⟨#[c]⟩)))
theorem vals_signs {z : Str} {acc : Array Value} (h : ItemsOf (SignAt z) acc z.cps.size) : Vals (z.cps.toList.map fun c => V.str ⟨#[c]⟩) acc.toList := by
  have : ∀ (l : List Nat) (vs : List Value), l.length = vs.length → (∀ (j : Nat) v, vs[j]? = some v → ∃ c u, l[j]? = some c ∧ v = Value.str ⟨#[c]⟩ u) → Vals (l.map fun c => V.str ⟨#[c]⟩) vs := fun l => by
    induction l with
    | nil => intro vs hl _; cases vs with
      | nil => exact .nil
      | cons => simp at hl
    | cons c l ih =>
      intro vs hl hv
      cases vs with
      | nil => simp at hl
      | cons v vs =>
        obtain ⟨c', u, e1, e2⟩ := hv 0 v rfl
        simp at e1
        subst e1
        exact .cons ⟨u, e2⟩ (ih vs (by simpa using hl) fun j v' hj => by simpa using hv (j + 1) v' (by simpa using hj))
  refine this _ _ (by simp [h.1]) fun j v hj => ?_
  obtain ⟨c, u, e1, e2⟩ := h.2 j v (by simpa using hj)
  exact ⟨c, u, by simpa using e1, e2⟩
theorem call_listS (hc : X.calm = true) : CallR X (.type "list") rListS := by
  intro pins s σ H xs us Q I r h
  obtain ⟨z, rfl, hz, q⟩ := h
  obtain ⟨u, rfl, t, rfl⟩ := vals1 r
  refine call_list_str (I.ok.hd hc) z t (fun h' tk acc c k e hi => ?_) hz
  have hv := vals_signs hi
  exact ⟨.ref _, upd H s.heap.objs.size (.lst _), I.laid (t' := tk) k (Nat.le_refl _) ⟨by rw [hv.length, Array.length_toList, hi.1]; exact hz, acc.toList, c, hv, by simpa using e⟩, rfl, q _ (I.hok.fresh (Nat.le_refl _))⟩
def dListS : DRC := fun xs Γ R => ∃ w, xs = [.d (.str (T w))] ∧ w.length ≤ 1000000 ∧ R (.d (.list (w.map fun c => sD [c]))) Γ
theorem dp_signs {H : Hp} : ∀ w : List Nat, DpAll K H (w.map fun c => V.str ⟨#[c]⟩) (w.map fun c => sD [c])
  | [] => .nil
  | c :: w => .cons (.str _) (dp_signs w)
theorem cs_listS : CSim K rListS dListS := by
  intro B M Γ σ H H0 Q R xs vs k r ⟨w, e, hl, h1⟩ q
  subst e
  cases r with
  | cons r1 r2 =>
    cases r2
    cases dp_str_inv r1
    refine ⟨T w, rfl, line_m hl, fun l hl => ?_⟩
    have et : (T w).cps.toList = w := by simp [T]
    rw [et]
    obtain ⟨k2, s2⟩ := k.laid (o := .lst (w.map fun c => V.str ⟨#[c]⟩)) hl
    exact q _ _ Γ _ _ h1 s2 k2 (Dp.lst (.inl (.inl upd_same)) (dp_signs w))
/-! ### min(a, b, c) -/
theorem call_min3 (hc : X.calm = true) : CallR X (.builtin "min") (fun xs H Q => ∃ i j k : Int, xs = [.int i, .int j, .int k] ∧ Q (.int (min i (min j k))) H) := by
  intro pins s σ H xs us Q I r h
  obtain ⟨i, j, k, rfl, q⟩ := h
  obtain ⟨u1, u2, u3, rfl, ⟨t1, rfl⟩, ⟨t2, rfl⟩, ⟨t3, rfl⟩⟩ : ∃ u1 u2 u3, us = [u1, u2, u3] ∧ RelV (.int i) u1 ∧ RelV (.int j) u2 ∧ RelV (.int k) u3 := by
    cases r with
    | cons a r =>
      cases r with
      | cons b r =>
        cases r with
        | cons c r =>
          cases r
          exact ⟨_, _, _, rfl, a, b, c⟩
  refine min_three_ints (I.ok.hd hc) fun h' tk kp => ⟨.int (min i (min j k)), H, I.kept kp, ?_, q⟩
  by_cases h1 : j < i
  · rw [if_pos h1]
    by_cases h2 : k < j
    · rw [if_pos h2]; exact ⟨_, by rw [show min i (min j k) = k by omega]⟩
    · rw [if_neg h2]; exact ⟨_, by rw [show min i (min j k) = j by omega]⟩
  · rw [if_neg h1]
    by_cases h2 : k < i
    · rw [if_pos h2]; exact ⟨_, by rw [show min i (min j k) = k by omega]⟩
    · rw [if_neg h2]; exact ⟨_, by rw [show min i (min j k) = i by omega]⟩
def dMin3 : DRC := fun xs Γ R => ∃ i j k : Int, xs = [.d (.int i), .d (.int j), .d (.int k)] ∧ R (.d (.int (min i (min j k)))) Γ
theorem cs_min3 : CSim K (fun xs H Q => ∃ i j k : Int, xs = [.int i, .int j, .int k] ∧ Q (.int (min i (min j k))) H) dMin3 := by
  intro B M Γ σ H H0 Q R xs vs k r ⟨i, j, l, e, h1⟩ q
  subst e
  cases r with
  | cons r1 r =>
    cases r with
    | cons r2 r =>
      cases r with
      | cons r3 r =>
        cases r
        cases dp_int_inv r1
        cases dp_int_inv r2
        cases dp_int_inv r3
        exact ⟨i, j, l, rfl, q _ _ Γ H H0 h1 (Same.refl _) k (.int _)⟩
/-! ### a def that gives a new list of its own: spN -/
def AfterN (K : PySem.W.Frag) (H M : Hp) (Q : VK) (ds : List D) : Prop := ∀ p H' M' us, H p = none → H' p = some (.lst us) → M' p = none → Same H H' → Same M M' → Same M' H' → (∀ a o, H a = some o → M a = none → M' a = none) → Clean K M' → DpAll K M' us ds → Q (.ref p) H'
def spN (K : PySem.W.Frag) (n : Nat) (F : List D → (List D → Prop) → Prop) : Sp := fun vs H Q _ => ∃ M ds, Same M H ∧ Clean K M ∧ DpAll K M vs ds ∧ ds.length = n ∧ F ds (AfterN K H M Q)
def MonoN (F : List D → (List D → Prop) → Prop) : Prop := ∀ ds (P P' : List D → Prop), (∀ d, P d → P' d) → F ds P → F ds P'
def nCall (n : Nat) (F : List D → (List D → Prop) → Prop) (α : DA) : DN := fun Γ R => α Γ fun xs Γ1 => ∃ ds, outs xs = some ds ∧ ds.length = n ∧ F ds fun d => R (.lst d) Γ1
variable {a b c e : Expr} {pos : Pos}
theorem Kn.addB {B M : Hp} {Γ : DCtx} {σ : L2.St} {H H0 : Hp} {p : Addr} {o : HO} (k : Kn K B M Γ σ H H0) (hp : H p = some o) (h0 : H0 p = none) (hne : ∀ (i : Nat) (q : Addr) (d : DOb), Γ[i]? = some (some (DCell.own q d)) → q ≠ p) : Kn K (upd B p o) M Γ σ H H0 := by
  refine ⟨fun b x e => ?_, k.mm, k.sub, fun a x e n => ?_, k.len, k.val, fun i q d e => ?_, k.sep, k.cl⟩
  · by_cases hb : b = p
    · subst hb; rw [upd_same] at e; cases e; exact hp
    · rw [upd_ne hb] at e; exact k.base b x e
  · by_cases ha : a = p
    · subst ha; exact h0
    · rw [upd_ne ha] at e; exact k.new a x e n
  · obtain ⟨h, x, hB, h02, hp2, ok⟩ := k.own i q d e
    exact ⟨h, x, by rw [upd_ne (hne i q d e)]; exact hB, h02, hp2, ok⟩
theorem pdn_cl {n : Nat} {F : List D → (List D → Prop) → Prop} {k j : Nat} {ps : List Str} {x : Str} {p : Pos} {es : List Expr} {α : DA} (C : Cl X.prog X.w X.K X.mg X.base k x ps (spN X.K n F)) (hF : MonoN F) (hr : Room j X.A) (hk : k ≤ j) (hg : Gl X x)
    (hdb : (x == ("__debug__" : Str)) = false := by decide) (he : starEach (e :: es) X.env = (false, eval e X.env) :: starEach es X.env := by rfl) (hpl : (backTo pos (starEach es X.env)).any (·.1) = false := by rfl) (h : PDA X (e :: es) α) : PDN X (.Call (.Name x p) (e :: es) [] pos) (nCall n F α) := by
  obtain ⟨f, fd, ok, hm, kp, hb⟩ := C.ex
  obtain ⟨t, ha, sa⟩ := h
  refine ⟨_, pe_call (E := E0) ok (hr.mono hk) hg hm kp hb .nil pass0 ha hdb he hpl, fun B M Γ σ H H0 Q R k h q => ?_⟩
  refine sa B M Γ σ H H0 _ _ k h fun vs xs Γ1 H1 H01 ⟨ds, e, hl, h1⟩ s1 k1 r1 => ?_
  cases outs_eq e
  rw [List.append_nil]
  refine ⟨H01, ds, k1.sub, k1.cl, dpAll_of r1, hl, hF ds _ _ (fun d h2 => ?_) h1⟩
  intro p H' M' us a0 a1 a2 a3 a4 a5 a6 a8 a7
  have k2 := k1.after a3 a4 a5 a6 a8
  refine q p (.lst us) (.lst d) Γ1 H' M' h2 (s1.trans a4) (k1.base.free a0) ((k1.mm.trans k1.sub).free a0) (k2.addB a1 a2 fun i r o ei => ?_) (.lst a7)
  obtain ⟨h, _, _, _, hp2, _⟩ := k1.own i r o ei
  exact ne_of_none hp2 a0
end
end DL

set_option Elab.async false
set_option linter.all false
set_option maxRecDepth 100000
set_option maxHeartbeats 2000000
set_option autoImplicit false
namespace DL
open PySem L2 PyProof.Rows

/-! ### evaluation from the outside: each reading as a chain of small steps, for simp's ↓ -/
/-- what follows a call: not looked into -/
def Hold {α : Type} (P : α → Prop) (x : α) : Prop := P x
theorem hold_iff {α : Type} {P : α → Prop} {x : α} : Hold P x ↔ P x := Iff.rfl
def Hold2 {α β : Type} (P : α → β → Prop) (x : α) (y : β) : Prop := P x y
section
variable {α : Type}
def lkV (l : DCtx) (j : Nat) (k : DCell → Prop) : Prop := ∃ c : DCell, l[j]? = some (some c) ∧ k c
theorem u_lkV_s {a : Option DCell} {l : DCtx} {j : Nat} {k : DCell → Prop} : lkV (a :: l) (j + 1) k = lkV l j k := by unfold lkV; simp only [List.getElem?_cons_succ]
theorem u_lkV_0 {c : DCell} {l : DCtx} {k : DCell → Prop} : lkV (some c :: l) 0 k = k c := by unfold lkV; simp
def cvK (i : Nat) (c : DCell) (k : DV → Prop) : Prop := k (cv i c)
theorem u_cvK_v {i : Nat} {d : D} {k : DV → Prop} : cvK i (.val d) k = k (.d d) := rfl
theorem u_cvK_o {i : Nat} {p : Addr} {o : DOb} {k : DV → Prop} : cvK i (.own p o) k = k (.o i) := rfl
def ownK (c : DCell) (k : Addr → DOb → Prop) : Prop := ∃ p o, c = .own p o ∧ k p o
theorem u_ownK {p : Addr} {o : DOb} {k : Addr → DOb → Prop} : ownK (.own p o) k = k p o := propext ⟨fun ⟨_, _, e, h⟩ => by cases e; exact h, fun h => ⟨_, _, rfl, h⟩⟩
def obL (o : DOb) (k : List D → Prop) : Prop := ∃ ds, o = .lst ds ∧ k ds
theorem u_obL {ds : List D} {k : List D → Prop} : obL (.lst ds) k = k ds := by unfold obL; simp
def obK (o : DOb) (k : List (Key × D) → Prop) : Prop := ∃ ds, o = .dK ds ∧ k ds
theorem u_obK {ds : List (Key × D)} {k : List (Key × D) → Prop} : obK (.dK ds) k = k ds := by unfold obK; simp
def setK (l : DCtx) (i : Nat) (c : Option DCell) (k : DCtx → Prop) : Prop := k (l.set i c)
theorem u_setK_s {a : Option DCell} {l : DCtx} {i : Nat} {c : Option DCell} {k : DCtx → Prop} : setK (a :: l) (i + 1) c k = setK l i c fun l' => k (a :: l') := rfl
theorem u_setK_0 {a : Option DCell} {l : DCtx} {c : Option DCell} {k : DCtx → Prop} : setK (a :: l) 0 c k = k (c :: l) := rfl
def onI (x : DV) (k : Int → Prop) : Prop := ∃ i, x = .d (.int i) ∧ k i
theorem u_onI {i : Int} {k : Int → Prop} : onI (.d (.int i)) k = k i := by unfold onI; simp
def onB (x : DV) (k : Bool → Prop) : Prop := ∃ i, x = .d (.bool i) ∧ k i
theorem u_onB {i : Bool} {k : Bool → Prop} : onB (.d (.bool i)) k = k i := by unfold onB; simp
def onS (x : DV) (k : List Nat → Prop) : Prop := ∃ w, x = .d (.str (T w)) ∧ k w
theorem u_onS {w : List Nat} {k : List Nat → Prop} : onS (.d (.str (T w))) k = k w := by unfold onS; simp [T_inj]
theorem u_onS' {w : List Nat} {k : List Nat → Prop} : onS (.d (sD w)) k = k w := u_onS
def onD (x : DV) (k : D → Prop) : Prop := ∃ d, x = .d d ∧ k d
theorem u_onD {d : D} {k : D → Prop} : onD (.d d) k = k d := by unfold onD; simp
def onO (x : DV) (k : Nat → Prop) : Prop := ∃ j, x = .o j ∧ k j
theorem u_onO {j : Nat} {k : Nat → Prop} : onO (.o j) k = k j := by unfold onO; simp
def onT (x : DV) (k : List D → Prop) : Prop := ∃ ds, x = .d (.tuple ds) ∧ k ds
theorem u_onT {ds : List D} {k : List D → Prop} : onT (.d (.tuple ds)) k = k ds := by unfold onT; simp
def onLd (x : DV) (k : List D → Prop) : Prop := ∃ ds, x = .d (.list ds) ∧ k ds
theorem u_onLd {ds : List D} {k : List D → Prop} : onLd (.d (.list ds)) k = k ds := by unfold onLd; simp
def onSq (Γ : DCtx) (x : DV) (k : List D → Prop) : Prop := ∃ ds, Sq Γ x ds ∧ k ds
theorem u_onSq_l {Γ : DCtx} {ds : List D} {k : List D → Prop} : onSq Γ (.d (.list ds)) k = k ds := by unfold onSq Sq; simp
theorem u_onSq_t {Γ : DCtx} {ds : List D} {k : List D → Prop} : onSq Γ (.d (.tuple ds)) k = k ds := by unfold onSq Sq; simp
theorem lkO_eq {Γ : DCtx} {j : Nat} {k : List D → Prop} : (∃ ds p, Γ[j]? = some (some (DCell.own p (.lst ds))) ∧ k ds) ↔ lkV Γ j fun c => ownK c fun _ o => obL o k := by
  unfold lkV ownK obL
  constructor
  · rintro ⟨ds, p, e, h⟩
    exact ⟨_, e, p, _, rfl, ds, rfl, h⟩
  · rintro ⟨c, e, p, o, rfl, ds, rfl, h⟩
    exact ⟨ds, p, e, h⟩
theorem u_onSq_o {Γ : DCtx} {j : Nat} {k : List D → Prop} : onSq Γ (.o j) k = lkV Γ j fun c => ownK c fun _ o => obL o k := by
  rw [← propext lkO_eq]
  unfold onSq Sq
  simp
def onLq (Γ : DCtx) (x : DV) (k : List D → Prop) : Prop := ∃ ds, Lq Γ x ds ∧ k ds
theorem u_onLq_l {Γ : DCtx} {ds : List D} {k : List D → Prop} : onLq Γ (.d (.list ds)) k = k ds := by unfold onLq Lq; simp
theorem u_onLq_o {Γ : DCtx} {j : Nat} {k : List D → Prop} : onLq Γ (.o j) k = lkV Γ j fun c => ownK c fun _ o => obL o k := by
  rw [← propext lkO_eq]
  unfold onLq Lq
  simp
def outsK (xs : List DV) (k : List D → Prop) : Prop := ∃ ds, outs xs = some ds ∧ k ds
theorem u_outsK_n {k : List D → Prop} : outsK [] k = k [] := by unfold outsK outs; simp
theorem u_outsK_c {a : D} {l : List DV} {k : List D → Prop} : outsK (.d a :: l) k = outsK l fun ds => k (a :: ds) := by
  unfold outsK
  simp only [outs]
  cases outs l with
  | none => simp
  | some r => simp
def keyK (z : DV) (k : Key → Prop) : Prop := ∃ q, z = .d (kD q) ∧ k q
theorem u_keyK_s {x : Str} {k : Key → Prop} : keyK (.d (.str x)) k = k (Sum.inr x) := by
  unfold keyK
  simp [kD_eqS]
theorem u_keyK_s' {w : List Nat} {k : Key → Prop} : keyK (.d (sD w)) k = k (Sum.inr (T w)) := u_keyK_s
theorem u_keyK_i {x : Int} {k : Key → Prop} : keyK (.d (.int x)) k = k (Sum.inl x) := by
  unfold keyK
  simp [kD_eqI]
def tupK (d : D) (k : List D → Prop) : Prop := ∃ ds, d = .tuple ds ∧ k ds
theorem u_tupK {ds : List D} {k : List D → Prop} : tupK (.tuple ds) k = k ds := by unfold tupK; simp
def lisK (d : D) (k : List D → Prop) : Prop := ∃ ds, d = .list ds ∧ k ds
theorem u_lisK {ds : List D} {k : List D → Prop} : lisK (.list ds) k = k ds := by unfold lisK; simp
end
section
variable {Γ : DCtx} {R : DK} {x y z : DV} {D₀ : DEnds} {i j : Nat} {xs : List DV}
theorem u_var : dVar i Γ R = lkV Γ i fun c => cvK i c fun x => R x Γ := rfl
theorem u_varF : dVarF i Γ R = lkV Γ i fun c => ownK c fun _ o => obL o fun ds => setK Γ i (some (DCell.val (.list ds))) fun Γ' => R (.d (.list ds)) Γ' := by
  rw [← propext lkO_eq]
  unfold dVarF setK
  exact propext ⟨fun ⟨p, ds, h⟩ => ⟨ds, p, h⟩, fun ⟨ds, p, h⟩ => ⟨p, ds, h⟩⟩
theorem u_c {d : D} : dC d Γ R = R (.d d) Γ := rfl
theorem u_op {ρ : DR2} {δa δb : DE} : dOp ρ δa δb Γ R = δa Γ fun x Γ1 => δb Γ1 fun y Γ2 => ρ x y Γ2 R := rfl
theorem u_tst {δ : DE} {R : Bool → DCtx → Prop} : dTst δ Γ R = δ Γ fun x Γ1 => onB x fun b => R b Γ1 := rfl
theorem u_chain {ρ ρ' : DR2} {δa δb δc : DE} : dChain ρ ρ' δa δb δc Γ R = δa Γ fun x Γ1 => δb Γ1 fun y Γ2 => ρ x y Γ2 fun z Γ3 => onB z fun k => if k = true then δc Γ3 fun w Γ4 => ρ' y w Γ4 R else R (.d (.bool false)) Γ3 := rfl
theorem u_andV {δa δb : DE} : dAndV δa δb Γ R = δa Γ fun x Γ1 => onB x fun k => if k = true then δb Γ1 R else R (.d (.bool false)) Γ1 := rfl
theorem u_orV {δa δb : DE} : dOrV δa δb Γ R = δa Γ fun x Γ1 => onB x fun k => if k = true then R (.d (.bool true)) Γ1 else δb Γ1 R := rfl
theorem u_notV {δa : DE} : dNotV δa Γ R = δa Γ fun x Γ1 => onB x fun k => R (.d (.bool (!k))) Γ1 := rfl
theorem u_if {τ : DT} {δa δb : DE} : dIf τ δa δb Γ R = τ Γ fun b Γ1 => if b = true then δa Γ1 R else δb Γ1 R := rfl
theorem u_and {τ υ : DT} {R : Bool → DCtx → Prop} : dAnd τ υ Γ R = τ Γ fun b Γ1 => if b = true then υ Γ1 R else R false Γ1 := rfl
theorem u_or {τ υ : DT} {R : Bool → DCtx → Prop} : dOr τ υ Γ R = τ Γ fun b Γ1 => if b = true then R true Γ1 else υ Γ1 R := rfl
theorem u_not {τ : DT} {R : Bool → DCtx → Prop} : dNot τ Γ R = τ Γ fun b Γ1 => R (!b) Γ1 := rfl
theorem u_nil {R : List DV → DCtx → Prop} : dNil Γ R = R [] Γ := rfl
theorem u_cons {δ : DE} {α : DA} {R : List DV → DCtx → Prop} : dCons δ α Γ R = δ Γ fun x Γ1 => α Γ1 fun xs Γ2 => R (x :: xs) Γ2 := rfl
theorem u_tup {α : DA} : dTup α Γ R = α Γ fun xs Γ1 => outsK xs fun ds => ds.length ≤ 1000 ∧ R (.d (.tuple ds)) Γ1 := rfl
theorem u_lst {α : DA} : dLst α Γ R = α Γ fun xs Γ1 => outsK xs fun ds => ds.length ≤ 1000 ∧ R (.d (.list ds)) Γ1 := rfl
theorem u_cb {ρ : DRC} {α : DA} : dCB ρ α Γ R = α Γ fun xs Γ1 => ρ xs Γ1 R := rfl
theorem u_I0 {g : Int → Int → D} : dI0 g x y Γ R = onI x fun i => onI y fun j => R (.d (g i j)) Γ := propext ⟨fun ⟨i, j, a, b, c⟩ => ⟨i, a, j, b, c⟩, fun ⟨i, a, j, b, c⟩ => ⟨i, j, a, b, c⟩⟩
theorem u_I {C : Int → Int → Prop} {g : Int → Int → D} : dI C g x y Γ R = onI x fun i => onI y fun j => C i j ∧ R (.d (g i j)) Γ := propext ⟨fun ⟨i, j, a, b, c⟩ => ⟨i, a, j, b, c⟩, fun ⟨i, a, j, b, c⟩ => ⟨i, j, a, b, c⟩⟩
theorem u_eqI {n : Bool} : dEqI n x y Γ R = onI x fun i => onI y fun j => R (.d (.bool (n != decide (i = j)))) Γ := propext ⟨fun ⟨i, j, a, b, c⟩ => ⟨i, a, j, b, c⟩, fun ⟨i, a, j, b, c⟩ => ⟨i, j, a, b, c⟩⟩
theorem u_eqS {n : Bool} : dEqS n x y Γ R = onS x fun i => onS y fun j => R (.d (.bool (n != decide (i = j)))) Γ := propext ⟨fun ⟨i, j, a, b, c⟩ => ⟨i, a, j, b, c⟩, fun ⟨i, a, j, b, c⟩ => ⟨i, j, a, b, c⟩⟩
theorem u_eqB {n : Bool} : dEqB n x y Γ R = onB x fun i => onB y fun j => R (.d (.bool (n != decide (i = j)))) Γ := propext ⟨fun ⟨i, j, a, b, c⟩ => ⟨i, a, j, b, c⟩, fun ⟨i, a, j, b, c⟩ => ⟨i, j, a, b, c⟩⟩
theorem u_eqD {n : Bool} : dEqD n x y Γ R = onD x fun a => onD y fun b => SeqAt.shaped a = true ∧ SeqAt.shaped b = true ∧ R (.d (.bool (n != PyData.eqv a b))) Γ := propext ⟨fun ⟨i, j, a, b, c⟩ => ⟨i, a, j, b, c⟩, fun ⟨i, a, j, b, c⟩ => ⟨i, j, a, b, c⟩⟩
theorem u_addS : dAddS x y Γ R = onS x fun i => onS y fun j => i.length + j.length ≤ 1000000 ∧ R (.d (.str (T (i ++ j)))) Γ := propext ⟨fun ⟨i, j, a, b, c⟩ => ⟨i, a, j, b, c⟩, fun ⟨i, a, j, b, c⟩ => ⟨i, j, a, b, c⟩⟩
theorem u_ltS : dLtS x y Γ R = onS x fun i => onS y fun j => R (.d (.bool (decide (i < j)))) Γ := propext ⟨fun ⟨i, j, a, b, c⟩ => ⟨i, a, j, b, c⟩, fun ⟨i, a, j, b, c⟩ => ⟨i, j, a, b, c⟩⟩
/-- a text of one sign -/
def onC (x : DV) (k : Nat → Prop) : Prop := ∃ c, x = .d (.str (T [c])) ∧ k c
theorem u_onC {c : Nat} {k : Nat → Prop} : onC (.d (.str (T [c]))) k = k c := by unfold onC; simp [T_inj]
theorem u_onC' {c : Nat} {k : Nat → Prop} : onC (.d (sD [c])) k = k c := u_onC
theorem u_inC {n : Bool} : dInC n x y Γ R = onC x fun c => onS y fun w => R (.d (.bool (n != decide (c ∈ w)))) Γ := propext ⟨fun ⟨i, j, a, b, c⟩ => ⟨i, a, j, b, c⟩, fun ⟨i, a, j, b, c⟩ => ⟨i, j, a, b, c⟩⟩
theorem u_ix : dIx x y Γ R = onI y fun i => onSq Γ x fun ds => ∃ d, atI ds i = some d ∧ R (.d d) Γ := propext ⟨fun ⟨i, ds, d, a, b, c⟩ => ⟨i, a, ds, b, d, c⟩, fun ⟨i, a, ds, b, d, c⟩ => ⟨i, ds, d, a, b, c⟩⟩
theorem u_ixS : dIxS x y Γ R = onI y fun i => onS x fun w => w.length ≤ 1000000 ∧ ∃ c, atI w i = some c ∧ R (.d (.str (T [c]))) Γ := propext ⟨fun ⟨i, w, c, a, b, l, d⟩ => ⟨i, a, w, b, l, c, d⟩, fun ⟨i, a, w, b, l, c, d⟩ => ⟨i, w, c, a, b, l, d⟩⟩
/-- texts in a sequence -/
def txsK (ds : List D) (k : List (List Nat) → Prop) : Prop := ∃ ws : List (List Nat), ds = ws.map sD ∧ k ws
theorem sD_inj {a b : List Nat} (h : sD a = sD b) : a = b := T_inj.mp (PyData.str.inj h)
theorem map_sD_inj : ∀ {a b : List (List Nat)}, a.map sD = b.map sD → a = b
  | [], [], _ => rfl
  | [], _ :: _, h => by simp at h
  | _ :: _, [], h => by simp at h
  | x :: a, y :: b, h => by
    simp only [List.map_cons, List.cons.injEq] at h
    rw [sD_inj h.1, map_sD_inj h.2]
theorem u_txsK {ws : List (List Nat)} {k : List (List Nat) → Prop} : txsK (ws.map sD) k = k ws := propext ⟨fun ⟨a, e, h⟩ => by rw [map_sD_inj e]; exact h, fun h => ⟨ws, rfl, h⟩⟩
theorem u_inS {n : Bool} : dInS n x y Γ R = onS x fun w => onSq Γ y fun ds => txsK ds fun ws => R (.d (.bool (n != decide (w ∈ ws)))) Γ := propext ⟨fun ⟨w, ws, a, b, c⟩ => ⟨w, a, _, b, ws, rfl, c⟩, fun ⟨w, a, ds, b, ws, e, c⟩ => ⟨w, ws, a, by rw [← e]; exact b, c⟩⟩
theorem u_catT : dCatT x y Γ R = onT x fun a => onT y fun b => a.length + b.length ≤ 1000000 ∧ R (.d (.tuple (a ++ b))) Γ := propext ⟨fun ⟨i, j, a, b, c⟩ => ⟨i, a, j, b, c⟩, fun ⟨i, a, j, b, c⟩ => ⟨i, j, a, b, c⟩⟩
theorem u_catL : dCatL x y Γ R = onLq Γ x fun a => onLq Γ y fun b => a.length + b.length ≤ 1000000 ∧ R (.d (.list (a ++ b))) Γ := propext ⟨fun ⟨i, j, a, b, c⟩ => ⟨i, a, j, b, c⟩, fun ⟨i, a, j, b, c⟩ => ⟨i, j, a, b, c⟩⟩
theorem u_noPart {R : Option Int → DCtx → Prop} : dNoPart Γ R = R none Γ := rfl
theorem u_part {δ : DE} {R : Option Int → DCtx → Prop} : dPart δ Γ R = δ Γ fun x Γ1 => onI x fun i => R (some i) Γ1 := rfl
theorem u_sl {ρ : DRS} {δ : DE} {α β : DO} : dSl ρ δ α β Γ R = δ Γ fun x Γ1 => α Γ1 fun lo Γ2 => β Γ2 fun hi Γ3 => ρ x lo hi Γ3 R := rfl
theorem u_slS {lo hi : Option Int} : dSlS x lo hi Γ R = onS x fun w => w.length ≤ 1000000 ∧ R (.d (.str (T (cut w lo hi)))) Γ := rfl
theorem u_slL {lo hi : Option Int} : dSlL x lo hi Γ R = onLq Γ x fun ds => R (.d (.list (cut ds lo hi))) Γ := rfl
theorem u_slT {lo hi : Option Int} : dSlT x lo hi Γ R = onT x fun ds => R (.d (.tuple (cut ds lo hi))) Γ := rfl
theorem u_len : dLen [x] Γ R = onSq Γ x fun ds => R (.d (.int ds.length)) Γ := propext ⟨fun ⟨y, ds, e, h⟩ => by cases e; exact ⟨ds, h⟩, fun ⟨ds, h⟩ => ⟨x, ds, rfl, h⟩⟩
theorem u_lenS : dLenS [x] Γ R = onS x fun w => w.length ≤ 1000000 ∧ R (.d (.int w.length)) Γ := propext ⟨fun ⟨w, e, h⟩ => by cases e; exact ⟨w, rfl, h⟩, fun ⟨w, e, h⟩ => ⟨w, by rw [e], h⟩⟩
theorem u_all : dAll [x] Γ R = onLd x fun ds => ∃ bs : List Bool, ds = bs.map PyData.bool ∧ R (.d (.bool (bs.all id))) Γ := propext ⟨fun ⟨bs, e, h⟩ => by cases e; exact ⟨_, rfl, bs, rfl, h⟩, fun ⟨ds, e, bs, e2, h⟩ => ⟨bs, by rw [e, e2], h⟩⟩
theorem u_any : dAny [x] Γ R = onLd x fun ds => ∃ bs : List Bool, ds = bs.map PyData.bool ∧ R (.d (.bool (bs.any id))) Γ := propext ⟨fun ⟨bs, e, h⟩ => by cases e; exact ⟨_, rfl, bs, rfl, h⟩, fun ⟨ds, e, bs, e2, h⟩ => ⟨bs, by rw [e, e2], h⟩⟩
theorem u_abs : dAbs [x] Γ R = onI x fun i => R (.d (.int (if i < 0 then -i else i))) Γ := propext ⟨fun ⟨i, e, h⟩ => by cases e; exact ⟨i, rfl, h⟩, fun ⟨i, e, h⟩ => ⟨i, by rw [e], h⟩⟩
theorem u_mm {f : Int → Int → Int} : dMM f [x, y] Γ R = onI x fun i => onI y fun j => R (.d (.int (f i j))) Γ := propext ⟨fun ⟨i, j, e, h⟩ => by cases e; exact ⟨i, rfl, j, rfl, h⟩, fun ⟨i, e, j, e2, h⟩ => ⟨i, j, by rw [e, e2], h⟩⟩
theorem u_min3 : dMin3 [x, y, z] Γ R = onI x fun i => onI y fun j => onI z fun k => R (.d (.int (min i (min j k)))) Γ := propext ⟨fun ⟨i, j, k, e, h⟩ => by cases e; exact ⟨i, rfl, j, rfl, k, rfl, h⟩, fun ⟨i, e, j, e2, k, e3, h⟩ => ⟨i, j, k, by rw [e, e2, e3], h⟩⟩
theorem u_int : dInt [x] Γ R = onB x fun b => R (.d (.int (if b then 1 else 0))) Γ := propext ⟨fun ⟨i, e, h⟩ => by cases e; exact ⟨i, rfl, h⟩, fun ⟨i, e, h⟩ => ⟨i, by rw [e], h⟩⟩
theorem u_listOf : dListOf [x] Γ R = onSq Γ x fun ds => R (.d (.list ds)) Γ := propext ⟨fun ⟨y, ds, e, h⟩ => by cases e; exact ⟨ds, h⟩, fun ⟨ds, h⟩ => ⟨x, ds, rfl, h⟩⟩
theorem u_tupOf : dTupOf [x] Γ R = onSq Γ x fun ds => R (.d (.tuple ds)) Γ := propext ⟨fun ⟨y, ds, e, h⟩ => by cases e; exact ⟨ds, h⟩, fun ⟨ds, h⟩ => ⟨x, ds, rfl, h⟩⟩
theorem u_listS : dListS [x] Γ R = onS x fun w => w.length ≤ 1000000 ∧ R (.d (.list (w.map fun c => sD [c]))) Γ := propext ⟨fun ⟨w, e, h⟩ => by cases e; exact ⟨w, rfl, h⟩, fun ⟨w, e, h⟩ => ⟨w, by rw [e], h⟩⟩
theorem u_sort : dSort [x] Γ R = onLd x fun ds => PySem.W.AllAlike ds ∧ PySem.W.Sortable ds ∧ (∀ d ∈ ds, d.depth ≤ 60) ∧ R (.d (.list (sortD ds))) Γ := propext ⟨fun ⟨ds, e, h⟩ => by cases e; exact ⟨ds, rfl, h⟩, fun ⟨ds, e, h⟩ => ⟨ds, by rw [e], h⟩⟩
theorem u_isi {f : D → Bool} {δ : DE} : dIsi f δ Γ R = δ Γ fun x Γ1 => onD x fun d => R (.d (.bool (f d))) Γ1 := rfl
theorem u_isN {n : Bool} : dIsN n x y Γ R = onD x fun d => onD y fun e => e = .none ∧ R (.d (.bool (n != decide (tyN d = "NoneType")))) Γ := propext ⟨fun ⟨d, a, b, c⟩ => ⟨d, a, _, b, rfl, c⟩, fun ⟨d, a, e, b, e2, c⟩ => ⟨d, a, by rw [b, e2], c⟩⟩
theorem u_neg {δ : DE} : dNeg δ Γ R = δ Γ fun x Γ1 => onI x fun i => R (.d (.int (-i))) Γ1 := rfl
theorem u_join {δo δe : DE} : dJoin δo δe Γ R = δo Γ fun x Γ1 => (∃ S, x = .d (.str (T S))) ∧ δe Γ1 fun y Γ2 => onS x fun S => onSq Γ2 y fun ds => txsK ds fun ws => (ws.map List.length).sum + ws.length * S.length ≤ 1000000 ∧ R (.d (.str (T (joinW S ws)))) Γ2 := by
  unfold dJoin
  congr 1; funext x Γ1; congr 1; congr 1; funext y Γ2
  exact propext ⟨fun ⟨S, ws, a, b, c⟩ => ⟨S, a, _, b, ws, rfl, c⟩, fun ⟨S, a, ds, b, ws, e, c⟩ => ⟨S, ws, a, by rw [← e]; exact b, c⟩⟩
theorem u_append {δo δe : DE} : dAppend δo δe Γ R = δo Γ fun x Γ1 => onO x fun j => (∃ p ds, Γ1[j]? = some (some (DCell.own p (.lst ds)))) ∧ δe Γ1 fun y Γ2 => onD y fun d => lkV Γ2 j fun c => ownK c fun p o => obL o fun ds => ds.length ≤ 1000000 ∧ setK Γ2 j (some (DCell.own p (.lst (ds ++ [d])))) fun Γ' => R (.d .none) Γ' := by
  unfold dAppend onO
  congr 1; funext x Γ1; congr 1; funext j; congr 1; congr 1; congr 1; funext y Γ2
  unfold onD lkV ownK obL setK
  exact propext ⟨fun ⟨p, ds, d, a, b, c⟩ => ⟨d, a, _, b, p, _, rfl, ds, rfl, c⟩, fun ⟨d, a, c, b, p, o, e1, ds, e2, h⟩ => by subst e1 e2; exact ⟨p, ds, d, a, b, h⟩⟩
theorem u_next : sNext D₀ Γ = D₀.nx Γ := rfl
theorem u_seq {β γ : DS} : sSeq β γ D₀ Γ = β { D₀ with nx := γ D₀ } Γ := rfl
theorem u_never : sNever D₀ Γ = False := rfl
theorem u_break : sBreak D₀ Γ = D₀.bk Γ := rfl
theorem u_ret {δ : DE} : sRet δ D₀ Γ = δ Γ (asD D₀.rt) := rfl
theorem u_retN : sRetN D₀ Γ = D₀.rt .none Γ := rfl
theorem u_drop {δ : DE} : sDrop δ D₀ Γ = δ Γ fun _ Γ1 => D₀.nx Γ1 := rfl
theorem u_sIf {τ : DT} {β γ : DS} : sIf τ β γ D₀ Γ = τ Γ fun b Γ1 => if b = true then β D₀ Γ1 else γ D₀ Γ1 := rfl
theorem u_asD_d {R : D → DCtx → Prop} {d : D} : asD R (.d d) Γ = R d Γ := by unfold asD; simp
theorem u_asD_o {R : D → DCtx → Prop} : asD R (.o j) Γ = lkV Γ j fun c => ownK c fun _ o => obL o fun ds => setK Γ j none fun Γ' => R (.list ds) Γ' := by
  rw [← propext lkO_eq]
  unfold asD setK
  simp only [reduceCtorEq, false_and, exists_false, false_or, DV.o.injEq]
  exact propext ⟨fun ⟨j', p, ds, a, b, c⟩ => by subst a; exact ⟨ds, p, b, c⟩, fun ⟨ds, p, b, c⟩ => ⟨j, p, ds, rfl, b, c⟩⟩
theorem u_frzD_d {R : D → DCtx → Prop} {d : D} : frzD R (.d d) Γ = R d Γ := by unfold frzD; simp
theorem u_frzD_o {R : D → DCtx → Prop} : frzD R (.o j) Γ = lkV Γ j fun c => ownK c fun _ o => obL o fun ds => setK Γ j (some (DCell.val (.list ds))) fun Γ' => R (.list ds) Γ' := by
  rw [← propext lkO_eq]
  unfold frzD setK
  simp only [reduceCtorEq, false_and, exists_false, false_or, DV.o.injEq]
  exact propext ⟨fun ⟨j', p, ds, a, b, c⟩ => by subst a; exact ⟨ds, p, b, c⟩, fun ⟨ds, p, b, c⟩ => ⟨j, p, ds, rfl, b, c⟩⟩
theorem u_gNm {d : D} {R : DCtx → Prop} : gNm i d Γ R = setK Γ i (some (DCell.val d)) R := rfl
theorem u_gsNil {R : DCtx → Prop} : gsNil [] Γ R = R Γ := by unfold gsNil; simp
theorem u_gsCons {γ : DG} {η : DGs} {d : D} {ds : List D} {R : DCtx → Prop} : gsCons γ η (d :: ds) Γ R = γ d Γ fun Γ1 => η ds Γ1 R := by
  unfold gsCons
  exact propext ⟨fun ⟨d', r, e, h⟩ => by cases e; exact h, fun h => ⟨d, ds, rfl, h⟩⟩
theorem u_gTup {n : Nat} {η : DGs} {d : D} {R : DCtx → Prop} : gTup_ n η d Γ R = tupK d fun ds => ds.length = n ∧ η ds Γ R := rfl
theorem u_set {δ : DE} {γ : DG} : sSet δ γ D₀ Γ = δ Γ fun x Γ1 => asD (fun d Γ2 => γ d Γ2 D₀.nx) x Γ1 := rfl
theorem u_setN {ν : DN} : sSetN ν i D₀ Γ = ν Γ fun o Γ1 => ∀ p, setK Γ1 i (some (DCell.own p o)) D₀.nx := rfl
theorem u_par {α : DA} : sPar i j α D₀ Γ = α Γ fun xs Γ1 => outsK xs fun ds => gTup_ 2 (gsCons (gNm i) (gsCons (gNm j) gsNil)) (.tuple ds) Γ1 D₀.nx := by
  unfold sPar outsK gTup_ gsCons gsNil gNm
  congr 1; funext xs Γ1
  refine propext ⟨fun ⟨a, b, e, h⟩ => ?_, fun ⟨ds, e, ds', e2, hl, d, r, e3, d2, r2, e4, e5, h⟩ => ?_⟩
  · subst e
    exact ⟨[a, b], rfl, _, rfl, rfl, _, _, rfl, _, _, rfl, rfl, h⟩
  · cases e2
    subst e3 e4 e5
    exact ⟨d, d2, outs_eq e, h⟩
theorem u_nLst {α : DA} {R : DOb → DCtx → Prop} : nLst α Γ R = α Γ fun xs Γ1 => outsK xs fun ds => ds.length ≤ 1000 ∧ R (.lst ds) Γ1 := rfl
theorem u_nDict {R : DOb → DCtx → Prop} : nDict Γ R = R (.dK []) Γ := rfl
theorem u_frz {ν : DN} : dFrz ν Γ R = ν Γ fun o Γ1 => obL o fun ds => R (.d (.list ds)) Γ1 := rfl
theorem u_nLc {ι : DI} {γ : DG} {τ : DT} {δ : DE} {vs : List Nat} {R : DOb → DCtx → Prop} : nLc ι γ τ δ vs Γ R = ι Γ (nLcB γ τ δ vs R) := rfl
theorem u_sFor {ι : DI} {γ : DG} {β : DS} : sFor ι γ β D₀ Γ = ι Γ (sForB γ β D₀) := rfl
theorem u_rep {δa δb : DE} {R : DOb → DCtx → Prop} : nRep1 δa δb Γ R = δa Γ fun x Γ1 => δb Γ1 fun y Γ2 => onD x fun d => onI y fun n => (-1000000 ≤ n ∧ n ≤ 1000000) ∧ R (.lst (List.replicate n.toNat d)) Γ2 := by
  unfold nRep1 onD onI
  congr 1; funext x Γ1; congr 1; funext y Γ2
  exact propext ⟨fun ⟨i, j, a, b, c⟩ => ⟨i, a, j, b, c⟩, fun ⟨i, a, j, b, c⟩ => ⟨i, j, a, b, c⟩⟩
theorem u_putL {δv δo δi : DE} : sPutL δv δo δi D₀ Γ = δv Γ fun y Γ1 => δo Γ1 fun x Γ2 => δi Γ2 fun z Γ3 => onD y fun d => onO x fun j => onI z fun i => lkV Γ3 j fun c => ownK c fun p o => obL o fun ds => ∃ n, ixN ds.length i = some n ∧ setK Γ3 j (some (DCell.own p (.lst (ds.set n d)))) D₀.nx := by
  unfold sPutL onD onO onI lkV ownK obL setK
  congr 1; funext y Γ1; congr 1; funext x Γ2; congr 1; funext z Γ3
  exact propext ⟨fun ⟨d, j, p, ds, i, n, a, b, c, e, h⟩ => ⟨d, a, j, b, i, c, _, e, p, _, rfl, ds, rfl, n, h⟩, fun ⟨d, a, j, b, i, c, _, e, p, _, e1, ds, e2, n, h⟩ => by subst e1 e2; exact ⟨d, j, p, ds, i, n, a, b, c, e, h⟩⟩
theorem u_putD {δv δo δi : DE} : sPutD δv δo δi D₀ Γ = δv Γ fun y Γ1 => δo Γ1 fun x Γ2 => δi Γ2 fun z Γ3 => onD y fun d => onO x fun j => keyK z fun k => lkV Γ3 j fun c => ownK c fun p o => obK o fun kvs => kvs.length ≤ 1000000 ∧ setK Γ3 j (some (DCell.own p (.dK (putG kvs k d)))) D₀.nx := by
  unfold sPutD onD onO keyK lkV ownK obK setK
  congr 1; funext y Γ1; congr 1; funext x Γ2; congr 1; funext z Γ3
  exact propext ⟨fun ⟨d, j, p, kvs, a, b, e, k, c, h⟩ => ⟨d, a, j, b, k, c, _, e, p, _, rfl, kvs, rfl, h⟩, fun ⟨d, a, j, b, k, c, _, e, p, _, e1, kvs, e2, h⟩ => by subst e1 e2; exact ⟨d, j, p, kvs, a, b, e, k, c, h⟩⟩
theorem u_inD {n : Bool} {δk δo : DE} : dInD n δk δo Γ R = δk Γ fun y Γ1 => δo Γ1 fun x Γ2 => onO x fun j => keyK y fun k => lkV Γ2 j fun c => ownK c fun _ o => obK o fun kvs => R (.d (.bool (n != (valG kvs k).isSome))) Γ2 := by
  unfold dInD onO keyK lkV ownK obK
  congr 1; funext y Γ1; congr 1; funext x Γ2
  exact propext ⟨fun ⟨j, p, kvs, a, e, k, c, h⟩ => ⟨j, a, k, c, _, e, p, _, rfl, kvs, rfl, h⟩, fun ⟨j, a, k, c, _, e, p, _, e1, kvs, e2, h⟩ => by subst e1 e2; exact ⟨j, p, kvs, a, e, k, c, h⟩⟩
theorem u_get2 {δo δk δx : DE} : dGet2 δo δk δx Γ R = δo Γ fun x Γ1 => onO x fun j => (∃ p kvs, Γ1[j]? = some (some (DCell.own p (.dK kvs)))) ∧ δk Γ1 fun y Γ2 => δx Γ2 fun z Γ3 => onD z fun d => keyK y fun k => lkV Γ3 j fun c => ownK c fun _ o => obK o fun kvs => R (.d ((valG kvs k).getD d)) Γ3 := by
  unfold dGet2 onO
  congr 1; funext x Γ1; congr 1; funext j; congr 1; congr 1; congr 1; funext y Γ2; congr 1; funext z Γ3
  unfold onD keyK lkV ownK obK
  exact propext ⟨fun ⟨p, kvs, d, a, e, k, c, h⟩ => ⟨d, a, k, c, _, e, p, _, rfl, kvs, rfl, h⟩, fun ⟨d, a, k, c, _, e, p, _, e1, kvs, e2, h⟩ => by subst e1 e2; exact ⟨p, kvs, d, a, e, k, c, h⟩⟩
theorem u_call {n : Nat} {F : List D → (D → Prop) → Prop} {α : DA} : dCall n F α Γ R = α Γ fun xs Γ1 => outsK xs fun ds => ds.length = n ∧ F ds fun d => R (.d d) Γ1 := rfl
theorem u_nCall {n : Nat} {F : List D → (List D → Prop) → Prop} {α : DA} {R : DOb → DCtx → Prop} : nCall n F α Γ R = α Γ fun xs Γ1 => outsK xs fun ds => ds.length = n ∧ F ds fun d => R (.lst d) Γ1 := rfl
/-- the arguments of a drawing call -/
def argT (xs : List DV) (k : D → Nat → List D → Prop) : Prop := ∃ s j xs' ds, xs = .d s :: .o j :: xs' ∧ outs xs' = some ds ∧ k s j ds
theorem u_argT {s : D} {j : Nat} {xs' : List DV} {k : D → Nat → List D → Prop} : argT (.d s :: .o j :: xs') k = outsK xs' fun ds => k s j ds := propext ⟨fun ⟨s', j', x', ds, e, o, h⟩ => by cases e; exact ⟨ds, o, h⟩, fun ⟨ds, o, h⟩ => ⟨s, j, xs', ds, rfl, o, h⟩⟩
theorem u_callT {n : Nat} {F : List D → List D → (D → List D → Prop) → Prop} {α : DA} : dCallT n F α Γ R = α Γ fun xs Γ1 => argT xs fun s j ds => lkV Γ1 j fun c => ownK c fun p o => obL o fun ts => ds.length + 1 = n ∧ F ts (s :: ds) fun d ts' => setK Γ1 j (some (DCell.own p (.lst ts'))) fun Γ' => R (.d d) Γ' := by
  unfold dCallT argT lkV ownK obL setK
  congr 1; funext xs Γ1
  exact propext ⟨fun ⟨j, p, ts, s, xs', ds, e, o, g, h⟩ => ⟨s, j, xs', ds, e, o, _, g, p, _, rfl, ts, rfl, h⟩, fun ⟨s, j, xs', ds, e, o, _, g, p, _, e1, ts, e2, h⟩ => by subst e1 e2; exact ⟨j, p, ts, s, xs', ds, e, o, g, h⟩⟩
theorem u_iLst {δ : DE} {R : List D → DCtx → Prop} : iLst δ Γ R = δ Γ fun x Γ1 => frzD (fun d Γ2 => lisK d fun ds => R ds Γ2) x Γ1 := rfl
theorem u_iTpl {δ : DE} {R : List D → DCtx → Prop} : iTpl δ Γ R = δ Γ fun x Γ1 => onT x fun ds => R ds Γ1 := rfl
theorem u_iTxt {δ : DE} {R : List D → DCtx → Prop} : iTxt δ Γ R = δ Γ fun x Γ1 => onS x fun w => R (w.map fun c => sD [c]) Γ1 := rfl
def one1 (xs : List DV) (k : DV → Prop) : Prop := ∃ x, xs = [x] ∧ k x
theorem u_one1 {k : DV → Prop} : one1 [x] k = k x := propext ⟨fun ⟨_, e, h⟩ => by cases e; exact h, fun h => ⟨_, rfl, h⟩⟩
def one2 (xs : List DV) (k : DV → DV → Prop) : Prop := ∃ x y, xs = [x, y] ∧ k x y
theorem u_one2 {k : DV → DV → Prop} : one2 [x, y] k = k x y := propext ⟨fun ⟨_, _, e, h⟩ => by cases e; exact h, fun h => ⟨_, _, rfl, h⟩⟩
theorem u_iRg1 {α : DA} {R : List D → DCtx → Prop} : iRg1 α Γ R = α Γ fun xs Γ1 => one1 xs fun x => onI x fun n => (-1000000000 ≤ n ∧ n ≤ 1000000000) ∧ R ((List.range n.toNat).map fun i => .int ((i : Nat) : Int)) Γ1 := by
  unfold iRg1 one1 onI
  congr 1; funext xs Γ1
  exact propext ⟨fun ⟨n, e, h⟩ => ⟨_, e, n, rfl, h⟩, fun ⟨_, e, n, e2, h⟩ => by subst e2; exact ⟨n, e, h⟩⟩
theorem u_iRg2 {α : DA} {R : List D → DCtx → Prop} : iRg2 α Γ R = α Γ fun xs Γ1 => one2 xs fun x y => onI x fun m => onI y fun n => (-1000000000 ≤ m ∧ m ≤ 1000000000 ∧ -1000000000 ≤ n ∧ n ≤ 1000000000) ∧ R ((List.range (n - m).toNat).map fun i => .int (m + ((i : Nat) : Int))) Γ1 := by
  unfold iRg2 one2 onI
  congr 1; funext xs Γ1
  exact propext ⟨fun ⟨m, n, e, h⟩ => ⟨_, _, e, m, rfl, n, rfl, h⟩, fun ⟨_, _, e, m, e2, n, e3, h⟩ => by subst e2 e3; exact ⟨m, n, e, h⟩⟩
theorem u_yes {R : Bool → DCtx → Prop} : dYes Γ R = R true Γ := rfl
theorem u_wipe0 : wipeC Γ [] = Γ := rfl
theorem u_wipe {v : Nat} {vs : List Nat} : wipeC Γ (v :: vs) = (wipeC Γ vs).set v none := rfl
theorem u_rest0 {Γ' : DCtx} : restore Γ Γ' [] = Γ' := rfl
theorem u_rest {Γ' : DCtx} {v : Nat} {vs : List Nat} : restore Γ Γ' (v :: vs) = (restore Γ Γ' vs).set v (Γ[v]?.join) := rfl
end
end DL

set_option Elab.async false
set_option linter.all false
set_option maxRecDepth 100000
set_option maxHeartbeats 2000000
set_option autoImplicit false
namespace DL
open PySem L2 PyProof.Rows
section
variable {X : Cx} {a b c e : Expr} {pos : Pos} {δa δb δc δe : DE} {ν : DN}
/-- a + b as a list of one's own -/
def nCat (δa δb : DE) : DN := fun Γ R => δa Γ fun x Γ1 => δb Γ1 fun y Γ2 => ∃ a b, Lq Γ2 x a ∧ Lq Γ2 y b ∧ a.length + b.length ≤ 1000000 ∧ R (.lst (a ++ b)) Γ2
theorem u_nCat {Γ : DCtx} {R : DOb → DCtx → Prop} : nCat δa δb Γ R = δa Γ fun x Γ1 => δb Γ1 fun y Γ2 => onLq Γ2 x fun a => onLq Γ2 y fun b => a.length + b.length ≤ 1000000 ∧ R (.lst (a ++ b)) Γ2 := by
  unfold nCat onLq
  congr 1; funext x Γ1; congr 1; funext y Γ2
  exact propext ⟨fun ⟨i, j, a, b, c⟩ => ⟨i, a, j, b, c⟩, fun ⟨i, a, j, b, c⟩ => ⟨i, j, a, b, c⟩⟩
theorem pdn_cat (h1 : PD X a δa) (h2 : PD X b δb) : PDN X (.BinOp a .Add b pos) (nCat δa δb) := match h1, h2 with
  | ⟨_, ha, sa⟩, ⟨_, hb, sb⟩ => ⟨_, pe_op op_catQ ha hb, fun B M Γ σ H H0 Q R k q ok => sa B M Γ σ H H0 _ _ k q fun v x Γ1 H1 H01 h1 s1 k1 r1 => sb B M Γ1 σ H1 H01 _ _ k1 h1 fun u y Γ2 H2 H02 ⟨da, db, e1, e2, hl, h2⟩ s2 k2 r2 => by
      obtain ⟨p, vs, rfl, hp, dv⟩ := lq_get k2 (rx_same s2 r1) e1
      obtain ⟨p', us, rfl, hp', du⟩ := lq_get k2 r2 e2
      refine ⟨p, p', vs, us, rfl, rfl, hp, hp', by rw [DpAll.length dv, DpAll.length du]; exact line_m hl, fun t ht => ?_⟩
      exact ok t (.lst (vs ++ us)) (.lst (da ++ db)) Γ2 _ _ h2 (s1.trans s2) (k2.base.free ht) ((k2.mm.trans k2.sub).free ht) (k2.newB ht) (.lst (DpAll.append dv du))⟩
end
section
variable {P : Program} {w : World} {K : PySem.W.Frag} {mg : Str → Option Value} {base : Heap}
/-- a def whose body is one return of a new list -/
theorem fnN {x qual : Str} {st : Stmt} {f : Addr} {fd : FuncData} {N ps : List Str} {k n m : Nat} {e : Expr} {pos : Pos} {F : List D → (List D → Prop) → Prop} (G : Fun K x qual st f fd) (S : FnScope N ps (defScope st)) (hn : ps.length = n) (hN : N.length = n + m) (hst : defBody st = [.Return (some e) pos])
    (hbody : ∀ (ds : List D) (Q : List D → Prop), ds.length = n → F ds Q → ∃ ν : DN, (∀ (cdv : Value) (A : Around) (outer : List Env) (s : Shared) (H : Hp) (E : XK), Room k (A.deeper (envOfC qual (defScope st) s.heap.objs.size f cdv)) →
      PDN (cxOf CX0 P w K mg base N qual (defScope st) f cdv A outer s H E).nox e ν) ∧
      ν (ds.map (fun d => some (DCell.val d)) ++ List.replicate m none) fun o _ => ∃ ts, o = .lst ts ∧ Q ts) : FnOk P w K mg base CX0 (k + 1) f fd ps (spN K n F) := by
  refine G.ok S (fun vs H Q E h => ?_) (fun cdv A outer s H vs Q E hr h => ?_)
  · obtain ⟨M, ds, _, _, hd, hl, _⟩ := h
    rw [DpAll.length hd, hl, hn]
  · obtain ⟨M, ds, sm, cl, hd, hl, hf⟩ := h
    obtain ⟨ν, pb, hb⟩ := hbody ds _ hl hf
    obtain ⟨t, pt, ss⟩ := pb cdv A outer s H E hr
    have k0 : Kn K H M (ds.map (fun d => some (DCell.val d)) ++ List.replicate m none) (start N vs) H M := by
      have := start_kn (N := N) (by rw [DpAll.length hd, hl, hN]; omega) sm cl hd
      rw [hl, hN, Nat.add_sub_cancel_left] at this
      exact this
    rw [hst]
    refine ⟨_, pss_one (ps_ret pt), ss H M _ _ H M _ _ k0 hb fun p h o Γ' H' H0' ⟨ts, e, q⟩ s' hB hM k' ok => ?_⟩
    subst e
    cases ok with
    | lst ok =>
      refine q p H' H0' _ hB (k'.base p _ upd_same) (k'.new p _ upd_same hM) (fun a o e => k'.base a o (by rw [upd_ne (fun z => by subst z; rw [hB] at e; cases e)]; exact e)) k'.mm k'.sub (fun a o e n => k'.new a o (by rw [upd_ne (fun z => by subst z; rw [hB] at e; cases e)]; exact e) n) k'.cl ok
end
end DL

set_option Elab.async false
set_option linter.all false
set_option maxRecDepth 100000
set_option maxHeartbeats 2000000
set_option autoImplicit false
/-! the same names as in DL for the readings with a heap (one def works with lists within a list) -/
namespace DLR
open PySem L2 PyProof.Rows DL
section
variable {X : Cx} {a b c e : Expr} {pos : Pos} {ta tb te : TE} {tc : TT}
theorem pd_var (i : Nat) {x : Str} {pos : Pos} (hN : X.N[i]? = some x := by rfl) (hv : Vis X.env.scope x := by first | exact Or.inl rfl | exact Or.inr (Or.inl rfl) | exact Or.inr (Or.inr rfl)) (hd : (x == ("__debug__" : Str)) = false := by decide)
    (hcd : (x == ("__classdict__" : Str)) = false := by decide) : PE X (.Name x pos) (tVar i) := pe_var hN hv hd hcd
theorem pd_int {i : Int} {j : Nat} {pos : Pos} : PE X (.Constant (.int i) j pos) (tC (.int i)) := pe_int
theorem pd_op {op : Operator} {r : R2} {ρ : DR2} (ho : OpR X (binaryOp op) r) (hs : RSim2 X.K r ρ) (h1 : PE X a ta) (h2 : PE X b tb) : PE X (.BinOp a op b pos) (tOp r ta tb) := pe_op ho h1 h2
theorem pd_cmp {op : CmpOp} {r : R2} {ρ : DR2} (ho : OpR X (compareOp op) r) (hs : RSim2 X.K r ρ) (hm : behindInMarks op b = false) (h1 : PE X a ta) (h2 : PE X b tb) : PE X (.Compare a [op] [b] pos) (tOp r ta tb) := pe_cmpR ho h1 h2 hm
theorem pd_ix {r : R2} {ρ : DR2} (ho : IxR X r) (hs : RSim2 X.K r ρ) (hp : PlainIx b) (h1 : PE X a ta) (h2 : PE X b tb) : PE X (.Subscript a b pos) (tOp r ta tb) := pe_ix ho h1 h2 hp
theorem pdt_cmp {op : CmpOp} {r : R2} {ρ : DR2} (ho : OpR X (compareOp op) r) (hs : RSim2 X.K r ρ) (hm : behindInMarks op b = false) (h1 : PE X a ta) (h2 : PE X b tb) : PT X (.Compare a [op] [b] pos) (tTest (tOp r ta tb)) := pt_cmpR ho h1 h2 hm
theorem pdt_val (he : ∀ whole, isTrue e X.env whole = (do let v ← whole; standAt e.pos; holding [v] (truthy v)) := by intro _; rfl) (h1 : PE X e te) : PT X e (tB te) := pt_val h1 he
theorem pd_not (h1 : PE X a ta) : PE X (.UnaryOp .Not a pos) (tNotV ta) := pe_not h1
theorem pd_ifExp (h1 : PT X c tc) (h2 : PE X a ta) (h3 : PE X b tb) : PE X (.IfExp c a b pos) (tIf tc ta tb) := pe_ifExp h1 h2 h3
theorem PDW.pt {t : TT} (h : PW X e t) : PT X e t := h.pt
theorem pdw_and1 {t : TT} (h1 : PT X a t) : PW X (.BoolOp .And [a] pos) t := pw_and1 h1
theorem pdw_or1 {t : TT} (h1 : PT X a t) : PW X (.BoolOp .Or [a] pos) t := pw_or1 h1
theorem pdw_and {t u : TT} {rest : List Expr} (h1 : PT X a t) (h2 : PW X (.BoolOp .And (b :: rest) pos) u) : PW X (.BoolOp .And (a :: b :: rest) pos) (tAnd t u) := pw_and h1 h2
theorem pdw_or {t u : TT} {rest : List Expr} (h1 : PT X a t) (h2 : PW X (.BoolOp .Or (b :: rest) pos) u) : PW X (.BoolOp .Or (a :: b :: rest) pos) (tOr t u) := pw_or h1 h2
theorem pda_nil : PA X [] tNil := pa_nil
theorem pda_cons {es : List Expr} {t : TA} (hs : starEach (e :: es) X.env = (false, eval e X.env) :: starEach es X.env := by rfl) (h1 : PE X e te) (h2 : PA X es t) : PA X (e :: es) (tCons te t) := pa_cons h1 h2 hs
theorem pd_tup {es : List Expr} {t : TA} {x1 : Nat} (h1 : PA X es t) : PE X (.Tuple es x1 pos) (tTup t) := pe_tup h1
theorem pd_callB {x : Str} {p : Pos} {id : String} {r : List V → Hp → VK → Prop} {ρ : DRC} {es : List Expr} {α : TA} (hc : CallR X (.builtin id) r) (hs : CSim X.K r ρ) (hg : Gl X x) (hm : X.mg x = none) (hv : bootBuiltins x = some (.builtin id))
    (hst : starEach (e :: es) X.env = (false, eval e X.env) :: starEach es X.env := by rfl) (hn : x ≠ "__name__" := by decide) (hd : (x == ("__debug__" : Str)) = false := by decide) (hp : (backTo pos (starEach es X.env)).any (·.1) = false := by rfl) (h1 : PA X (e :: es) α) : PE X (.Call (.Name x p) (e :: es) [] pos) (tCB r α) := pe_callB hc hg hm hv h1 hn hd hst hp
theorem pd_callTy {x : Str} {p : Pos} {ty : String} {r : List V → Hp → VK → Prop} {ρ : DRC} {es : List Expr} {α : TA} (hc : CallR X (.type ty) r) (hs : CSim X.K r ρ) (hg : Gl X x) (hm : X.mg x = none) (hv : bootBuiltins x = some (.type ty))
    (hst : starEach (e :: es) X.env = (false, eval e X.env) :: starEach es X.env := by rfl) (hn : x ≠ "__name__" := by decide) (hd : (x == ("__debug__" : Str)) = false := by decide) (hp : (backTo pos (starEach es X.env)).any (·.1) = false := by rfl) (h1 : PA X (e :: es) α) : PE X (.Call (.Name x p) (e :: es) [] pos) (tCB r α) := pe_callTy hc hg hm hv h1 hn hd hst hp
theorem pd_frz (h : PE X e te) : PE X e te := h
theorem pdn_rep {p1 : Pos} (hst : starEach [a] X.env = (false, eval a X.env) :: starEach [] X.env := by rfl) (h1 : PE X a ta) (h2 : PE X b tb) : PE X (.BinOp (.List [a] p1) .Mult b pos) (tOp rRep (tLst (tCons ta tNil)) tb) := pe_op op_rep (pe_lst (pa_cons h1 pa_nil hst)) h2
theorem pdn_dict : PE X (.Dict [] [] pos) tDNewK := pe_dnewK
theorem pd_get2 {o f : Expr} {to tf : TE} {apos : Pos} (hu : X.A.units + 1 < cLine) (m : M2 X o "get" apos e f pos) (h1 : PE X o to) (h2 : PE X e te) (h3 : PE X f tf) : PE X (.Call (.Attribute o "get" apos) [e, f] [] pos) (tDGet2 to te tf) := pe_dget2 hu h1 h2 h3 m
theorem pdss_nil : PSs X [] tNext := pss_nil
theorem pdss_cons {st : Stmt} {rest : List Stmt} {t u : TS} (h1 : PS X st t) (h2 : PSs X rest u) : PSs X (st :: rest) (tSeq t u) := pss_cons h1 h2
theorem pdss_one {st : Stmt} {t : TS} (h1 : PS X st t) : PSs X [st] t := pss_one h1
theorem pds_ret (h1 : PE X e te) : PS X (.Return (some e) pos) (tRet te) := ps_ret h1
theorem pds_if {sa sb : List Stmt} {t u : TS} (h1 : PT X c tc) (h2 : PSs X sa t) (h3 : PSs X sb u) : PS X (.If c sa sb pos) (tIfS tc t u) := ps_if h1 h2 h3
theorem pdg_name {i : Nat} {x : Str} (hN : X.N.Nodup) (hi : X.N[i]? = some x := by rfl) (hx : Loc X.env.scope x := by first | exact Or.inl rfl | exact Or.inr rfl) (hf : X.fn x = true ∨ X.env.scope.names.lookup x = some .local := by first | exact .inl rfl | exact .inr rfl) : PG X (.Name x pos) (gName i) := pg_name hN hi hx hf
theorem pdgv_name {i : Nat} {x : Str} (hN : X.N.Nodup) (hi : X.N[i]? = some x := by rfl) (hx : Loc X.env.scope x := by first | exact Or.inl rfl | exact Or.inr rfl) (hf : X.fn x = true ∨ X.env.scope.names.lookup x = some .local := by first | exact .inl rfl | exact .inr rfl) : PG X (.Name x pos) (gName i) := pg_name hN hi hx hf
theorem pdgs_nil : PGs X [] gNil := pgs_nil
theorem pdgs_cons {es : List Expr} {t : TG} {u : TGs} (hs : (assignEach (e :: es) X.env).map (·.2) = assign e X.env :: (assignEach es X.env).map (·.2) := by rfl) (h1 : PG X e t) (h2 : PGs X es u) : PGs X (e :: es) (gCons t u) := pgs_cons h1 h2 hs
theorem pdg_tup {es : List Expr} {k : Nat} {t : TGs} {n : Nat} (hc : X.calm = true) (hn : (assignEach es X.env).length = n := by rfl) (hst : (assignEach es X.env).findIdx? (·.1) = none := by rfl) (h1 : PGs X es t) : PG X (.Tuple es k pos) (gTup X.K n t) := pg_tup hc h1 hn hst
theorem pds_asg {tg : Expr} {g : TG} (hs : swapsWithSole [tg] e pos.line X.env = pure false := by rfl) (hw : swappedStores [tg] e X.env = pure none := by rfl) (hae : (assignEach [tg] X.env).map (·.2) = [assign tg X.env] := by rfl) (h1 : PE X e te) (h2 : PG X tg g) : PS X (.Assign [tg] e pos) (tAsg te g) := ps_asg h1 h2 hs hw hae
theorem pds_set {i : Nat} {x : Str} {pos' : Pos} (hN : X.N.Nodup) (hi : X.N[i]? = some x := by rfl) (hx : Loc X.env.scope x := by first | exact Or.inl rfl | exact Or.inr rfl) (hs : swapsWith e (some (.Name x pos')) pos.line X.env = pure false := by rfl) (hf : X.fn x = true ∨ X.env.scope.names.lookup x = some .local := by first | exact .inl rfl | exact .inr rfl) (h1 : PE X e te) : PS X (.Assign [.Name x pos'] e pos) (tAsg te (gName i)) := ps_set hN hi hx h1 hs hf
theorem pds_setN {i : Nat} {x : Str} {pos' : Pos} (hN : X.N.Nodup) (hi : X.N[i]? = some x := by rfl) (hx : Loc X.env.scope x := by first | exact Or.inl rfl | exact Or.inr rfl) (hs : swapsWith e (some (.Name x pos')) pos.line X.env = pure false := by rfl) (hf : X.fn x = true ∨ X.env.scope.names.lookup x = some .local := by first | exact .inl rfl | exact .inr rfl) (h1 : PE X e te) : PS X (.Assign [.Name x pos'] e pos) (tAsg te (gName i)) := ps_set hN hi hx h1 hs hf
theorem pds_par {i j : Nat} {x y : Str} {α : TA} {px py pt : Pos} {kt k2 : Nat} {pt2 : Pos} (hc : X.calm = true) (hN : X.N.Nodup) (hi : X.N[i]? = some x := by rfl) (hj : X.N[j]? = some y := by rfl) (hij : i ≠ j := by decide)
    (hx : X.env.scope.names.lookup x = some .local := by rfl) (hy : X.env.scope.names.lookup y = some .local := by rfl) 
    (hw : swappedStores [.Tuple [.Name x px, .Name y py] kt pt] (.Tuple [a, b] k2 pt2) X.env = pure (some [x, y]) := by rfl)
    (hs : swapsWithSole [.Tuple [.Name x px, .Name y py] kt pt] (.Tuple [a, b] k2 pt2) pos.line X.env = pure false := by rfl) (h1 : PA X [a, b] α) : PS X (.Assign [.Tuple [.Name x px, .Name y py] kt pt] (.Tuple [a, b] k2 pt2) pos) (tPar i j α) := ps_par hc hN hi hj hij hx hy h1 hw hs
theorem pds_putL {o i v : Expr} {to ti tv : TE} {tpos : Pos} (hs : swapsWithSole [.Subscript o i tpos] v pos.line X.env = pure false := by rfl) (hw : swappedStores [.Subscript o i tpos] v X.env = pure none := by rfl) (hae : (assignEach [.Subscript o i tpos] X.env).map (·.2) = [assign (.Subscript o i tpos) X.env] := by rfl)
    (ha : ∀ v, assign (.Subscript o i tpos) X.env v = (do
      let ov ← holding [v] (eval o X.env)
      let iv ← holding [v, ov] (eval i X.env)
      standAt tpos
      holding [v, ov, iv] (setItem ov iv v)
      release [v, ov, iv] []) := by intro _; rfl) (h1 : PE X v tv) (h2 : PE X o to) (h3 : PE X i ti) : PS X (.Assign [.Subscript o i tpos] v pos) (tAsg tv (gSub to ti rSetL)) := ps_asg h1 (pg_sub h2 h3 set_list ha) hs hw hae
theorem pds_putD {o i v : Expr} {to ti tv : TE} {tpos : Pos} (hu : X.A.units + 1 < cLine) (hs : swapsWith v (some (.Subscript o i tpos)) pos.line X.env = pure false := by rfl) (h1 : PE X v tv) (h2 : PE X o to) (h3 : PE X i ti) : PS X (.Assign [.Subscript o i tpos] v pos) (sDPut to ti tv) := ps_dput hu h2 h3 h1 hs
theorem pdi_range1 {tg : Expr} {α : TA} {p : Pos} (hg : Gl X "range") (hm : X.mg "range" = none) (hs : starEach [a] X.env = [(false, eval a X.env)] := by rfl) (h1 : PA X [a] α) : PI X tg (.Call (.Name "range" p) [a] [] pos) (iRng1 α) := pi_range1 hg hm h1 hs
theorem pds_for {tg iter : Expr} {body : List Stmt} {ι : TI} {γ : TG} {β : TS} (hp : PassesOwn (model X.prog X.w) X.A X.env X.xe) (hc : X.calm = true) (hs : ∀ x, foldedSetIterable iter X.env x = pure x := by intro _; rfl) (h1 : PI X tg iter ι) (h2 : PG X tg γ) (h3 : PSs X body β) : PS X (.For tg iter body [] pos) (tFor ι γ β) := ps_for hp hc h1 h2 h3 hs
theorem pdts_nil : PTs X [] tYes := pts_nil
theorem pds_lcN {i : Nat} {y : Str} {py spos : Pos} {elt tg iter : Expr} {ifs : List Expr} {scope : Scope} {own : List (Str × Nat)} {vs : List Nat} {wi : TI} {g : TG} {tt : TT} {te : TE} (hc : X.calm = true) (hN : X.N.Nodup) (hy : X.N[i]? = some y) (hyl : X.env.scope.names.lookup y = some .local)
    (hsw : swapsWith (.ListComp elt [⟨tg, iter, ifs, 0⟩] scope pos) (some (.Name y py)) spos.line X.env = pure true) (hv : own.map (·.2) = vs) (hi : PI X tg iter wi) (ok : BlkOk X.N X.env.scope scope own)
    (hg : ∀ (s : Shared) (H : Hp) (C : Addr) (cl : List (Str × Addr)) (fp : List Addr), PG (X.blk s H scope (compEnvC scope cl C X.env) fp) tg g) (ht : ∀ (s : Shared) (H : Hp) (C : Addr) (cl : List (Str × Addr)) (fp : List Addr), PTs (X.blk s H scope (compEnvC scope cl C X.env) fp) ifs tt)
    (he : ∀ (s : Shared) (H : Hp) (C : Addr) (cl : List (Str × Addr)) (fp : List Addr), PE (X.blk s H scope (compEnvC scope cl C X.env) fp) elt te) (hs : ∀ x, foldedSetIterable iter X.env x = pure x := by intro _; rfl) :
    PS X (.Assign [.Name y py] (.ListComp elt [⟨tg, iter, ifs, 0⟩] scope pos) spos) (tAsg (tLc wi g tt te vs) (gName i)) := by
  subst hv
  exact ps_setLc hc hN hy hyl hsw hi ok hg ht he hs
end
/-! evaluation from the outside -/
section
variable {σ : L2.St} {H : Hp} {Q : VK} {i j : Nat} {ta tb tc : TE} {D₀ : Ends}
def lkR (l : L2.St) (j : Nat) (k : V → Prop) : Prop := ∃ v, l[j]? = some (some v) ∧ k v
theorem r_lk_s {a : Option V} {l : L2.St} {k : V → Prop} : lkR (a :: l) (j + 1) k = lkR l j k := by unfold lkR; simp only [List.getElem?_cons_succ]
theorem r_lk_0 {c : V} {l : L2.St} {k : V → Prop} : lkR (some c :: l) 0 k = k c := by unfold lkR; simp
def vI (x : V) (k : Int → Prop) : Prop := ∃ i, x = .int i ∧ k i
theorem r_vI {i : Int} {k : Int → Prop} : vI (.int i) k = k i := by unfold vI; simp
def vB (x : V) (k : Bool → Prop) : Prop := ∃ i, x = .bl i ∧ k i
theorem r_vB {i : Bool} {k : Bool → Prop} : vB (.bl i) k = k i := by unfold vB; simp
theorem r_var : tVar i σ H Q = lkR σ i fun v => Q v H := rfl
theorem r_c {v : V} : tC v σ H Q = Q v H := rfl
theorem r_op {r : R2} : tOp r ta tb σ H Q = ta σ H fun x H1 => tb σ H1 fun y H2 => r x y H2 Q := rfl
theorem r_I0 {g : Int → Int → V} {x y : V} : rI0 g x y H Q = vI x fun i => vI y fun j => Q (g i j) H := propext ⟨fun ⟨i, j, a, b, c⟩ => ⟨i, a, j, b, c⟩, fun ⟨i, a, j, b, c⟩ => ⟨i, j, a, b, c⟩⟩
theorem r_eqI {i j : Int} : rEq (.int i) (.int j) H Q = Q (.bl (decide (i = j))) H := by
  unfold rEq
  have : (decide (V.int i = V.int j)) = decide (i = j) := by simp
  rw [this]
  exact propext ⟨fun h => h.2, fun h => ⟨rfl, h⟩⟩
theorem r_eqS {i j : Str} : rEq (.str i) (.str j) H Q = Q (.bl (decide (i = j))) H := by
  unfold rEq
  have : (decide (V.str i = V.str j)) = decide (i = j) := by simp
  rw [this]
  exact propext ⟨fun h => h.2, fun h => ⟨rfl, h⟩⟩
theorem r_test {t : TE} {Q : Bool → Hp → Prop} : tTest t σ H Q = t σ H fun x H' => vB x fun k => Q k H' := rfl
theorem r_tB {t : TE} {Q : Bool → Hp → Prop} : tB t σ H Q = t σ H fun x H' => vB x fun k => Q k H' := rfl
theorem r_notV : tNotV ta σ H Q = ta σ H fun x H1 => vB x fun c => Q (.bl (!c)) H1 := rfl
theorem r_if {t : TT} : tIf t ta tb σ H Q = t σ H fun c H1 => if c = true then ta σ H1 Q else tb σ H1 Q := rfl
theorem r_and {t u : TT} {Q : Bool → Hp → Prop} : tAnd t u σ H Q = t σ H fun c H1 => if c = true then u σ H1 Q else Q false H1 := rfl
theorem r_or {t u : TT} {Q : Bool → Hp → Prop} : tOr t u σ H Q = t σ H fun c H1 => if c = true then Q true H1 else u σ H1 Q := rfl
theorem r_nil {Q : List V → Hp → Prop} : tNil σ H Q = Q [] H := rfl
theorem r_cons {t : TA} {Q : List V → Hp → Prop} : tCons ta t σ H Q = ta σ H fun x H1 => t σ H1 fun xs H2 => Q (x :: xs) H2 := rfl
theorem r_tup {t : TA} : tTup t σ H Q = t σ H fun xs H1 => xs.length ≤ sizeLine ∧ ∀ p, H1 p = none → Q (.ref p) (upd H1 p (.tup xs)) := rfl
theorem r_lst {t : TA} : tLst t σ H Q = t σ H fun xs H1 => xs.length ≤ sizeLine ∧ ∀ p, H1 p = none → Q (.ref p) (upd H1 p (.lst xs)) := rfl
theorem r_cb {r : List V → Hp → VK → Prop} {t : TA} : tCB r t σ H Q = t σ H fun vs H1 => r vs H1 Q := rfl
theorem r_next : tNext D₀ σ H = D₀.nx σ H := rfl
theorem r_seq {t u : TS} : tSeq t u D₀ σ H = t { D₀ with nx := u D₀ } σ H := rfl
theorem r_ret : tRet ta D₀ σ H = ta σ H D₀.rt := rfl
theorem r_ifS {c : TT} {t u : TS} : tIfS c t u D₀ σ H = c σ H fun b H1 => if b = true then t D₀ σ H1 else u D₀ σ H1 := rfl
theorem r_asg {g : TG} : tAsg ta g D₀ σ H = ta σ H fun x H1 => g x σ H1 D₀.nx := rfl
def stK (l : L2.St) (i : Nat) (v : Option V) (k : L2.St → Prop) : Prop := k (l.set i v)
theorem r_st_s {a : Option V} {l : L2.St} {c : Option V} {k : L2.St → Prop} : stK (a :: l) (i + 1) c k = stK l i c fun l' => k (a :: l') := rfl
theorem r_st_0 {a : Option V} {l : L2.St} {c : Option V} {k : L2.St → Prop} : stK (a :: l) 0 c k = k (c :: l) := rfl
theorem r_gName {v : V} {Q : L2.St → Hp → Prop} : gName i v σ H Q = stK σ i (some v) fun l => Q l H := rfl
theorem r_par {t : TA} : tPar i j t D₀ σ H = t σ H fun vs H1 => ∃ v w, vs = [v, w] ∧ stK σ i (some v) fun l => stK l j (some w) fun l' => D₀.nx l' H1 := rfl
theorem r_gSub {to ti : TE} {t : TSet} {v : V} {Q : L2.St → Hp → Prop} : gSub to ti t v σ H Q = to σ H fun o H1 => ti σ H1 fun i H2 => t o i v H2 fun H3 => Q σ H3 := rfl
theorem r_dput {td ty tv : TE} : sDPut td ty tv D₀ σ H = tv σ H fun v H1 => td σ H1 fun x H2 => ty σ H2 fun y H3 => ∃ a H4, x = .ref a ∧ DPut H3 a y v H4 ∧ D₀.nx σ H4 := rfl
theorem r_gCons {t : TG} {u : TGs} {v : V} {r : List V} {Q : L2.St → Hp → Prop} : gCons t u (v :: r) σ H Q = t v σ H fun σ' H' => u r σ' H' Q := by
  unfold gCons
  exact propext ⟨fun ⟨v', r', e, h⟩ => by cases e; exact h, fun h => ⟨v, r, rfl, h⟩⟩
theorem r_gNil {Q : L2.St → Hp → Prop} : gNil [] σ H Q = Q σ H := by unfold gNil; simp
theorem r_rng {t : TA} {R : It → Hp → Prop} : iRng1 t σ H R = t σ H fun vs H1 => ∃ j : Int, vs = [.int j] ∧ -(2 ^ 62) ≤ j ∧ j < 2 ^ 62 ∧ R (Itr 0 j.toNat) H1 := rfl
theorem r_dnew : tDNewK σ H Q = ∀ p, H p = none → Q (.ref p) (upd H p (.dK [])) := rfl
theorem r_yes {Q : Bool → Hp → Prop} : tYes σ H Q = Q true H := rfl
theorem r_wipe0 : wipe σ [] = σ := rfl
theorem r_wipe {v : Nat} {vs : List Nat} : wipe σ (v :: vs) = (wipe σ vs).set v none := rfl
theorem r_dget2 {td ty tx : TE} : tDGet2 td ty tx σ H Q = td σ H fun x H1 => ∃ a, x = .ref a ∧ IsD H1 a ∧ ty σ H1 fun y H2 => tx σ H2 fun z H3 => ∃ o, DGet H3 a y o ∧ Q (o.getD z) H3 := rfl
def lcR (g : TG) (tt : TT) (te : TE) (vs : List Nat) (σ : L2.St) (Q : VK) (J : It) (H1 : Hp) : Prop := ∀ D, H1 D = none → ∃ W : Nat → Nat → Hp → Prop, (∃ m, W 0 m (upd H1 D (.lst []))) ∧ ∀ i m H, W i m H →
  (J.stop i H ∧ Q (.ref D) H) ∨ (J.go i H ∧ ∃ Nx : Hp → Prop, (∀ H', Nx H' → ∃ m', m' < m ∧ W (i + 1) m' H') ∧ ∀ x H', J.yld i H x H' → g x (wipe σ vs) H' fun σ2 H2 => wipe σ2 vs = wipe σ vs ∧ tt σ2 H2 fun b H3 =>
    if b = true then te σ2 H3 fun y H4 => ∃ acc, H4 D = some (.lst acc) ∧ acc.length < sizeLine ∧ Nx (upd H4 D (.lst (acc ++ [y]))) else Nx H3)
theorem r_lc {wi : TI} {g : TG} {tt : TT} {te : TE} {vs : List Nat} : tLc wi g tt te vs σ H Q = wi σ H (lcR g tt te vs σ Q) := rfl
def forR (g : TG) (tb : TS) (D₀ : Ends) (σ : L2.St) (J : It) (H1 : Hp) : Prop := ∃ W : Nat → Nat → L2.St → Hp → Prop, (∃ m, W 0 m σ H1) ∧ ∀ i m σ H, W i m σ H →
  (J.stop i H ∧ D₀.nx σ H) ∨ (J.go i H ∧ ∃ N : L2.St → Hp → Prop, (∀ σ' H', N σ' H' → ∃ m', m' < m ∧ W (i + 1) m' σ' H') ∧ ∀ x H', J.yld i H x H' → g x σ H' fun σ2 H2 => tb { D₀ with nx := N, ct := N, bk := D₀.nx } σ2 H2)
theorem r_for {wi : TI} {g : TG} {tb : TS} : tFor wi g tb D₀ σ H = wi σ H (forR g tb D₀ σ) := rfl
end
/-! ### lists of numbers within a list -/
theorem nodup_at {α : Type} {l : List α} (h : l.Nodup) {i j : Nat} (hi : i < l.length) (hj : j < l.length) (e : l[i] = l[j]) : i = j := by
  have key : ∀ a b : Nat, (ha : a < l.length) → (hb : b < l.length) → a < b → l[a] ≠ l[b] := fun a b ha hb hab => List.pairwise_iff_getElem.mp h a b ha hb hab
  rcases Nat.lt_trichotomy i j with h1 | h1 | h1
  · exact absurd e (key i j hi hj h1)
  · exact h1
  · exact absurd e.symm (key j i hj hi h1)
structure Mat (H0 H : Hp) (p : Addr) (qs : List Addr) (rows : List (List Int)) : Prop where
  top : H p = some (.lst (qs.map .ref))
  len : rows.length = qs.length
  row : ∀ (k : Nat) q r, qs[k]? = some q → rows[k]? = some r → H q = some (.lst (r.map .int))
  nd : qs.Nodup
  np : p ∉ qs
  fr : H0 p = none
  fq : ∀ q ∈ qs, H0 q = none
  same : Same H0 H
theorem upd_at {H : Hp} {p : Addr} {o : HO} : upd H p o p = some o := upd_same
theorem Mat.new {H0 H : Hp} {p : Addr} {qs : List Addr} {rows : List (List Int)} (m : Mat H0 H p qs rows) {l : Addr} {o : HO} (hl : l ≠ p) (hq : l ∉ qs) (h0 : H0 l = none) : Mat H0 (upd H l o) p qs rows := by
  refine ⟨by rw [upd_ne (Ne.symm hl)]; exact m.top, m.len, fun k q r e1 e2 => ?_, m.nd, m.np, m.fr, m.fq, fun a x e => ?_⟩
  · rw [upd_ne (fun z => hq (by rw [← z]; exact List.mem_of_getElem? e1))]; exact m.row k q r e1 e2
  · rw [upd_ne (fun z => by rw [z, h0] at e; cases e)]; exact m.same a x e
theorem Mat.off {H0 H : Hp} {p : Addr} {qs : List Addr} {rows : List (List Int)} (m : Mat H0 H p qs rows) {l : Addr} (hl : H l = none) : l ≠ p ∧ l ∉ qs ∧ H0 l = none := by
  refine ⟨(fun z => by rw [z, m.top] at hl; cases hl), fun z => ?_, ?_⟩
  · obtain ⟨k, hk, e⟩ := List.mem_iff_getElem.mp z
    have e1 : qs[k]? = some l := by rw [List.getElem?_eq_getElem hk, e]
    have hk2 : k < rows.length := by rw [m.len]; exact hk
    have := m.row k l rows[k] e1 (List.getElem?_eq_getElem hk2)
    rw [this] at hl; cases hl
  · cases e : H0 l with
    | none => rfl
    | some o => rw [m.same l o e] at hl; cases hl
theorem rIx_list {K : PySem.W.Frag} {H : Hp} {Q : VK} {p : Addr} {xs : List V} {i : Nat} {v : V} (hp : H p = some (.lst xs)) (e : xs[i]? = some v) (h : Q v H) : rIx K (.ref p) (.int (i : Int)) H Q := .inl ⟨p, xs, i, v, rfl, rfl, .inl (.inl hp), atI_nat e, h⟩
theorem ixS {H : Hp} {Q : VK} {a : List Nat} {i c : Nat} (ha : a.length ≤ 1000) (e : a[i]? = some c) (h : Q (.str (T [c])) H) : rIxS (.str (T a)) (.int (i : Int)) H Q := ⟨T a, i, c, rfl, rfl, by rw [T_len]; exact Nat.le_trans ha (by decide), show atI a (i : Int) = some c from atI_nat e, h⟩
theorem Mat.get {K : PySem.W.Frag} {H0 H : Hp} {p : Addr} {qs : List Addr} {rows : List (List Int)} (m : Mat H0 H p qs rows) {i j : Nat} {r : List Int} {x : Int} {Q : VK} (e1 : rows[i]? = some r) (e2 : r[j]? = some x) (h : Q (.int x) H) :
    rIx K (.ref p) (.int (i : Int)) H fun v H1 => rIx K v (.int (j : Int)) H1 Q := by
  have hi : i < qs.length := by rw [← m.len]; exact (List.getElem?_eq_some_iff.mp e1).1
  have e3 : qs[i]? = some qs[i] := List.getElem?_eq_getElem hi
  refine rIx_list m.top (v := .ref qs[i]) (by rw [List.getElem?_map, e3]; rfl) ?_
  exact rIx_list (m.row i _ r e3 e1) (v := .int x) (by rw [List.getElem?_map, e2]; rfl) h
theorem Mat.put {K : PySem.W.Frag} {H0 H : Hp} {p : Addr} {qs : List Addr} {rows : List (List Int)} (m : Mat H0 H p qs rows) {i j : Nat} {r : List Int} {x : Int} {Q : Hp → Prop} (e1 : rows[i]? = some r) (hj : j < r.length)
    (h : ∀ H', (∀ a, a ≠ p → a ∉ qs → H' a = H a) → Mat H0 H' p qs (rows.set i (r.set j x)) → Q H') :
    rIx K (.ref p) (.int (i : Int)) H fun v H1 => rSetL v (.int (j : Int)) (.int x) H1 Q := by
  have hi : i < qs.length := by rw [← m.len]; exact (List.getElem?_eq_some_iff.mp e1).1
  have e3 : qs[i]? = some qs[i] := List.getElem?_eq_getElem hi
  refine rIx_list m.top (v := .ref qs[i]) (by rw [List.getElem?_map, e3]; rfl) ?_
  have hq := m.row i _ r e3 e1
  have ix : ixN (r.map V.int).length (j : Int) = some j := by
    unfold ixN
    rw [if_pos (by omega), if_pos (by simp; omega)]
    rfl
  refine ⟨qs[i], r.map .int, j, j, rfl, rfl, hq, ix, h _ (fun a h1 h2 => ?_) ?_⟩
  · exact upd_ne (fun z => h2 (by rw [z]; exact List.getElem_mem hi))
  · have hm : qs[i] ∈ qs := List.getElem_mem hi
    refine ⟨?_, by rw [List.length_set]; exact m.len, fun k q r' f1 f2 => ?_, m.nd, m.np, m.fr, m.fq, fun a o e => ?_⟩
    · rw [upd_ne (fun z => m.np (by rw [z]; exact hm))]; exact m.top
    · by_cases hk : k = i
      · subst hk
        rw [e3] at f1; cases f1
        have hr : k < rows.length := by rw [m.len]; exact hi
        rw [List.getElem?_set_self hr] at f2; cases f2
        rw [upd_same, ← List.map_set]
      · rw [List.getElem?_set_ne (Ne.symm hk)] at f2
        have : q ≠ qs[i] := fun z => by
          have hk2 : k < qs.length := (List.getElem?_eq_some_iff.mp f1).1
          have e5 : qs[k] = qs[i] := by rw [List.getElem?_eq_getElem hk2] at f1; rw [← z]; exact Option.some.inj f1
          exact hk (nodup_at m.nd hk2 hi e5)
        rw [upd_ne this]
        exact m.row k q r' f1 f2
    · rw [upd_ne (fun z => by rw [z, m.fq _ hm] at e; cases e)]; exact m.same a o e
end DLR

set_option Elab.async false
set_option linter.all false
set_option maxRecDepth 100000
set_option maxHeartbeats 2000000
set_option autoImplicit false
namespace DL
open PySem PySem.Spec L2 PyProof.Rows
/-! ### enumerate(text) -/
def Ies (x : Str) : It :=
  ⟨fun i _ => i < x.cps.size, fun i H v H' => ∃ T o c, v = .ref T ∧ H T = none ∧ H' = upd H T (.frz o (.tup [.int (i : Nat), .str ⟨#[c]⟩])) ∧ o.dict = none ∧ x.cps[i]? = some c, fun i _ => i = x.cps.size⟩
theorem turn_enumS {P : Program} {w : World} {K : PySem.W.Frag} {elts : List Expr} {kk : Nat} {tpos : Pos} (x : Str) (t : Tok) (e it : Addr) :
    Turn P w K (.Tuple elts kk tpos) (Ies x) [e, it] e (fun i h => (∃ old, IsEnum h e it ((i : Nat) : Int) old) ∧ h.IsStrIter it (strIterType x) x t i ∧ e ≠ it) where
  mem := by simp
  obj := fun i h st b hb => by
    obtain ⟨⟨old, he⟩, ⟨o, ho, hc, hd⟩, _⟩ := st
    have e' : b = e ∨ b = it := by simpa using hb
    rcases e' with z | z
    · rw [z]; exact ⟨_, he, fun v q => nomatch q⟩
    · rw [z]; exact ⟨o, ho, fun v q => by rw [hd] at q; cases q⟩
  keep := fun i h h' st k => by
    obtain ⟨⟨old, he⟩, ⟨o, ho, r⟩, hne⟩ := st
    exact ⟨⟨old, k e (by simp) _ he⟩, ⟨o, k it (by simp) o ho, r⟩, hne⟩
  item := by
    intro X hP hw hK hc i pins s σ H E I hf st hg
    subst hP hw hK
    obtain ⟨⟨old, he⟩, hit, hne⟩ := st
    have hel : e < s.heap.objs.size := Heap.lt_size he
    have hil : it < s.heap.objs.size := by obtain ⟨_, q, _⟩ := hit; exact Heap.lt_size q
    have D : Draws X.prog X.w X.A.in1 it [it] x.cps.size (fun i v => ∃ c u, x.cps[i]? = some c ∧ v = .str ⟨#[c]⟩ u) (fun i h => h.IsStrIter it (strIterType x) x t i) := Draws.text (A := X.A.in1) (show X.A.in1.handled = none from I.ok.hd hc) it x t
    refine wpAny_pyNext_enum_itemC D he hit hg hne (by simpa using hne) fun u h' tk ⟨c, u', hcx, eu⟩ ho hit' hT hsz hk => ?_
    subst eu
    refine ⟨_, rfl, wpAny_letOwnedTupleGo_enum (s := { s with heap := h', toks := tk + 1 }) ho fun h'' he' sb => ?_⟩
    have hT2 : h''.get? s.heap.objs.size = some { cls := .type "tuple", data := .seq #[.int i tk, .str ⟨#[c]⟩ u'] } := (sb.2 _ (Nat.ne_of_gt hel)).trans hT
    have new : ObjOk X.prog X.w (upd H s.heap.objs.size (.frz { cls := .type "tuple", data := .seq #[.int i tk, .str ⟨#[c]⟩ u'] } (.tup [.int (i : Nat), .str ⟨#[c]⟩]))) h'' s.heap.objs.size (.frz { cls := .type "tuple", data := .seq #[.int i tk, .str ⟨#[c]⟩ u'] } (.tup [.int (i : Nat), .str ⟨#[c]⟩])) :=
      ⟨hT2, by show 2 ≤ sizeLine; decide, [.int i tk, .str ⟨#[c]⟩ u'], .cons ⟨_, rfl⟩ (.cons ⟨_, rfl⟩ .nil), ⟨_, hT2, rfl, _, rfl⟩⟩
    have I1 : Inv X pins σ (upd H s.heap.objs.size (.frz { cls := .type "tuple", data := .seq #[.int i tk, .str ⟨#[c]⟩ u'] } (.tup [.int (i : Nat), .str ⟨#[c]⟩]))) { s with heap := h'', toks := tk + 1 } :=
      I.turnedNew (ch := [e, it]) (fun b ob hb q => (sb.2 b (fun z => hb (by simp [z]))).trans (hk b ob (fun z => hb (by simp [z])) (fun z => hb (by simp [z])) q)) hf (Nat.le_refl _) new
    refine ⟨.ref s.heap.objs.size, _, I1, rfl, ⟨_, _, c, rfl, I.hok.fresh (Nat.le_refl _), rfl, rfl, hcx⟩, ⟨⟨.str ⟨#[c]⟩ u', ?_⟩, ?_, hne⟩, fun b hb => ?_⟩
    · have e1 : ((i + 1 : Nat) : Int) = (i : Int) + 1 := by omega
      rw [e1]; exact he'
    · obtain ⟨o, q, r⟩ := hit'
      exact ⟨o, (sb.2 it (Ne.symm hne)).trans q, r⟩
    · have hb' : b < s.heap.objs.size := by
        have e' : b = e ∨ b = it := by simpa using hb
        rcases e' with z | z
        · rw [z]; exact hel
        · rw [z]; exact hil
      rw [upd_ne (Nat.ne_of_lt hb')]
      exact (hf b hb).1
  done := by
    intro X hP hw hK hc i pins s σ H E I hf st hg
    subst hP hw hK
    obtain ⟨⟨old, he⟩, hit, hne⟩ := st
    obtain ⟨f0, f1, f2, f3, f4, f5⟩ := hf it (by simp)
    have D : Draws X.prog X.w X.A.in1 it [it] x.cps.size (fun i v => ∃ c u, x.cps[i]? = some c ∧ v = .str ⟨#[c]⟩ u) (fun i h => h.IsStrIter it (strIterType x) x t i) := Draws.text (A := X.A.in1) (show X.A.in1.handled = none from I.ok.hd hc) it x t
    have hg : i = x.cps.size := hg
    rw [hg] at hit
    exact wpAny_pyNext_enum_endD D he hit fun h' eb => ⟨rfl, I.turned (t' := s.toks) (fun b o hb q => eb b o hb q) f0 f1 f3 f4 f5⟩
  self := fun A i s Q E st h => let ⟨⟨_, he⟩, _⟩ := st; wpAny_pyIter_enum he h
def iEnumS (ta : TA) : TI := fun σ H R => ta σ H fun vs H1 => ∃ x, vs = [.str x] ∧ R (Ies x) H1
theorem pi_enumS {X : Cx} {e : Expr} {ta : TA} {p pos tpos : Pos} {elts : List Expr} {kk : Nat} (hg : Gl X "enumerate") (hm : X.mg "enumerate" = none) (ha : PA X [e] ta) (hs : starEach [e] X.env = [(false, eval e X.env)] := by rfl) :
    PI X (.Tuple elts kk tpos) (.Call (.Name "enumerate" p) [e] [] pos) (iEnumS ta) := by
  refine ⟨fun pins s σ H R I h => ?_⟩
  refine Call_ (ld_blt I hg hm boot_enumerate (PyProof.Rows.callWith_type1 (thn (ha.run pos pins s σ H _ I h) fun us s1 ⟨vs, H1, I1, r1, q1⟩ => ?_) hs rfl))
  obtain ⟨x, ex, q⟩ := q1
  subst ex
  cases r1 with
  | cons r rr =>
    cases rr
    obtain ⟨t, rfl⟩ := r
    refine call_enumerate_str fun h' he hit hsz hk => wpAny_pyIter_enum he ?_
    have I2 : Inv X pins σ H1 { s1 with heap := h' } := I1.kept (t' := s1.toks) hk
    refine ⟨s1.heap.objs.size + 1, [s1.heap.objs.size + 1, s1.heap.objs.size], _, _, H1, rfl, I2, turn_enumS x t (s1.heap.objs.size + 1) s1.heap.objs.size, ⟨⟨.none, he⟩, hit, Nat.succ_ne_self _⟩, fun b hb => ?_, q⟩
    have e' : b = s1.heap.objs.size + 1 ∨ b = s1.heap.objs.size := by simpa using hb
    have hle : s1.heap.objs.size ≤ b := by
      rcases e' with z | z
      · rw [z]; exact Nat.le_add_right _ _
      · rw [z]; exact Nat.le_refl _
    exact I1.fpOk hle (I1.hok.fresh hle)
/-- the pairs of enumerate -/
def enumD (ds : List D) : List D := ds.mapIdx fun i d => .tuple [.int (i : Int), d]
def iEnS (δ : DE) : DI := fun Γ R => δ Γ fun x Γ1 => onS x fun w => R (enumD (w.map fun c => sD [c])) Γ1
section
variable {X : Cx} {a b c e : Expr} {pos : Pos} {δa δb δc δe : DE}
theorem pdi_enumS {p tpos : Pos} {elts : List Expr} {kk : Nat} (hc : X.calm = true) (hg : Gl X "enumerate") (hm : X.mg "enumerate" = none) (h1 : PD X e δe) (hs : starEach [e] X.env = (false, eval e X.env) :: starEach [] X.env := by rfl) : PDI X (.Tuple elts kk tpos) (.Call (.Name "enumerate" p) [e] [] pos) (iEnS δe) := match h1 with
  | ⟨_, h, s⟩ => ⟨_, pi_enumS hg hm (pa_cons h pa_nil hs) hs, fun B M Γ σ H H0 Q R k q ok => s B M Γ σ H H0 _ _ k q fun v x Γ1 H1 H01 ⟨w, e, h1⟩ s1 k1 r1 => by
      subst e
      cases dp_str_inv r1
      refine ⟨T w, rfl, ok _ _ Γ1 H1 H01 h1 s1 k1 ⟨fun i H v H' => ∃ t o c, v = .ref t ∧ H t = none ∧ H' = upd H t (.frz o (.tup [.int (i : Nat), .str ⟨#[c]⟩])) ∧ o.dict = none ∧ w[i]? = some c, ?_, ?_⟩⟩
      · have el : (enumD (w.map fun c => sD [c])).length = w.length := by simp [enumD]
        rw [el]
        refine ⟨fun i H hi _ => ?_, fun H _ => ?_, fun i H x H' hi _ y => ?_⟩
        · show i < (T w).cps.size
          exact hi
        · exact rfl
        · obtain ⟨t, o, c, a1, a2, a3, a5, a4⟩ := y
          exact ⟨t, o, c, a1, a2, a3, a5, by
            have : (T w).cps[i]? = w[i]? := by show (w.toArray)[i]? = w[i]?; simp
            rw [← this]; exact a4⟩
      · intro i H x H' H2 hi s2 s3 ⟨t, o, c, a1, a2, a3, a5, a4⟩
        refine ⟨.tuple [.int (i : Int), sD [c]], ?_, .inr ⟨t, o, _, _, a1, a2, a3, a5, rfl, .cons (.int _) (.cons (.str _) .nil)⟩⟩
        unfold enumD
        rw [List.getElem?_mapIdx, List.getElem?_map, a4]
        rfl⟩
end
end DL
namespace DL
open PySem PySem.Spec L2 PyProof.Rows
/-! ### text[::-1] -/
def revT (z : Str) : Str := ⟨z.cps.toList.reverse.toArray⟩
def tRevS (te : TE) : TE := fun σ H Q => te σ H fun x H1 => ∃ z, x = .str z ∧ z.length ≤ sizeLine ∧ Q (.str (revT z)) H1
theorem rev_pick (z : Str) : (⟨((Builtin.Str.strSliceIndices none none (-1) z.length).filterMap (z.cps[·]?)).toArray⟩ : Str) = revT z := by
  unfold revT
  rw [picked_rev, filterMap_get, List.map_map]
  · congr 1
    apply congrArg
    apply List.ext_getElem
    · simp [Str.length]
    · intro i h1 h2
      simp [Str.length] at h1 ⊢
      simp [Array.getD, show z.cps.size - 1 - i < z.cps.size by omega]
  · intro i hi
    obtain ⟨k, hk, rfl⟩ := List.mem_map.mp hi
    have hk' : k < z.length := List.mem_range.mp hk
    show z.length - 1 - k < z.length
    omega
section
variable {X : Cx}
theorem pe_revS {e : Expr} {te : TE} {k : Nat} {p1 p2 p3 pos : Pos} (he : PE X e te) : PE X (.Subscript e (.Slice none none (some (.UnaryOp .USub (.Constant (.int 1) k p1) p2)) p3) pos) (tRevS te) := by
  refine ⟨fun pins s σ H Q I h => ?_⟩
  refine Subscript_ (thn (he.run pins s σ H _ I h) fun v s1 ⟨x, H1, I1, r1, q1⟩ => ?_)
  obtain ⟨z, ex, hz, q⟩ := q1
  subst ex
  obtain ⟨t, rfl⟩ := r1
  have hst : PO X (some (.UnaryOp .USub (.Constant (.int 1) k p1) p2)) (tPart (tUn (rU fun i => .int (-i)) (tC (.int 1)))) := po_some (pe_un un_neg pe_int)
  refine wpAny_Slice (thn (po_none.run pins s1 σ H1 (fun o H2 => o = none ∧ H2 = H1) I1 ⟨rfl, rfl⟩) fun vl s2 ⟨l, H2, I2, pl, el, e2⟩ => ?_)
  subst el e2
  refine thn (po_none.run pins s2 σ H2 (fun o H3 => o = none ∧ H3 = H2) I2 ⟨rfl, rfl⟩) fun vu s3 ⟨u, H3, I3, pu, eu, e3⟩ => ?_
  subst eu e3
  refine thn (hst.run pins s3 σ H3 (fun o H4 => o = some (-1) ∧ H4 = H3) I3 ⟨1, rfl, -1, rfl, rfl, rfl⟩) fun vs s4 ⟨o, H4, I4, ps, eo, e4⟩ => ?_
  subst eo e4
  have I5 : L2.Inv X pins σ H4 { s4 with heap := s4.heap.push { cls := .type "slice", data := .fields #[vl, vu, vs] } } := I4.kept (t' := s4.toks) fun b ob q => Heap.get?_push_of_some _ q
  obtain ⟨l, rfl, el⟩ := IsPart.raw pl
  obtain ⟨u, rfl, eu⟩ := IsPart.raw pu
  obtain ⟨st, rfl, es⟩ := IsPart.raw ps
  obtain ⟨o, ho⟩ : ∃ o : Tok, st = some (-1, o) := by
    cases st with
    | none => cases es
    | some p => obtain ⟨a, b⟩ := p; cases es; exact ⟨b, rfl⟩
  subst ho
  have el : l = none := by cases l with
    | none => rfl
    | some p => cases el
  have eu : u = none := by cases u with
    | none => rfl
    | some p => cases eu
  subst el eu
  show wpAny (model X.prog X.w) X.A (subscriptTail e (.Slice none none (some (.UnaryOp .USub (.Constant (.int 1) k p1) p2)) p3) (.str z t) (.ref s4.heap.objs.size)) (EP X pins σ Q) X.xe { s4 with heap := s4.heap.push { cls := .type "slice", data := .fields #[partValue none, partValue none, partValue (some (-1, o))] } }
  refine tail_any (ops := [.str z t, .ref s4.heap.objs.size]) (typeIs_str _ _ _) (F.slot_str_getitem.lookup) ?_ (by with_unfolding_all rfl)
  refine wpAny_getItem_str_slice (l := none) (u := none) (st := some (-1, o)) ⟨_, Heap.get?_push_size _ rfl, rfl, rfl⟩ rfl ?_
  have hl : (revT z).length ≤ sizeLine := by
    have : (revT z).length = z.length := by simp [revT, Str.length]
    rw [this]; exact hz
  rw [← rev_pick] at q hl
  exact ⟨hl, .str _, H4, I5.tok _, ⟨_, rfl⟩, q⟩
end
section
variable {X : Cx} {a b c e : Expr} {pos : Pos} {δa δb δc δe : DE}
def dRevS (δ : DE) : DE := fun Γ R => δ Γ fun x Γ1 => onS x fun w => w.length ≤ 1000000 ∧ R (.d (.str (T w.reverse))) Γ1
theorem pd_revS {k : Nat} {p1 p2 p3 : Pos} (h1 : PD X e δe) : PD X (.Subscript e (.Slice none none (some (.UnaryOp .USub (.Constant (.int 1) k p1) p2)) p3) pos) (dRevS δe) := match h1 with
  | ⟨_, h, s⟩ => ⟨_, pe_revS h, fun B M Γ σ H H0 Q R k q ok => s B M Γ σ H H0 _ _ k q fun v x Γ1 H1 H01 ⟨w, e, hw, h1⟩ s1 k1 r1 => by
      subst e
      cases dp_str_inv r1
      refine ⟨T w, rfl, line_m hw, ok _ _ Γ1 H1 H01 h1 s1 k1 (.str _)⟩⟩
theorem u_revS {Γ : DCtx} {R : DK} : dRevS δe Γ R = δe Γ fun x Γ1 => onS x fun w => w.length ≤ 1000000 ∧ R (.d (.str (T w.reverse))) Γ1 := rfl
theorem u_iEnS {Γ : DCtx} {R : List D → DCtx → Prop} : iEnS δe Γ R = δe Γ fun x Γ1 => onS x fun w => R (enumD (w.map fun c => sD [c])) Γ1 := rfl
/-! ### list(range(n)) -/
def rgD (n : Int) : List D := (List.range n.toNat).map fun i => .int ((i : Nat) : Int)
def nLR1 (δ : DE) : DN := fun Γ R => δ Γ fun x Γ1 => onI x fun n => (0 ≤ n ∧ n ≤ 1000000) ∧ R (.lst (rgD n)) Γ1
theorem rg_dp {K : PySem.W.Frag} {H : Hp} (n : Int) : DpAll K H (rgV 0 n) (rgD n) := by
  unfold rgV rgD
  rw [Int.sub_zero]
  generalize List.range n.toNat = l
  induction l with
  | nil => exact .nil
  | cons i l ih =>
    refine .cons ?_ ih
    show Dp K H (V.int (0 + (i : Nat))) (.int (i : Nat))
    have : (0 : Int) + (i : Nat) = (i : Nat) := by omega
    rw [this]
    exact .int _
theorem pdn_lr1 {p p' pos' : Pos} (hc : X.calm = true) (hg : Gl X "list") (hm : X.mg "list" = none) (hg2 : Gl X "range") (hm2 : X.mg "range" = none) (h1 : PD X a δa) (na : starEach [a] X.env = (false, eval a X.env) :: starEach [] X.env := by rfl)
    (nb : starEach [.Call (.Name "range" p') [a] [] pos'] X.env = (false, eval (.Call (.Name "range" p') [a] [] pos') X.env) :: starEach [] X.env := by rfl) : PDN X (.Call (.Name "list" p) [.Call (.Name "range" p') [a] [] pos'] [] pos) (nLR1 δa) := match h1 with
  | ⟨_, h, s⟩ => ⟨_, pe_listRg hc hg hm (prg_1 hg2 hm2 h na) nb, fun B M Γ σ H H0 Q R k q ok => s B M Γ σ H H0 _ _ k q fun v x Γ1 H1 H01 ⟨n, e, hn, h1⟩ s1 k1 r1 => by
      subst e
      cases dp_int_inv r1
      refine ⟨n, rfl, RgOk.of_le (by omega) (by omega) (by omega) (by omega), fun t ht => ?_⟩
      exact ok t (.lst (rgV 0 n)) (.lst (rgD n)) Γ1 _ _ h1 s1 (k1.base.free ht) ((k1.mm.trans k1.sub).free ht) (k1.newB ht) (.lst (rg_dp n))⟩
theorem u_lr1 {Γ : DCtx} {R : DOb → DCtx → Prop} : nLR1 δa Γ R = δa Γ fun x Γ1 => onI x fun n => (0 ≤ n ∧ n ≤ 1000000) ∧ R (.lst (rgD n)) Γ1 := rfl
end
end DL

set_option Elab.async false
set_option linter.all false
set_option maxRecDepth 100000
set_option maxHeartbeats 2000000
set_option autoImplicit false
namespace DL
open PySem PySem.Spec L2 PyProof.Rows
/-! ### dicts with tuples as keys; d[k] -/
def keysK (xs : List DV) (k : List Key → Prop) : Prop := ∃ ks : List Key, xs = ks.map (fun q => DV.d (kD q)) ∧ k ks
theorem u_keysK_n {k : List Key → Prop} : keysK [] k = k [] := by
  apply propext
  constructor
  · rintro ⟨ks, e, h⟩
    cases ks with
    | nil => exact h
    | cons a l => cases e
  · exact fun h => ⟨[], rfl, h⟩
theorem kD_inj : ∀ {a b : Key}, kD a = kD b → a = b
  | .inl _, .inl _, h => congrArg Sum.inl (PyData.int.inj h)
  | .inr _, .inr _, h => congrArg Sum.inr (PyData.str.inj h)
  | .inl _, .inr _, h => by cases h
  | .inr _, .inl _, h => by cases h
theorem keysK_c {q : Key} {l : List DV} {k : List Key → Prop} : keysK (.d (kD q) :: l) k = keysK l fun ks => k (q :: ks) := propext ⟨fun ⟨ks, e, h⟩ => by
  cases ks with
  | nil => cases e
  | cons a ks =>
    simp only [List.map_cons, List.cons.injEq, DV.d.injEq] at e
    have : q = a := kD_inj e.1
    subst this
    exact ⟨ks, e.2, h⟩, fun ⟨ks, e, h⟩ => ⟨q :: ks, by rw [e]; rfl, h⟩⟩
theorem u_keysK_i {i : Int} {l : List DV} {k : List Key → Prop} : keysK (.d (.int i) :: l) k = keysK l fun ks => k (.inl i :: ks) := keysK_c (q := .inl i)
theorem u_keysK_s {i : Str} {l : List DV} {k : List Key → Prop} : keysK (.d (.str i) :: l) k = keysK l fun ks => k (.inr i :: ks) := keysK_c (q := .inr i)
def obT (o : DOb) (k : List (List Key × D) → Prop) : Prop := ∃ ds, o = .dT ds ∧ k ds
theorem u_obT {ds : List (List Key × D)} {k : List (List Key × D) → Prop} : obT (.dT ds) k = k ds := by unfold obT; simp
theorem keys_vals {K : PySem.W.Frag} {H : Hp} : ∀ {ks : List Key} {vs : List V}, DpAll K H vs (ks.map kD) → vs = ks.map kV
  | [], _, .nil => rfl
  | q :: ks, _, .cons h t => by rw [dp_kD h, keys_vals t]; rfl
section
variable {X : Cx} {a b c e : Expr} {pos : Pos} {δa δb δc δe : DE}
theorem u_dictT {Γ : DCtx} {R : DOb → DCtx → Prop} : nDictT Γ R = R (.dT []) Γ := rfl
/-- d[i, j] -/
def dGetT (δo : DE) (α : DA) : DE := fun Γ R => δo Γ fun x Γ1 => α Γ1 fun xs Γ2 => xs.length ≤ 1000 ∧ onO x fun j => keysK xs fun ks => lkV Γ2 j fun c => ownK c fun p o => obT o fun kvs => ∃ d, valG kvs ks = some d ∧ R (.d d) Γ2
theorem u_getT {δo : DE} {α : DA} {Γ : DCtx} {R : DK} : dGetT δo α Γ R = δo Γ fun x Γ1 => α Γ1 fun xs Γ2 => xs.length ≤ 1000 ∧ onO x fun j => keysK xs fun ks => lkV Γ2 j fun c => ownK c fun p o => obT o fun kvs => ∃ d, valG kvs ks = some d ∧ R (.d d) Γ2 := rfl
theorem pd_getT {o : Expr} {es : List Expr} {δo : DE} {α : DA} {x1 : Nat} {p1 : Pos} (hu : X.A.units + 1 < cLine) (hs : NoSl (.Tuple es x1 p1) := by first | exact fun _ _ => rfl | trivial) (h1 : PD X o δo) (h2 : PDA X es α) : PD X (.Subscript o (.Tuple es x1 p1) pos) (dGetT δo α) := match h1, h2 with
  | ⟨_, ho, so⟩, ⟨_, ha, sa⟩ => ⟨_, pe_dget hu ho (pe_tup ha) hs, fun B M Γ σ H H0 Q R k q ok => so B M Γ σ H H0 _ _ k q fun v x Γ1 H1 H01 h1 s1 k1 r1 => sa B M Γ1 σ H1 H01 _ _ k1 h1 fun vs xs Γ2 H2 H02 ⟨hl, j, ex, ks, exs, c, ec, p, ob, eo, kvs, ek, d, hv, h2⟩ s2 k2 r2 => by
      subst ex eo ek
      have r1 : σ[j]? = some (some v) := r1
      obtain ⟨ws, x1, hp, dv⟩ := k2.ownT ec
      rw [x1] at r1; cases r1
      have exs' : xs = (ks.map kD).map DV.d := by rw [exs, List.map_map]; rfl
      subst exs'
      have r3 := dpAll_of r2
      have e3 := keys_vals r3
      have hlen : vs.length ≤ sizeLine := by
        rw [DpAll.length r3]
        simp only [List.length_map] at hl ⊢
        exact Nat.le_trans hl (by decide)
      refine ⟨hlen, fun t ht => ?_⟩
      have k3 := k2.laidH (o := .tup vs) ht
      rcases kvd_val ks dv with ⟨_, z⟩ | ⟨u, d', z1, z2, z3⟩
      · rw [z] at hv; cases hv
      · rw [hv] at z2; cases z2
        have hne : p ≠ t := ne_of_none hp ht
        have hp3 : upd H2 t (.tup vs) p = some (.dT ws) := by rw [upd_ne hne]; exact hp
        have ht3 : upd H2 t (.tup vs) t = some (.tup (ks.map kV)) := by rw [upd_same, e3]
        have := DGet.t hp3 ht3
        rw [z1] at this
        exact ⟨p, u, rfl, this, ok _ _ Γ2 _ _ h2 (s1.trans s2) k3 z3⟩⟩
/-- d[i, j] = e -/
def sPutT (δv δo : DE) (α : DA) : DS := fun D Γ => δv Γ fun y Γ1 => δo Γ1 fun x Γ2 => α Γ2 fun xs Γ3 => xs.length ≤ 1000 ∧ onD y fun d => onO x fun j => keysK xs fun ks => lkV Γ3 j fun c => ownK c fun p o => obT o fun kvs => kvs.length ≤ 1000000 ∧ setK Γ3 j (some (DCell.own p (.dT (putG kvs ks d)))) D.nx
theorem u_putT {δv δo : DE} {α : DA} {D₀ : DEnds} {Γ : DCtx} : sPutT δv δo α D₀ Γ = δv Γ fun y Γ1 => δo Γ1 fun x Γ2 => α Γ2 fun xs Γ3 => xs.length ≤ 1000 ∧ onD y fun d => onO x fun j => keysK xs fun ks => lkV Γ3 j fun c => ownK c fun p o => obT o fun kvs => kvs.length ≤ 1000000 ∧ setK Γ3 j (some (DCell.own p (.dT (putG kvs ks d)))) D₀.nx := rfl
theorem pds_putT {o v : Expr} {es : List Expr} {δo δv : DE} {α : DA} {x1 : Nat} {p1 : Pos} {tpos : Pos} (hu : X.A.units + 1 < cLine) (hs : swapsWith v (some (.Subscript o (.Tuple es x1 p1) tpos)) pos.line X.env = pure false := by rfl) (h1 : PD X v δv) (h2 : PD X o δo) (h3 : PDA X es α) : PDS X (.Assign [.Subscript o (.Tuple es x1 p1) tpos] v pos) (sPutT δv δo α) := match h1, h2, h3 with
  | ⟨_, hv, sv⟩, ⟨_, ho, so⟩, ⟨_, ha, sa⟩ => ⟨_, ps_dput hu ho (pe_tup ha) hv hs, fun B M Γ σ H H0 E D k q ok => sv B M Γ σ H H0 _ _ k q fun u y Γ1 H1 H01 h1 s1 k1 r1 => so B M Γ1 σ H1 H01 _ _ k1 h1 fun w x Γ2 H2 H02 h2 s2 k2 r2 =>
      sa B M Γ2 σ H2 H02 _ _ k2 h2 fun vs xs Γ3 H3 H03 ⟨hl, d, ey, j, ex, ks, exs, c, ec, p, ob, eo, kvs, ek, hz, h3⟩ s3 k3 r3 => by
        subst ey ex eo ek
        have r2 : σ[j]? = some (some w) := r2
        obtain ⟨ws, x3, hp, dv⟩ := k3.ownT ec
        rw [x3] at r2; cases r2
        have exs' : xs = (ks.map kD).map DV.d := by rw [exs, List.map_map]; rfl
        subst exs'
        have r4 := dpAll_of r3
        have e4 := keys_vals r4
        have hlen : vs.length ≤ sizeLine := by
          rw [DpAll.length r4]
          simp only [List.length_map] at hl ⊢
          exact Nat.le_trans hl (by decide)
        refine ⟨hlen, fun t ht => ?_⟩
        have k5 := k3.laidH (o := .tup vs) ht
        obtain ⟨ws5, x5, hp5, dv5⟩ := k5.ownT ec
        rw [x3] at x5
        have ht3 : upd H3 t (.tup vs) t = some (.tup (ks.map kV)) := by rw [upd_same, e4]
        exact ⟨p, _, rfl, DPut.t hp5 ht3 (by rw [kvd_len dv5]; exact Nat.lt_of_le_of_lt hz (by decide)), ok.nx _ _ _ _ h3 ((s1.trans s2).trans s3) (k5.put ec (.dT (kvd_put ks dv5 (dp_same (s2.trans s3) r1))))⟩⟩
/-- d[k] -/
def dGetK (δo δi : DE) : DE := fun Γ R => δo Γ fun x Γ1 => δi Γ1 fun y Γ2 => onO x fun j => keyK y fun k => lkV Γ2 j fun c => ownK c fun p o => obK o fun kvs => ∃ d, valG kvs k = some d ∧ R (.d d) Γ2
theorem u_getK {δo δi : DE} {Γ : DCtx} {R : DK} : dGetK δo δi Γ R = δo Γ fun x Γ1 => δi Γ1 fun y Γ2 => onO x fun j => keyK y fun k => lkV Γ2 j fun c => ownK c fun p o => obK o fun kvs => ∃ d, valG kvs k = some d ∧ R (.d d) Γ2 := rfl
theorem pd_getK {o i : Expr} {δo δi : DE} (hu : X.A.units + 1 < cLine) (hs : NoSl i) (h1 : PD X o δo) (h2 : PD X i δi) : PD X (.Subscript o i pos) (dGetK δo δi) := match h1, h2 with
  | ⟨_, ho, so⟩, ⟨_, hi, si⟩ => ⟨_, pe_dget hu ho hi hs, fun B M Γ σ H H0 Q R k q ok => so B M Γ σ H H0 _ _ k q fun v x Γ1 H1 H01 h1 s1 k1 r1 => si B M Γ1 σ H1 H01 _ _ k1 h1 fun u y Γ2 H2 H02 ⟨j, ex, kk, ey, c, ec, p, ob, eo, kvs, ek, d, hv, h2⟩ s2 k2 r2 => by
      subst ex ey eo ek
      have r1 : σ[j]? = some (some v) := r1
      obtain ⟨ws, x1, hp, dv⟩ := k2.ownK ec
      rw [x1] at r1; cases r1
      obtain ⟨og, dg, h⟩ := dget_own hp dv r2
      rcases h with ⟨_, z⟩ | ⟨u', d', z1, z2, z3⟩
      · rw [z] at hv; cases hv
      · rw [hv] at z2; cases z2
        subst z1
        exact ⟨p, u', rfl, dg, ok _ _ Γ2 _ _ h2 (s1.trans s2) k2 z3⟩⟩
end
end DL

set_option Elab.async false
set_option linter.all false
set_option maxRecDepth 100000
set_option maxHeartbeats 2000000
set_option autoImplicit false
namespace DL
open PySem PySem.Spec L2 PyProof.Rows
/-! ### a dict display of texts -/
def PDP (X : Cx) (pos : Pos) (keys : List (Option Expr)) (values : List Expr) (kvs : List (List Nat × List Nat)) : Prop := ∃ trs, PPs X pos keys values trs ∧ ∀ (σ : L2.St) (H : Hp) (Q : List (V × V) → Hp → Prop), Q (kvs.map fun kv => (V.str (T kv.1), V.str (T kv.2))) H → tPairs trs σ H Q
section
variable {X : Cx} {pos : Pos}
theorem pdp_nil : PDP X pos [] [] [] := ⟨_, pps_nil, fun _ _ _ h => h⟩
theorem pdp_cons {x y : Str} {j1 j2 : Nat} {q1 q2 : Pos} {ks : List (Option Expr)} {vs : List Expr} {kvs : List (List Nat × List Nat)} (a b : List Nat) (hx : x = T a := by decide +kernel) (hy : y = T b := by decide +kernel) (h : PDP X pos ks vs kvs) : PDP X pos (some (.Constant (.str x) j1 q1) :: ks) (.Constant (.str y) j2 q2 :: vs) ((a, b) :: kvs) := by
  subst hx hy
  obtain ⟨trs, p, s⟩ := h
  exact ⟨_, pps_cons pe_str pe_str p, fun σ H Q q => s σ H _ q⟩
def dispD (kvs : List (List Nat × List Nat)) : List (Key × D) := kvs.foldl (fun acc kv => putG acc (Sum.inr (T kv.1) : Key) (.str (T kv.2))) []
def nDisp (kvs : List (List Nat × List Nat)) : DN := fun Γ R => R (.dK (dispD kvs)) Γ
theorem u_disp {kvs : List (List Nat × List Nat)} {Γ : DCtx} {R : DOb → DCtx → Prop} : nDisp kvs Γ R = R (.dK (dispD kvs)) Γ := rfl
theorem disp_kvd {K : PySem.W.Frag} {H : Hp} : ∀ (kvs : List (List Nat × List Nat)) {ws : List (Key × V)} {acc : List (Key × D)}, KVD K H ws acc → KVD K H (mergeK ws (kvs.map fun kv => ((Sum.inr (T kv.1) : Key), V.str (T kv.2)))) (kvs.foldl (fun acc kv => putG acc (Sum.inr (T kv.1) : Key) (.str (T kv.2))) acc)
  | [], _, _, h => h
  | kv :: kvs, _, _, h => disp_kvd kvs (kvd_put (Sum.inr (T kv.1)) h (.str _))
theorem pdn_disp {keys : List (Option Expr)} {values : List Expr} {kvs : List (List Nat × List Nat)} (h : PDP X pos keys values kvs) (hall : keys.all (·.isSome) = true := by rfl) (hl : keys.length = values.length := by rfl) (h0 : keys ≠ [] := by exact List.cons_ne_nil _ _) (h15 : keys.length ≤ 15 := by decide) (hk : kvs.length ≤ 15 := by decide) : PDN X (.Dict keys values pos) (nDisp kvs) := by
  obtain ⟨trs, p, s⟩ := h
  refine ⟨_, pe_disp p hall hl h0 h15, fun B M Γ σ H H0 Q R k q ok t ht => s σ _ _ ⟨upd_same, kvs.map fun kv => ((Sum.inr (T kv.1) : Key), V.str (T kv.2)), ?_, by simpa using hk, ?_⟩⟩
  · rw [List.map_map]; rfl
  · have e : upd (upd H t (.dK [])) t (HO.dK (mergeK [] (kvs.map fun kv => ((Sum.inr (T kv.1) : Key), V.str (T kv.2))))) = upd H t (HO.dK (mergeK [] (kvs.map fun kv => ((Sum.inr (T kv.1) : Key), V.str (T kv.2))))) := by
      funext z
      unfold upd
      split <;> rfl
    rw [e]
    exact ok t _ (.dK (dispD kvs)) Γ _ _ q (Same.refl _) (k.base.free ht) ((k.mm.trans k.sub).free ht) (k.newB ht) (.dK (disp_kvd kvs .nil))
end
end DL

set_option Elab.async false
set_option linter.all false
set_option maxRecDepth 100000
set_option maxHeartbeats 2000000
set_option autoImplicit false
namespace DL
open PySem PySem.Spec L2 PyProof.Rows
/-! ### min, max, sum of a list of ints -/
section
variable {K : PySem.W.Frag}
theorem dpAll_ints_inv {H : Hp} : ∀ {ns : List Int} {vs : List V}, DpAll K H vs (ns.map PyData.int) → vs = ns.map V.int
  | [], _, .nil => rfl
  | _ :: ns, _, .cons h t => by rw [dp_int_inv h, dpAll_ints_inv t]; rfl
/-- ints in a list -/
def intsK (ds : List D) (k : List Int → Prop) : Prop := ∃ ns : List Int, ds = ns.map PyData.int ∧ k ns
theorem u_intsK {ns : List Int} {k : List Int → Prop} : intsK (ns.map PyData.int) k = k ns := by
  apply propext
  constructor
  · rintro ⟨ms, e, h⟩
    have : ns = ms := by
      have inj : ∀ (a b : List Int), a.map PyData.int = b.map PyData.int → a = b := fun a => by
        induction a with
        | nil => intro b h; cases b with
          | nil => rfl
          | cons y b => simp at h
        | cons x a ih =>
          intro b h
          cases b with
          | nil => simp at h
          | cons y b =>
            simp only [List.map_cons, List.cons.injEq, PyData.int.injEq] at h
            rw [h.1, ih b h.2]
      exact inj _ _ e
    rw [this]; exact h
  · exact fun h => ⟨ns, rfl, h⟩
def dMin1 : DRC := fun xs Γ R => one1 xs fun x => onLq Γ x fun ds => intsK ds fun ns => 0 < ns.length ∧ ∀ m, m ∈ ns → (∀ y, y ∈ ns → m ≤ y) → R (.d (.int m)) Γ
def dMax1 : DRC := fun xs Γ R => one1 xs fun x => onLq Γ x fun ds => intsK ds fun ns => 0 < ns.length ∧ ∀ m, m ∈ ns → (∀ y, y ∈ ns → y ≤ m) → R (.d (.int m)) Γ
def dSum : DRC := fun xs Γ R => one1 xs fun x => onLq Γ x fun ds => intsK ds fun ns => R (.d (.int ns.sum)) Γ
theorem u_min1 {xs : List DV} {Γ : DCtx} {R : DK} : dMin1 xs Γ R = one1 xs fun x => onLq Γ x fun ds => intsK ds fun ns => 0 < ns.length ∧ ∀ m, m ∈ ns → (∀ y, y ∈ ns → m ≤ y) → R (.d (.int m)) Γ := rfl
theorem u_max1 {xs : List DV} {Γ : DCtx} {R : DK} : dMax1 xs Γ R = one1 xs fun x => onLq Γ x fun ds => intsK ds fun ns => 0 < ns.length ∧ ∀ m, m ∈ ns → (∀ y, y ∈ ns → y ≤ m) → R (.d (.int m)) Γ := rfl
theorem u_sum {xs : List DV} {Γ : DCtx} {R : DK} : dSum xs Γ R = one1 xs fun x => onLq Γ x fun ds => intsK ds fun ns => R (.d (.int ns.sum)) Γ := rfl
theorem cs_min1 : CSim K (rMin K) dMin1 := by
  intro B M Γ σ H H0 Q R xs vs k r ⟨x, e, ds, hq, ns, en, hl, h1⟩ q
  subst e en
  cases r with
  | cons r1 r2 =>
    cases r2
    obtain ⟨p, us, rfl, hp, du⟩ := lq_get k r1 hq
    cases dpAll_ints_inv du
    exact ⟨p, ns, rfl, hp, hl, fun m a b => q _ _ Γ H H0 (h1 m a b) (Same.refl _) k (.int _)⟩
theorem cs_max1 : CSim K (rMax K) dMax1 := by
  intro B M Γ σ H H0 Q R xs vs k r ⟨x, e, ds, hq, ns, en, hl, h1⟩ q
  subst e en
  cases r with
  | cons r1 r2 =>
    cases r2
    obtain ⟨p, us, rfl, hp, du⟩ := lq_get k r1 hq
    cases dpAll_ints_inv du
    exact ⟨p, ns, rfl, hp, hl, fun m a b => q _ _ Γ H H0 (h1 m a b) (Same.refl _) k (.int _)⟩
theorem cs_sum : CSim K (rSum K) dSum := by
  intro B M Γ σ H H0 Q R xs vs k r ⟨x, e, ds, hq, ns, en, h1⟩ q
  subst e en
  cases r with
  | cons r1 r2 =>
    cases r2
    obtain ⟨p, us, rfl, hp, du⟩ := lq_get k r1 hq
    cases dpAll_ints_inv du
    exact ⟨p, ns, rfl, hp, q _ _ Γ H H0 h1 (Same.refl _) k (.int _)⟩
end
end DL
namespace DL
open PySem PySem.Spec L2 PyProof.Rows
/-! ### zip(tuple, list) -/
def Izm (K : PySem.W.Frag) (ta lb : Addr) : It :=
  ⟨fun n H => ∃ (us vs : List V) (u v : V), SqT K H ta us ∧ SqL K H lb vs ∧ us[n]? = some u ∧ vs[n]? = some v,
   fun n H res H' => ∃ t o u v, res = .ref t ∧ H t = none ∧ H' = upd H t (.frz o (.tup [u, v])) ∧ o.dict = none ∧ (∀ us, SqT K H ta us → us[n]? = some u) ∧ ∀ vs, SqL K H lb vs → vs[n]? = some v,
   fun n H => ∃ us vs : List V, SqT K H ta us ∧ SqL K H lb vs ∧ n ≤ us.length ∧ n ≤ vs.length ∧ (n = us.length ∨ n = vs.length)⟩
theorem turn_zm {P : Program} {w : World} {K : PySem.W.Frag} {elts : List Expr} {kk : Nat} {tpos : Pos} {ta lb z TI TO i1 i2 : Addr} (S : ZipSep2 z TI TO i1 i2 [i1, ta] [i2, lb]) (h1ne : ta ≠ i1) (h2ne : lb ≠ i2) :
    Turn P w K (.Tuple elts kk tpos) (Izm K ta lb) [z, TI, TO, i1, i2] z (fun n h => (IsZip h z TI TO .none ∧ IsTupOf2 h TI (.ref i1) (.ref i2)) ∧ (∃ q r, IsTupOf2 h TO q r) ∧ h.IsTupleIter i1 ta n ∧ h.IsListIter i2 lb n) where
  mem := List.mem_cons_self ..
  obj := fun n h st cc hcc => by
    obtain ⟨⟨az, aI⟩, ⟨q, r, aO⟩, ⟨o1, b1, _, b2⟩, ⟨o2, d1, _, d2⟩⟩ := st
    simp only [List.mem_cons, List.not_mem_nil, or_false] at hcc
    rcases hcc with rfl | rfl | rfl | rfl | rfl
    · exact ⟨_, az, fun v e => nomatch e⟩
    · exact ⟨_, aI, fun v e => nomatch e⟩
    · exact ⟨_, aO, fun v e => nomatch e⟩
    · exact ⟨o1, b1, fun v e => by rw [b2] at e; cases e⟩
    · exact ⟨o2, d1, fun v e => by rw [d2] at e; cases e⟩
  keep := fun n h h' st kp => by
    obtain ⟨⟨az, aI⟩, ⟨q, r, aO⟩, b1, b2⟩ := st
    exact ⟨⟨kp z (by simp) _ az, kp TI (by simp) _ aI⟩, ⟨q, r, kp TO (by simp) _ aO⟩, b1.at fun o e => kp i1 (by simp) o e, b2.at fun o e => kp i2 (by simp) o e⟩
  item := by
    intro X e1 e2 e3 calm n pins s σ H E I fpok st go
    subst e1 e2 e3
    obtain ⟨⟨az, aI⟩, ⟨q, r, aO⟩, b1, b2⟩ := st
    obtain ⟨us, vs, u, v, qu, qv, eu, ev⟩ := go
    obtain ⟨xs, rx, px, _⟩ := I.tuple qu
    obtain ⟨ys, ry, py, _⟩ := I.list qv
    obtain ⟨x, hx, rxu⟩ := rx.get eu
    obtain ⟨y, hy, ryv⟩ := ry.get ev
    have zlt : z < s.heap.objs.size := Heap.lt_size az
    have no : X.A.in1.handled = none := I.ok.hd calm
    have lx : n < xs.toArray.size := by simpa using (List.getElem?_eq_some_iff.mp hx).1
    have ly : n < ys.toArray.size := by simpa using (List.getElem?_eq_some_iff.mp hy).1
    refine wpAny_pyNext_zipD2_item S (Draws.tuple (A := X.A.in1) no i1 ta h1ne xs.toArray) (Draws.list (A := X.A.in1) no i2 lb h2ne ys.toArray) az aI aO ⟨b1, px⟩ ⟨b2, py.isList⟩ lx ly fun x1 x2 h' tk g1 g2 z' TO' s1 s2 hT hsz hk => ?_
    have ex1 : x1 = x := by rw [show xs.toArray[n]? = xs[n]? by simp, hx] at g1; exact (Option.some.inj g1).symm
    have ex2 : x2 = y := by rw [show ys.toArray[n]? = ys[n]? by simp, hy] at g2; exact (Option.some.inj g2).symm
    subst ex1 ex2
    refine ⟨_, rfl, wpAny_letOwnedTupleGo_zip (s := { s with heap := h', toks := tk }) z' fun h'' z'' sb => ?_⟩
    have hT2 : h''.get? s.heap.objs.size = some { cls := .type "tuple", data := .seq #[x1, x2] } := (sb.2 _ (Nat.ne_of_gt zlt)).trans hT
    have new : ObjOk X.prog X.w (upd H s.heap.objs.size (.frz { cls := .type "tuple", data := .seq #[x1, x2] } (.tup [u, v]))) h'' s.heap.objs.size (.frz { cls := .type "tuple", data := .seq #[x1, x2] } (.tup [u, v])) := ⟨hT2, by show 2 ≤ sizeLine; decide, [x1, x2], .cons rxu (.cons ryv .nil), ⟨_, hT2, rfl, _, rfl⟩⟩
    have In : L2.Inv X pins σ (upd H s.heap.objs.size (.frz { cls := .type "tuple", data := .seq #[x1, x2] } (.tup [u, v]))) { s with heap := h'', toks := tk } :=
      I.turnedNew (ch := [z, TI, TO, i1, i2]) (fun a o ha e => (sb.2 a (fun g => ha (by simp [g]))).trans (hk a o (fun g => ha (by simp [g])) (fun g => ha (by simp [g])) (fun g => ha (by simp [g])) (fun g => ha (by simp [g])) e)) fpok (Nat.le_refl _) new
    refine ⟨.ref s.heap.objs.size, _, In, rfl, ⟨_, _, u, v, rfl, I.hok.fresh (Nat.le_refl _), rfl, rfl, fun l hl => by rw [I.tuple_inj hl qu]; exact eu, fun l hl => by rw [I.list_inj hl qv]; exact ev⟩, ⟨⟨z'', ?_⟩, ⟨x1, x2, ?_⟩, ?_, ?_⟩, fun a ha => ?_⟩
    · exact (sb.2 _ S.TIz).trans (hk _ _ S.TIz S.TITO S.TIi1 S.TIi2 aI)
    · exact (sb.2 _ S.TOz).trans TO'
    · exact s1.1.at fun o e => (sb.2 _ (Ne.symm S.zi1)).trans e
    · exact s2.1.at fun o e => (sb.2 _ (Ne.symm S.zi2)).trans e
    · have lt : a < s.heap.objs.size := by
        simp only [List.mem_cons, List.not_mem_nil, or_false] at ha
        rcases ha with rfl | rfl | rfl | rfl | rfl
        · exact zlt
        · exact Heap.lt_size aI
        · exact Heap.lt_size aO
        · obtain ⟨_, g, _⟩ := b1; exact Heap.lt_size g
        · obtain ⟨_, g, _⟩ := b2; exact Heap.lt_size g
      rw [upd_ne (Nat.ne_of_lt lt)]
      exact (fpok a ha).1
  done := by
    intro X e1 e2 e3 calm n pins s σ H E I fpok st stop
    subst e1 e2 e3
    obtain ⟨⟨az, aI⟩, ⟨q, r, aO⟩, b1, b2⟩ := st
    obtain ⟨us, vs, qu, qv, le1, le2, hend⟩ := stop
    obtain ⟨xs, rx, px, _⟩ := I.tuple qu
    obtain ⟨ys, ry, py, _⟩ := I.list qv
    have l1 := rx.length
    have l2 := ry.length
    have no : X.A.in1.handled = none := I.ok.hd calm
    refine wpAny_pyNext_zipD2_end S (Draws.tuple (A := X.A.in1) no i1 ta h1ne xs.toArray) (Draws.list (A := X.A.in1) no i2 lb h2ne ys.toArray) az aI aO ⟨b1, px⟩ ⟨b2, py.isList⟩ (by simp; omega) (by simp; omega) (by simp; omega) fun h' tk hk => ⟨rfl, ?_⟩
    exact I.turnedL (ch := [z, TI, TO, i1, i2]) (fun a o ha e => hk a o (fun g => ha (by simp [g])) (fun g => ha (by simp [g])) (fun g => ha (by simp [g])) (fun g => ha (by simp [g])) e) fpok
  self := fun A n s Q E st h => wpAny_pyIter_zip st.1.1 h
end DL
namespace DL
open PySem PySem.Spec L2 PyProof.Rows
def iZm (K : PySem.W.Frag) (t : TA) : TI := fun σ H R => t σ H fun vs H1 => ∃ a b us ws, vs = [.ref a, .ref b] ∧ SqT K H1 a us ∧ SqL K H1 b ws ∧ R (Izm K a b) H1
theorem pi_zm {X : Cx} {e e2 : Expr} {t : TA} {p pos tpos : Pos} {elts : List Expr} {kk : Nat} (hg : Gl X "zip") (hm : X.mg "zip" = none) (ha : PA X [e, e2] t)
    (hs : starEach [e, e2] X.env = (false, eval e X.env) :: starEach [e2] X.env := by rfl) (hpl : (backTo pos (starEach [e2] X.env)).any (·.1) = false := by rfl) : PI X (.Tuple elts kk tpos) (.Call (.Name "zip" p) [e, e2] [] pos) (iZm X.K t) := by
  refine ⟨fun pins s σ H R I h => Call_ (ld_blt I hg hm PyProof.Rows.boot_zip (PyProof.Rows.callWith_type1 (thn (ha.run pos pins s σ H _ I h) fun us s1 ⟨vs, H1, I1, r1, q1⟩ => ?_) hs hpl))⟩
  obtain ⟨a, b, xs, ys, e0, qa, qb, fin⟩ := q1
  subst e0
  cases r1 with
  | cons ra r1 =>
    cases r1 with
    | cons rb r1 =>
      cases r1
      cases ra
      cases rb
      obtain ⟨as, _, pa, _⟩ := I1.tuple qa
      obtain ⟨bs, _, pb, _⟩ := I1.list qb
      have la : a < s1.heap.objs.size := by obtain ⟨o, ho, _⟩ := id pa; exact Heap.lt_size ho
      have lb : b < s1.heap.objs.size := by obtain ⟨o, ho, _⟩ := id pb.isList; exact Heap.lt_size ho
      refine zip_begins2 (begins_tuple a as.toArray) (begins_list b bs.toArray) pa pb.isList fun h' hz hTI hTO g1 g2 hsz hk => wpAny_pyIter_zip hz ?_
      have I2 : L2.Inv X pins σ H1 { s1 with heap := h' } := I1.kept (t' := s1.toks) hk
      have S : ZipSep2 (s1.heap.objs.size + 4) (s1.heap.objs.size + 2) (s1.heap.objs.size + 3) s1.heap.objs.size (s1.heap.objs.size + 1) [s1.heap.objs.size, a] [s1.heap.objs.size + 1, b] :=
        zip_sep2 (fp1 := [a]) (fp2 := [b]) (fun c hc => by rw [List.mem_singleton.mp hc]; exact la) (fun c hc => by rw [List.mem_singleton.mp hc]; exact lb)
      refine ⟨s1.heap.objs.size + 4, [s1.heap.objs.size + 4, s1.heap.objs.size + 2, s1.heap.objs.size + 3, s1.heap.objs.size, s1.heap.objs.size + 1], _, _, H1, rfl, I2, turn_zm S (Nat.ne_of_lt la) (Nat.ne_of_lt (Nat.lt_succ_of_lt lb)), ⟨⟨hz, hTI⟩, ⟨_, _, hTO⟩, ⟨_, g1, rfl, rfl⟩, ⟨_, g2, rfl, rfl⟩⟩, fun c hc => ?_, fin⟩
      have hle : s1.heap.objs.size ≤ c := by
        simp only [List.mem_cons, List.not_mem_nil, or_false] at hc
        rcases hc with rfl | rfl | rfl | rfl | rfl
        · exact Nat.le_add_right _ _
        · exact Nat.le_add_right _ _
        · exact Nat.le_add_right _ _
        · exact Nat.le_refl _
        · exact Nat.le_add_right _ _
      exact I1.fpOk hle (I1.hok.fresh hle)
theorem dpAll_at {K : PySem.W.Frag} {H : Hp} : ∀ {vs : List V} {ds : List D} {i : Nat} {v : V}, DpAll K H vs ds → vs[i]? = some v → ∃ d, ds[i]? = some d ∧ Dp K H v d
  | _, _, _, _, .nil, e => by simp at e
  | _, _, 0, _, .cons h _, e => by simp at e; subst e; exact ⟨_, rfl, h⟩
  | _, _, i + 1, v, .cons _ t, e => by
    simp only [List.getElem?_cons_succ] at e ⊢
    exact dpAll_at (i := i) t e
/-- the pairs of zip -/
def zipD (as bs : List D) : List D := (as.zip bs).map fun q => .tuple [q.1, q.2]
def iZip2 (δa δb : DE) : DI := fun Γ R => δa Γ fun x Γ1 => δb Γ1 fun y Γ2 => onT x fun as => frzD (fun d Γ3 => lisK d fun bs => R (zipD as bs) Γ3) y Γ2
section
variable {X : Cx} {a b c e : Expr} {pos : Pos} {δa δb δc δe : DE}
theorem u_iZip2 {Γ : DCtx} {R : List D → DCtx → Prop} : iZip2 δa δb Γ R = δa Γ fun x Γ1 => δb Γ1 fun y Γ2 => onT x fun as => frzD (fun d Γ3 => lisK d fun bs => R (zipD as bs) Γ3) y Γ2 := rfl
theorem pdi_zip {p tpos : Pos} {elts : List Expr} {kk : Nat} (hc : X.calm = true) (hg : Gl X "zip") (hm : X.mg "zip" = none) (h1 : PD X a δa) (h2 : PD X b δb)
    (hs : starEach [a, b] X.env = (false, eval a X.env) :: starEach [b] X.env := by rfl) (hs2 : starEach [b] X.env = (false, eval b X.env) :: starEach [] X.env := by rfl) (hpl : (backTo pos (starEach [b] X.env)).any (·.1) = false := by rfl) : PDI X (.Tuple elts kk tpos) (.Call (.Name "zip" p) [a, b] [] pos) (iZip2 δa δb) := match h1, h2 with
  | ⟨_, ha, sa⟩, ⟨_, hb, sb⟩ => ⟨_, pi_zm hg hm (pa_cons ha (pa_cons hb pa_nil hs2) hs) hs hpl, fun B M Γ σ H H0 Q R k q ok => sa B M Γ σ H H0 _ _ k q fun v x Γ1 H1 H01 h1 s1 k1 r1 => sb B M Γ1 σ H1 H01 _ _ k1 h1 fun u y Γ2 H2 H02 ⟨as, ex, h2⟩ s2 k2 r2 => by
      subst ex
      obtain ⟨d, Γ3, H03, ⟨bs, ed, h3⟩, s3, k3, r3⟩ := frzD_ok k2 r2 h2
      subst ed
      obtain ⟨pa, xs, rfl, hpa, dva⟩ := dp_tuple_inv (dp_same (s2.trans s3) r1)
      obtain ⟨pb, ys, rfl, hpb, dvb⟩ := dp_list_inv r3
      refine ⟨pa, pb, xs, ys, rfl, Same.sqT k3.sub hpa, k3.sub.seq hpb, ok _ _ Γ3 H2 H03 h3 ((s1.trans s2).trans s3) k3 ⟨fun i H x H' => ∃ t o u v, x = .ref t ∧ H t = none ∧ H' = upd H t (.frz o (.tup [u, v])) ∧ o.dict = none ∧ xs[i]? = some u ∧ ys[i]? = some v, ?_, ?_⟩⟩
      · have lx := DpAll.length dva
        have ly := DpAll.length dvb
        have el : (zipD as bs).length = min xs.length ys.length := by unfold zipD; rw [List.length_map, List.length_zip, lx, ly]
        rw [el]
        refine ⟨fun i H hi g => ?_, fun H g => ?_, fun i H x H' hi g y => ?_⟩
        · have h1 : i < xs.length := by omega
          have h2 : i < ys.length := by omega
          exact ⟨xs, ys, xs[i], ys[i], Same.sqT g.2 hpa, g.2.seq hpb, List.getElem?_eq_getElem h1, List.getElem?_eq_getElem h2⟩
        · exact ⟨xs, ys, Same.sqT g.2 hpa, g.2.seq hpb, by omega, by omega, by omega⟩
        · obtain ⟨t, o, u, v, a1, a2, a3, a6, a4, a5⟩ := y
          exact ⟨t, o, u, v, a1, a2, a3, a6, a4 xs (Same.sqT g.2 hpa), a5 ys (g.2.seq hpb)⟩
      · intro i H x H' Hb hi sm sm2 ⟨t, o, u, v, a1, a2, a3, a6, a4, a5⟩
        obtain ⟨du, hdu, ru⟩ := dpAll_at dva a4
        obtain ⟨dv, hdv, rv⟩ := dpAll_at dvb a5
        refine ⟨.tuple [du, dv], ?_, .inr ⟨t, o, _, _, a1, a2, a3, a6, rfl, .cons (dp_same sm ru) (.cons (dp_same sm rv) .nil)⟩⟩
        unfold zipD
        rw [List.getElem?_map, List.getElem?_zip_eq_some (z := (du, dv)) |>.mpr ⟨hdu, hdv⟩]
        rfl⟩
end
end DL

set_option Elab.async false
set_option linter.all false
set_option maxRecDepth 100000
set_option maxHeartbeats 2000000
set_option autoImplicit false
namespace DL
open PySem PySem.Spec L2 PyProof.Rows
/-! ### a drawing def that is given a list of one's own as its last argument -/
def plainD : D → Bool
  | .int _ => true
  | .str _ => true
  | .bool _ => true
  | .none => true
  | _ => false
theorem dp_plain {K : PySem.W.Frag} {H H2 : Hp} {v : V} : ∀ {d : D}, plainD d = true → Dp K H v d → Dp K H2 v d
  | .int _, _, h => by rw [dp_int_inv h]; exact .int _
  | .str _, _, h => by rw [dp_str_inv h]; exact .str _
  | .bool _, _, h => by rw [dp_bool_inv h]; exact .bl _
  | .none, _, h => by rw [dp_none_inv h]; exact .non
theorem dpAll_plain {K : PySem.W.Frag} {H H2 : Hp} : ∀ {vs : List V} {ds : List D}, (∀ d ∈ ds, plainD d = true) → DpAll K H vs ds → DpAll K H2 vs ds
  | _, _, _, .nil => .nil
  | _, _, f, .cons h t => .cons (dp_plain (f _ (List.mem_cons_self ..)) h) (dpAll_plain (fun d hd => f d (List.mem_cons_of_mem _ hd)) t)
def dCallTO (F : List D → List D → (D → List D → Prop) → Prop) (α : DA) : DE := fun Γ R => α Γ fun xs Γ1 => ∃ s j l p p2 ts ds, xs = [.d s, .o j, .o l] ∧ j ≠ l ∧ Γ1[j]? = some (some (DCell.own p (.lst ts))) ∧ Γ1[l]? = some (some (DCell.own p2 (.lst ds))) ∧
  F ts [s, .list ds] fun d ts' => plainD d = true ∧ (∀ x ∈ ts', plainD x = true) ∧ R (.d d) (Γ1.set j (some (DCell.own p (.lst ts'))))
section
variable {X : Cx} {a b c e : Expr} {pos : Pos} {δa δb δc δe : DE}
theorem sim_callTO {K : PySem.W.Frag} {F : List D → List D → (D → List D → Prop) → Prop} {t : TA} {α : DA} {E : XK} (hF : MonoT F) (s : SimA K t α) : Sim K (tCall (spT K 2 F) [] E t) (dCallTO F α) := fun B M Γ σ H H0 Q R k h q =>
  s B M Γ σ H H0 _ _ k h fun vs xs Γ1 H1 H01 ⟨s0, j, l, p, p2, ts, ds, e, hjl, ej, el, h1⟩ s1 k1 r1 => by
    subst e
    rw [List.append_nil]
    cases r1 with
    | cons ra r1 =>
    cases r1 with
    | @cons vp _ _ _ rb r1 =>
    cases r1 with
    | @cons vl _ _ _ rl r1 =>
    cases r1
    obtain ⟨us, x, hp, dt⟩ := k1.ownL ej
    obtain ⟨ws, y, hp2, dl⟩ := k1.ownL el
    have rb : σ[j]? = some (some vp) := rb
    rw [x] at rb; cases rb
    have rl : σ[l]? = some (some vl) := rl
    rw [y] at rl; cases rl
    obtain ⟨_, _, hB, h0, _, _⟩ := k1.own j p _ ej
    obtain ⟨_, _, hB2, h02, _, _⟩ := k1.own l p2 _ el
    have hne : p ≠ p2 := k1.sep j l _ _ p p2 hjl ej el
    have sc : Same H01 (upd H01 p2 (.lst ws)) := fun z o ez => by rw [upd_ne (ne_of_none ez h02)]; exact ez
    refine ⟨upd H01 p2 (.lst ws), p, us, ts, _, [.ref p2], [s0, .list ds], rfl, by rw [upd_ne hne]; exact h0, hp, fun z o ez => ?_, k1.cl.upd trivial, dpAll_same sc dt, .cons (dp_same sc ra) (.cons (Dp.lst (.inl (.inl upd_same)) (dpAll_same sc dl)) .nil), rfl, hF ts _ _ _ (fun d ts' h2 => ?_) h1⟩
    · by_cases ez2 : z = p2
      · subst ez2; rw [upd_same] at ez; cases ez; exact hp2
      · rw [upd_ne ez2] at ez; exact k1.sub z o ez
    · obtain ⟨fd, fts, h2⟩ := h2
      intro v H' M' us' a1 a2 a3 a4 a5 a8 a6 a7
      have sN : Same H01 (del M' p2) := fun z o ez => by
        rw [del_ne (ne_of_none ez h02)]
        exact a2 z o (sc z o ez)
      have nw : ∀ z o, H1 z = some o → H01 z = none → del M' p2 z = none := fun z o ez nz => by
        by_cases e2 : z = p2
        · subst e2; exact del_same
        · rw [del_ne e2]; exact a4 z o ez (by rw [upd_ne e2]; exact nz)
      exact q v (.d d) _ H' (del M' p2) h2 (s1.trans sN) (k1.afterT ej a1 sN (fun z o ez => a3 z o (del_some ez).2) nw a5 ⟨a8.1, fun z u ez => a8.2 z u (del_some ez).2⟩ (dpAll_plain fts a6)) (dp_plain fd a7)
theorem pd_clTO {F : List D → List D → (D → List D → Prop) → Prop} {k j : Nat} {ps : List Str} {x : Str} {p : Pos} {es : List Expr} {α : DA} (C : Cl X.prog X.w X.K X.mg X.base k x ps (spT X.K 2 F)) (hF : MonoT F) (hr : Room j X.A) (hk : k ≤ j) (hg : Gl X x)
    (hdb : (x == ("__debug__" : Str)) = false := by decide) (he : starEach (e :: es) X.env = (false, eval e X.env) :: starEach es X.env := by rfl) (hpl : (backTo pos (starEach es X.env)).any (·.1) = false := by rfl) (h : PDA X (e :: es) α) : PD X (.Call (.Name x p) (e :: es) [] pos) (dCallTO F α) := by
  obtain ⟨f, fd, ok, hm, kp, hb⟩ := C.ex
  obtain ⟨t, ha, sa⟩ := h
  exact ⟨_, pe_call (E := E0) ok (hr.mono hk) hg hm kp hb .nil pass0 ha hdb he hpl, sim_callTO hF sa⟩
def argTO (xs : List DV) (k : D → Nat → Nat → Prop) : Prop := ∃ s j l, xs = [.d s, .o j, .o l] ∧ k s j l
theorem u_argTO {s : D} {j l : Nat} {k : D → Nat → Nat → Prop} : argTO [.d s, .o j, .o l] k = k s j l := by
  apply propext
  constructor
  · rintro ⟨_, _, _, e, h⟩
    cases e; exact h
  · exact fun h => ⟨_, _, _, rfl, h⟩
theorem u_callTO {F : List D → List D → (D → List D → Prop) → Prop} {α : DA} {Γ : DCtx} {R : DK} : dCallTO F α Γ R = α Γ fun xs Γ1 => argTO xs fun s j l => j ≠ l ∧ lkV Γ1 j fun c => ownK c fun p o => obL o fun ts => lkV Γ1 l fun c2 => ownK c2 fun _ o2 => obL o2 fun ds => F ts [s, .list ds] fun d ts' => plainD d = true ∧ (∀ x ∈ ts', plainD x = true) ∧ setK Γ1 j (some (DCell.own p (.lst ts'))) fun Γ' => R (.d d) Γ' := by
  unfold dCallTO argTO lkV ownK obL setK
  congr 1; funext xs Γ1
  apply propext
  constructor
  · rintro ⟨s, j, l, p, p2, ts, ds, e, n, ej, el, h⟩
    exact ⟨s, j, l, e, n, _, ej, p, _, rfl, ts, rfl, _, el, p2, _, rfl, ds, rfl, h⟩
  · rintro ⟨s, j, l, e, n, _, ej, p, _, rfl, ts, rfl, _, el, p2, _, rfl, ds, rfl, h⟩
    exact ⟨s, j, l, p, p2, ts, ds, e, n, ej, el, h⟩
end
end DL

set_option Elab.async false
set_option linter.all false
set_option maxRecDepth 100000
set_option maxHeartbeats 2000000
set_option autoImplicit false
namespace DL
open PySem PySem.Spec L2 PyProof.Rows
/-! ### sorted(t), t a tuple -/
section
variable {prog : Program} {w : World} {A : Around} {E : Value → Shared → Prop} {s : Shared}
theorem collect_tup {l : Addr} {vs : List Value} {Q : List Value → Shared → Prop} (hl : s.heap.IsTuple l vs.toArray)
    (h : Q vs { s with heap := (s.heap.push (seqObj "list" #[] 0)).update s.heap.objs.size (Obj.mapSeq (· ++ vs.toArray)) }) (hsz : vs.length ≤ sizeLine) :
    wpAny (model prog w) A (collect (.ref l)) Q E s := by
  obtain ⟨o, ho, hc, n, hd⟩ := id hl
  unfold collect
  refine wpAny_bind (wpAny_runValue (codeAny_builtin entry_proto_collect' ?_))
  show wpAny _ _ (do again (.builtin "list.__iadd__" ⟨[← newList [], .ref l], []⟩)) _ _ s
  refine wpAny_bind (wpAny_newList (wpAny_pure ⟨Code.quiet_builtin _ (by decide +kernel), codeAny_builtin entry_list_iadd' ?_⟩))
  show wpAny _ _ (Builtin.List.listExtendWith (.ref s.heap.objs.size) (.ref l) (.ref s.heap.objs.size)) _ _ { s with heap := s.heap.push (seqObj "list" #[] 0) }
  unfold Builtin.List.listExtendWith
  have ho' : (s.heap.push (seqObj "list" #[] 0)).get? l = some o := Heap.get?_push_of_some _ ho
  refine wpAny_bind (wpAny_typeOf (T := "tuple") ⟨o, ho', hc⟩ ?_)
  have ht : (Value.type "tuple" == Value.type "tuple") = true := by rfl
  rw [if_pos (by rw [ht]; simp)]
  refine wpAny_bind (listItems_at ho' hd ?_)
  refine wpAny_bind (listItems_at (xs := #[]) (n := 0) (Heap.get?_push_size _ rfl) rfl ?_)
  rw [if_neg (by simp)]
  refine wpAny_bind (listUpdate_at (xs := #[]) (n := 0) (Heap.get?_push_size _ rfl) rfl ?_ (Nat.zero_le _) (by show (#[] ++ vs.toArray).size ≤ sizeLine + 1; simp only [Array.size_append, List.size_toArray, List.length_nil]; omega))
  refine wpAny_pure ?_
  show wpAny (model prog w) A (do
      let o ← load s.heap.objs.size
      match o.data with
      | .seq xs _ => pure xs.toList
      | _ => unsupported "internal:collect") Q E { s with heap := (s.heap.push (seqObj "list" #[] 0)).update s.heap.objs.size (Obj.mapSeq (· ++ vs.toArray)) }
  refine wpAny_bind (wpAny_load (get?_update_seq (Heap.get?_push_size _ rfl) _) ?_)
  show wpAny _ _ (pure ((#[] : Array Value) ++ vs.toArray).toList) Q E _
  rw [show ((#[] : Array Value) ++ vs.toArray).toList = vs by simp]
  exact wpAny_pure h
/-- what a collected thing's sorted list is -/
theorem sorted_coll {β : Type} {l : Addr} {Q : Value → Shared → Prop} {enc : β → PyData} {R : Value → β → Prop}
    (hc : ∀ (Q' : List Value → Shared → Prop) (E' : Value → Shared → Prop), (∀ vs s1 bs, (∀ b o, s.heap.get? b = some o → s1.heap.get? b = some o) → s.heap.objs.size ≤ s1.heap.objs.size → s1.gens = s.gens → s1.os = s.os → PySem.W.EachIs R vs bs → PySem.W.EachIs (fun v b => ∃ as, Reads s.heap v (enc b) as) vs bs → PySem.W.AllAlike (bs.map enc) → PySem.W.Sortable (bs.map enc) → bs.length ≤ sizeLine → (∀ b, b ∈ bs → A.units + 2 + (enc b).depth < cLine) →
        (∀ p out c s', (∀ b o, s.heap.get? b = some o → s'.heap.get? b = some o) → s.heap.objs.size ≤ p → s'.gens = s.gens → s'.os = s.os → s'.heap.get? p = some (seqObj "list" (List.toArray out) c) → out.length = bs.length → PySem.W.EachIs R out (bs.mergeSort (PySem.W.dataLe false enc)) → Q (.ref p) s') → Q' vs s1) → wpAny (model prog w) A.in1 (collect (.ref l)) Q' E' s) :
    wpAny (model prog w) A (call (.builtin "sorted") [.ref l]) Q E s := by
  refine Calls.call_function_entry kind_sorted plain_sorted entry_sorted (args_sorted1 _) ?_
  unfold Builtin.«sorted»
  refine wpAny_bind (m := checkCount "sorted" 1 1 _) (wpAny_pure ?_)
  refine wpAny_bind (hc _ _ fun vs s1 bs k1 hz g1 o1 e er hal hk hL hu h => ?_)
  have hvl : vs.length = bs.length := e.length
  refine wpAny_bind (wpAny_newList ?_ (by rw [hvl]; exact hL))
  have hoL : (s1.heap.push (seqObj "list" vs.toArray 0)).get? s1.heap.objs.size = some (seqObj "list" vs.toArray 0) := Heap.get?_push_size _ rfl
  have kk : ∀ b o, s.heap.get? b = some o → (s1.heap.push (seqObj "list" vs.toArray 0)).get? b = some o := fun b o q => Heap.get?_push_of_some _ (k1 b o q)
  have er2 : PySem.W.EachIs (fun v b => ∃ as, Reads (PySem.W.sortingHeap (s1.heap.push (seqObj "list" vs.toArray 0)) s1.heap.objs.size vs) v (enc b) as) vs bs := er.mono fun _ _ ⟨as, r⟩ => ⟨as, PyProof.Rows.Reads.keeps (fun b o q => PySem.W.sortingHeap_old (fun z => Nat.lt_irrefl _ (Nat.lt_of_lt_of_le (z ▸ Heap.lt_size q) hz)) (kk b o q)) r⟩
  refine wpAny_bind (wpAny_holding (wpAny_call_entry slot_list_sort ⟨_, hoL, rfl⟩ entry_list_sort (PySem.W.list_sort_vals (κ := PySem.W.dataKind (PySem.W.sortingHeap (s1.heap.push (seqObj "list" vs.toArray 0)) s1.heap.objs.size vs) (bs.map enc)) hoL (PySem.W.SortsAt.data (s := { s1 with heap := PySem.W.sortingHeap (s1.heap.push (seqObj "list" vs.toArray 0)) s1.heap.objs.size vs }) (PySem.W.each_map (R := fun v d => ∃ as, Reads (PySem.W.sortingHeap (s1.heap.push (seqObj "list" vs.toArray 0)) s1.heap.objs.size vs) v d as) enc er2) hal hk (PySem.W.bound_map hu)) (by rw [hvl]; exact hL) ⟨.none, rfl, ?_⟩) (args_list_sort _)))
  obtain ⟨c, hc⟩ := sortedHeap_at (vs := vs) (out := (PySem.W.sortVals (PySem.W.dataKind (PySem.W.sortingHeap (s1.heap.push (seqObj "list" vs.toArray 0)) s1.heap.objs.size vs) (bs.map enc)) false vs vs).toArray) hoL
  refine wpAny_pure ⟨_, rfl, h s1.heap.objs.size _ c _ (fun b u q => ?_) hz g1 o1 hc (by rw [PySem.W.sortVals_length false rfl]; exact hvl) (PySem.W.sortVals_data false e er2 hal)⟩
  have hlt := Heap.lt_size (k1 b u q)
  show (sortedHeap (s1.heap.push (seqObj "list" vs.toArray 0)) s1.heap.objs.size vs _).get? b = some u
  rw [sortedHeap_old (Nat.ne_of_lt hlt) (by rw [size_push']; exact Nat.lt_succ_of_lt hlt)]
  exact kk b u q
end

section
variable {X : Cx}
theorem inv_new {pins : List (Addr × Obj)} {σ : L2.St} {H : Hp} {s s' : Shared} {p : Addr} {ys : List V} {out : List Value} {c : Nat} (I : L2.Inv X pins σ H s) (k : ∀ b o, s.heap.get? b = some o → s'.heap.get? b = some o) (hp : s.heap.objs.size ≤ p) (g : s'.gens = s.gens) (o : s'.os = s.os) (hz : ys.length ≤ sizeLine) (hv : Vals ys out) (hg : s'.heap.get? p = some (seqObj "list" out.toArray c)) : L2.Inv X pins σ (upd H p (.lst ys)) s' := by
  have hn : H p = none := I.hok.fresh hp
  have J : L2.Inv X pins σ (upd H p (.lst ys)) { s with heap := s'.heap, gens := s'.gens, drawn := s'.drawn, toks := s'.toks } :=
    I.call (ch := []) (Un.laid k hp hn) (I.hok.laid k hp ⟨hz, out, c, hv, hg⟩) (by rw [g]; exact I.bare) (fun _ z => nomatch z)
  have e : s' = { s with heap := s'.heap, gens := s'.gens, drawn := s'.drawn, toks := s'.toks } := by
    cases s'
    cases s
    cases o
    rfl
  rw [e]; exact J
def rSortU (K : PySem.W.Frag) : List V → Hp → VK → Prop := fun vs H Q => ∃ M x ds, vs = [x] ∧ Same M H ∧ Dp K M x (.tuple ds) ∧ PySem.W.AllAlike ds ∧ PySem.W.Sortable ds ∧ (∀ d ∈ ds, d.depth ≤ 60) ∧ ∀ p ys, H p = none → DpAll K M ys (sortD ds) → Q (.ref p) (upd H p (.lst ys))
theorem sort_zip {xs : List V} {ds : List D} (hlen : xs.length = ds.length) : ((xs.zip ds).mergeSort (PySem.W.dataLe false Prod.snd)).map Prod.snd = sortD ds := by
  have es : (xs.zip ds).map Prod.snd = ds := zip_snd hlen
  have := PySem.W.sort_maps (r := PySem.W.dataLe false Prod.snd) (s := PySem.W.dataLe false id) (l := xs.zip ds) Prod.snd (fun _ _ _ _ => rfl)
  rw [es] at this
  exact this
theorem cr_sortU (hu : X.A.units + 100 < cLine) : CallR X (.builtin "sorted") (rSortU X.K) := by
  intro pins s σ H vs us Q I r h
  obtain ⟨M, x, ds, rfl, sm, hx, hal, hk, hd, q⟩ := h
  obtain ⟨a, xs, rfl, hs, da⟩ := dp_tuple_inv hx
  rw [Vals.ref1 r]
  obtain ⟨its, rv, hl, hz⟩ := I.tuple (Same.sqT sm hs)
  have hlen := DpAll.length da
  have es : (xs.zip ds).map Prod.snd = ds := zip_snd hlen
  have ez : (xs.zip ds).length = ds.length := by rw [← List.length_map (f := Prod.snd), es]
  refine sorted_coll (enc := Prod.snd) (R := fun (v : Value) (b : V × D) => RelV b.1 v ∧ Dp X.K M b.1 b.2) fun Q' E' hq => collect_tup hl (hq its _ (xs.zip ds) (fun b o e => ?_) ?_ rfl rfl (each_zip da rv) (each_reads I (dpAll_same sm da) rv) (by rw [es]; exact hal) (by rw [es]; exact hk) (by rw [ez, ← hlen]; exact hz) (fun b hb => ?_) fun p out c s' k hp g o hg ho he => ?_) (by rw [← rv.length]; exact hz)
  · have hb := Heap.lt_size e
    show ((s.heap.push (seqObj "list" #[] 0)).update s.heap.objs.size _).get? b = some o
    rw [Heap.get?_update_other _ _ (Ne.symm (Nat.ne_of_lt hb))]
    exact Heap.get?_push_of_some _ e
  · show s.heap.objs.size ≤ ((s.heap.push (seqObj "list" #[] 0)).update s.heap.objs.size _).objs.size
    rw [Heap.size_update, size_push']
    exact Nat.le_succ _
  · have : b.2 ∈ ds := by rw [← es]; exact List.mem_map.mpr ⟨b, hb, rfl⟩
    have := hd _ this
    omega
  · obtain ⟨h1, h2⟩ := each_vals he
    rw [sort_zip hlen] at h2
    refine ⟨.ref p, _, inv_new I k hp g o ?_ h1 hg, rfl, q p _ (I.hok.fresh hp) h2⟩
    rw [h1.length, ho, ez, ← hlen]; exact hz
def dSortU : DRC := fun xs Γ R => ∃ ds, xs = [.d (.tuple ds)] ∧ PySem.W.AllAlike ds ∧ PySem.W.Sortable ds ∧ (∀ d ∈ ds, d.depth ≤ 60) ∧ R (.d (.list (sortD ds))) Γ
theorem cs_sortU {K : PySem.W.Frag} : CSim K (rSortU K) dSortU := by
  intro B M Γ σ H H0 Q R xs vs k r ⟨ds, e, a1, a2, a3, h1⟩ q
  subst e
  cases r with
  | cons r1 r2 =>
    cases r2
    refine ⟨H0, _, ds, rfl, k.sub, r1, a1, a2, a3, fun p ys hp dy => ?_⟩
    obtain ⟨k2, s2⟩ := k.laid (o := .lst ys) hp
    exact q _ _ Γ _ _ h1 s2 k2 (Dp.lst (.inl (.inl upd_same)) (dpAll_same s2 dy))
theorem u_sortU {x : DV} {Γ : DCtx} {R : DK} : dSortU [x] Γ R = onT x fun ds => PySem.W.AllAlike ds ∧ PySem.W.Sortable ds ∧ (∀ d ∈ ds, d.depth ≤ 60) ∧ R (.d (.list (sortD ds))) Γ := propext ⟨fun ⟨ds, e, h⟩ => by cases e; exact ⟨ds, rfl, h⟩, fun ⟨ds, e, h⟩ => ⟨ds, by rw [e], h⟩⟩
/-! ### sum(t), t a tuple of ints -/
theorem preSum_list : ∀ (ns : List Int), preSum (fun i => ns.getD i 0) ns.length = ns.sum := by
  have key : ∀ (ns : List Int) (j : Nat), j ≤ ns.length → preSum (fun i => ns.getD i 0) j = (ns.take j).sum := fun ns j => by
    induction j with
    | zero => intro _; rfl
    | succ j ih =>
      intro hj
      rw [preSum, ih (by omega), List.take_add_one, List.sum_append, List.getElem?_eq_getElem (by omega)]
      simp [List.getD, List.getElem?_eq_getElem (show j < ns.length by omega)]
  intro ns
  rw [key ns ns.length (Nat.le_refl _), List.take_of_length_le (Nat.le_refl _)]
def rSumU (K : PySem.W.Frag) : List V → Hp → VK → Prop := fun vs H Q => ∃ (a : Addr) (ns : List Int), vs = [V.ref a] ∧ SqT K H a (ns.map V.int) ∧ Q (.int ns.sum) H
theorem cr_sumU (hc : X.calm = true) : CallR X (.builtin "sum") (rSumU X.K) := by
  intro pins s σ H vs us Q I r h
  obtain ⟨a, ns, rfl, hs, q⟩ := h
  rw [Vals.ref1 r]
  obtain ⟨its, rv, hl, hz⟩ := I.tuple hs
  have hi := rv.ints
  have hlen := rv.length
  rw [List.length_map] at hlen
  have hlt : a < s.heap.objs.size := by obtain ⟨_, e, _⟩ := hl; exact Heap.lt_size e
  refine call_sum_walkG (wpAny_pyIter_tuple hl ?_)
  refine ⟨_, _, _, _, _, _, fun i => ns.getD i 0, rfl, Walks.tuple (A := X.A.in1) (show X.A.in1.handled = none from I.ok.hd hc) s.heap.objs.size a (Nat.ne_of_lt hlt) its.toArray, ⟨⟨_, Heap.get?_push_size _ rfl, rfl, rfl⟩, hl.push _⟩, fun b hb => ?_, fun i v e => ?_, fun h' tk t' hk => ?_⟩
  · show b < (s.heap.push _).objs.size
    rw [Heap.size_push]
    simp only [List.mem_cons, List.not_mem_nil, or_false] at hb
    rcases hb with rfl | rfl
    · exact Nat.lt_succ_self _
    · exact Nat.lt_succ_of_lt hlt
  · exact hi.int_at i v (by simpa using e)
  · have eq : preSum (fun i => ns.getD i 0) its.toArray.size = ns.sum := by
      rw [List.size_toArray, ← hlen]; exact preSum_list ns
    rw [eq]
    refine ⟨.int ns.sum, H, I.kept (t' := tk) fun b o e => hk b o (fun z => ?_) (Heap.get?_push_of_some _ e), ⟨_, rfl⟩, q⟩
    have := Heap.lt_size e
    have z := List.mem_singleton.mp z
    exact absurd (z ▸ this) (Nat.lt_irrefl _)
def dSumU : DRC := fun xs Γ R => one1 xs fun x => onT x fun ds => intsK ds fun ns => R (.d (.int ns.sum)) Γ
theorem u_sumU {xs : List DV} {Γ : DCtx} {R : DK} : dSumU xs Γ R = one1 xs fun x => onT x fun ds => intsK ds fun ns => R (.d (.int ns.sum)) Γ := rfl
theorem cs_sumU {K : PySem.W.Frag} : CSim K (rSumU K) dSumU := by
  intro B M Γ σ H H0 Q R xs vs k r ⟨x, e, ds, hq, ns, en, h1⟩ q
  subst e en hq
  cases r with
  | cons r1 r2 =>
    cases r2
    obtain ⟨p, us, rfl, hp, du⟩ := dp_tuple_inv r1
    cases dpAll_ints_inv du
    exact ⟨p, ns, rfl, Same.sqT k.sub hp, q _ _ Γ H H0 h1 (Same.refl _) k (.int _)⟩
/-! ### t.index(x), t a tuple of texts -/
def tUM (K : PySem.W.Frag) (to : TE) (t : TA) : TE := fun σ H Q => to σ H fun x H1 => ∃ a M vs, x = .ref a ∧ Same M H1 ∧ Clean K M ∧ SqT K M a vs ∧ t σ H1 fun xs H2 => ∃ (ys : List Str) (z : Str) (j : Nat), xs = [.str z] ∧ SqT K H2 a (ys.map V.str) ∧ ys[j]? = some z ∧ (∀ m, m < j → ys[m]? ≠ some z) ∧ Q (.int (j : Nat)) H2
theorem pe_tupIndex {o e : Expr} {to : TE} {t : TA} {apos cpos : Pos} (ho : PE X o to) (ha : PA X [e] t) (hbase : attributeBase o "index" X.env (eval o X.env) = eval o X.env := by rfl)
    (hfew : ((backTo cpos (starEach [e] X.env)).all (fun x => !x.1) && (backToKw cpos (keywordEach [] X.env)).all (fun x => x.1.isSome)
      && decide (([e] : List Expr).length + ([] : List Keyword).length + (if ([] : List Keyword).isEmpty then 0 else 1) < 30)) = true := by rfl)
    (hline : (apos.endLine == cpos.line) = true := by rfl) (hs : starEach [e] X.env = (false, eval e X.env) :: starEach [] X.env := by rfl) (hplain : (backTo cpos (starEach [] X.env)).any (·.1) = false := by rfl) :
    PE X (.Call (.Attribute o "index" apos) [e] [] cpos) (tUM X.K to t) := by
  refine ⟨fun pins s σ H Q I h => ?_⟩
  refine wpAny_Call_method_late hbase hfew hline rfl (thn (ho.run pins s σ H _ I h) fun v s1 ⟨x, H1, I1, r1, a, M, vs, ex, sm, cl, hq, q1⟩ => ?_)
  subst ex
  cases r1
  obtain ⟨its, _, ht, _⟩ := I1.tuple (Same.sqT sm hq)
  refine ⟨"tuple", "tuple.index", PySem.F.plainAttrs_tuple, PySem.F.slot_tuple_index, PySem.F.type_tuple_index, ht.typeIs, fun b eb => by cases eb; exact noDict_of I1 sm cl hq, ?_⟩
  have hA := ha.run cpos pins s1 σ H1 _ I1 q1
  rw [hs] at hA ⊢
  refine Calls.callWith_builtin (by show (false || (backTo cpos (starEach [] X.env)).any (·.1)) = false; rw [hplain] <;> rfl) (Calls.evalArgs_plain ?_)
  exact thn hA fun us s2 ⟨ws, H2, I2, r2, ys, z, j, ew, hq2, hj, hm, q2⟩ => mt_tup_index pins s2 σ H2 (.ref a) ws (.ref a) us Q I2 rfl r2 ⟨a, ys, z, j, rfl, ew, hq2, hj, hm, q2⟩
variable {a b c e : Expr} {pos : Pos} {δa δb δc δe : DE}
def dIdx (δo δe : DE) : DE := fun Γ R => δo Γ fun x Γ1 => onT x fun ds => δe Γ1 fun y Γ2 => onS y fun w => txsK ds fun ws => ∃ j : Nat, ws[j]? = some w ∧ (∀ m, m < j → ws[m]? ≠ some w) ∧ R (.d (.int (j : Nat))) Γ2
theorem u_idx {δo : DE} {Γ : DCtx} {R : DK} : dIdx δo δe Γ R = δo Γ fun x Γ1 => onT x fun ds => δe Γ1 fun y Γ2 => onS y fun w => txsK ds fun ws => ∃ j : Nat, ws[j]? = some w ∧ (∀ m, m < j → ws[m]? ≠ some w) ∧ R (.d (.int (j : Nat))) Γ2 := rfl
theorem pd_tupIndex {o : Expr} {δo : DE} {apos : Pos} (hbase : attributeBase o "index" X.env (eval o X.env) = eval o X.env := by rfl)
    (hfew : ((backTo pos (starEach [e] X.env)).all (fun x => !x.1) && (backToKw pos (keywordEach [] X.env)).all (fun x => x.1.isSome)
      && decide (([e] : List Expr).length + ([] : List Keyword).length + (if ([] : List Keyword).isEmpty then 0 else 1) < 30)) = true := by rfl)
    (hline : (apos.endLine == pos.line) = true := by rfl) (hs : starEach [e] X.env = (false, eval e X.env) :: starEach [] X.env := by rfl) (hplain : (backTo pos (starEach [] X.env)).any (·.1) = false := by rfl) (h1 : PD X o δo) (h2 : PD X e δe) : PD X (.Call (.Attribute o "index" apos) [e] [] pos) (dIdx δo δe) := match h1, h2 with
  | ⟨_, ho, so⟩, ⟨_, he, se⟩ => ⟨_, pe_tupIndex ho (pa_cons he pa_nil hs) hbase hfew hline hs hplain, fun B M Γ σ H H0 Q R k q ok => so B M Γ σ H H0 _ _ k q fun v x Γ1 H1 H01 ⟨ds, ex, h1⟩ s1 k1 r1 => by
      subst ex
      obtain ⟨p, vs, rfl, hp, dv⟩ := dp_tuple_inv r1
      refine ⟨p, H01, vs, rfl, k1.sub, k1.cl, hp, se B M Γ1 σ H1 H01 _ _ k1 h1 fun u y Γ2 H2 H02 ⟨w, ey, ws, ed, j, hj, hm, h2⟩ s2 k2 r2 => ?_⟩
      subst ey ed
      cases dpAll_sD dv
      have em : ws.map (fun w => V.str (T w)) = (ws.map T).map V.str := by rw [List.map_map]; rfl
      rw [em] at hp
      refine ⟨ws.map T, T w, j, by rw [dp_str_inv r2], Same.sqT (s2.trans k2.sub) hp, by rw [List.getElem?_map, hj]; rfl, fun m hlt z => hm m hlt ?_, ok _ _ Γ2 H2 H02 h2 (s1.trans s2) k2 (.int _)⟩
      rw [List.getElem?_map] at z
      obtain ⟨x, e1, e2⟩ := Option.map_eq_some_iff.mp z
      rw [e1, T_inj.mp e2]⟩
end
end DL

set_option Elab.async false
set_option linter.all false
set_option maxRecDepth 100000
set_option maxHeartbeats 2000000
set_option autoImplicit false
namespace DL
open PySem PySem.Spec L2 PyProof.Rows
/-! ### [e for x in it for y in text] -/
def nLc2B (γ : DG) (δ1 : DE) (γ1 : DG) (δ : DE) (vs vs1 : List Nat) (R : DOb → DCtx → Prop) (items : List D) (Γ1 : DCtx) : Prop := (∀ i ∈ vs, ∀ p o, Γ1[i]? ≠ some (some (DCell.own p o))) ∧ ∃ W : Nat → List D → DCtx → Prop, W 0 [] Γ1 ∧
  (∀ (i : Nat) acc Γ2 d, items[i]? = some d → W i acc Γ2 → γ d (wipeC Γ2 vs) fun Γ3 => δ1 Γ3 fun y Γ4 => ∃ w : List Nat, y = .d (.str (T w)) ∧ (∀ i ∈ vs1, ∀ p o, Γ4[i]? ≠ some (some (DCell.own p o))) ∧ ∃ W1 : Nat → List D → DCtx → Prop, W1 0 acc Γ4 ∧
    (∀ (j : Nat) acc' Γ5 c, w[j]? = some c → W1 j acc' Γ5 → acc'.length ≤ 1000000 ∧ γ1 (sD [c]) (wipeC Γ5 vs1) fun Γ6 => δ Γ6 fun z Γ7 => ∃ e, z = .d e ∧ W1 (j + 1) (acc' ++ [e]) (restore Γ4 Γ7 vs1)) ∧
    ∀ acc' Γ5, W1 w.length acc' Γ5 → W (i + 1) acc' (restore Γ1 Γ5 vs)) ∧
  ∀ acc Γ2, W items.length acc Γ2 → R (.lst acc) Γ2
def nLc2 (ι : DI) (γ : DG) (δ1 : DE) (γ1 : DG) (δ : DE) (vs vs1 : List Nat) : DN := fun Γ R => ι Γ (nLc2B γ δ1 γ1 δ vs vs1 R)
theorem u_nLc2 {ι : DI} {γ : DG} {δ1 : DE} {γ1 : DG} {δ : DE} {vs vs1 : List Nat} {Γ : DCtx} {R : DOb → DCtx → Prop} : nLc2 ι γ δ1 γ1 δ vs vs1 Γ R = ι Γ (nLc2B γ δ1 γ1 δ vs vs1 R) := rfl
theorem dpAll_lt {K : PySem.W.Frag} {H : Hp} {us : List V} {acc : List D} (da : DpAll K H us acc) (h : acc.length ≤ 1000000) : us.length < sizeLine := by
  rw [DpAll.length da]
  exact Nat.lt_of_le_of_lt h (by decide)
theorem wipe_sub {σ τ : L2.St} {vs vs1 : List Nat} (hv : ∀ i ∈ vs1, i ∈ vs) (h : wipe σ vs1 = wipe τ vs1) : wipe σ vs = wipe τ vs := by
  have hl : σ.length = τ.length := by
    have := congrArg List.length h
    rw [wipe_length, wipe_length] at this
    exact this
  refine wipe_eq hl fun i hi => ?_
  have : (wipe σ vs1)[i]? = (wipe τ vs1)[i]? := by rw [h]
  rw [wipe_get (fun z => hi (hv i z)), wipe_get (fun z => hi (hv i z))] at this
  exact this
theorem simN_lc2 {K : PySem.W.Frag} {wi : TI} {ι : DI} {γ γ1 : DG} {δ1 δ : DE} {vs vs1 : List Nat} (hv : ∀ i ∈ vs1, i ∈ vs) (si : SimI K wi ι) : SimN K (tLc2 wi (rdG K vs γ) (rdT K dYes) (iStr (rd K δ1)) (rdG K vs1 γ1) (rdT K dYes) (rd K δ) vs vs1) (nLc2 ι γ δ1 γ1 δ vs vs1) := by
  intro B M Γ σ H H0 Q R k h q
  refine si B M Γ σ H H0 _ _ k h fun J items Γ1 H1 H01 ⟨hno, W, w0, ws, wd⟩ s1 k1 wk => ?_
  intro Dl hD
  obtain ⟨Y, wk, wy⟩ := wk
  have hB : B Dl = none := k1.base.free hD
  have hM : M Dl = none := (k1.mm.trans k1.sub).free hD
  have outB : ∀ {us : List V} {Γ' : DCtx} {σ' : L2.St} {H' H0' : Hp}, Kn K (upd B Dl (.lst us)) M Γ' σ' H' H0' → Same B H' := fun k a o e => k.base a o (by rw [upd_ne (ne_of_none e hB)]; exact e)
  obtain ⟨Pv, ePv⟩ : ∃ Pv : Nat → Hp → Prop, Pv = fun i H' => ∃ Γ' H0' us acc, W i acc Γ' ∧ Same H01 H0' ∧ DpAll K H0' us acc ∧ Kn K (upd B Dl (.lst us)) M Γ' σ H' H0' := ⟨_, rfl⟩
  refine ⟨fun i m H => m = items.length - i ∧ i ≤ items.length ∧ Pv i H, ⟨items.length, by simp, Nat.zero_le _, by rw [ePv]; exact ⟨Γ1, H01, [], [], w0, Same.refl _, .nil, k1.newB hD⟩⟩, ?_⟩
  rintro i m H2 ⟨rfl, hi, pv⟩
  rw [ePv] at pv
  obtain ⟨Γ', H0', us, acc, w', s', da, k'⟩ := pv
  by_cases hlt : i < items.length
  · refine .inr ⟨wk.goes i H2 hlt ⟨outB k', s'.trans k'.sub⟩, Pv (i + 1), fun H' p' => ⟨items.length - (i + 1), by omega, rfl, hlt, p'⟩, fun x H3 y => ?_⟩
    obtain ⟨d, H4, e, s4, k4, r4⟩ := WalkD.step wy k' s' hlt (wk.yields i H2 x H3 hlt ⟨outB k', s'.trans k'.sub⟩ y)
    have k4w := k4.wipe vs
    have ii : wipe (wipe σ vs) vs = wipe σ vs := wipe_eq (wipe_length _ _) fun j hj => wipe_get hj
    refine ⟨_, M, wipeC Γ' vs, H4, d, _, k4w, r4, ws i acc Γ' d e w', fun Γ5 σ5 h5 k5 e5 => ⟨e5.trans ii, _, M, Γ5, H4, fun b Γ => b = true ∧ δ1 Γ _, k5, ⟨rfl, h5⟩, fun b Γ6 H6 H06 ⟨eb, h6⟩ s6 k6 => ?_⟩⟩
    subst eb
    refine ⟨_, M, Γ6, H06, _, k6, h6, fun v z Γ7 H7 H07 ⟨wd', ez, hno1, W1, w10, ws1, wd1⟩ s7 k7 r7 => ?_⟩
    subst ez
    refine ⟨T wd', dp_str_inv r7, ?_⟩
    have k7 := k7
    obtain ⟨P1, eP1⟩ : ∃ P1 : Nat → Hp → Prop, P1 = fun j H' => ∃ Γ' H0' us acc, W1 j acc Γ' ∧ Same H07 H0' ∧ DpAll K H0' us acc ∧ Kn K (upd B Dl (.lst us)) M Γ' σ5 H' H0' := ⟨_, rfl⟩
    refine ⟨fun j m H => m = wd'.length - j ∧ j ≤ wd'.length ∧ P1 j H, ⟨wd'.length, by simp, Nat.zero_le _, by rw [eP1]; exact ⟨Γ7, H07, us, acc, w10, Same.refl _, dpAll_same ((s4.trans s6).trans s7) da, k7⟩⟩, ?_⟩
    rintro j m H8 ⟨rfl, hj, p1⟩
    rw [eP1] at p1
    obtain ⟨Γ8, H08, us8, acc8, w8, s8, da8, k8⟩ := p1
    have outer : ∀ {H5 : Hp}, Same H4 H5 → ∀ (j : Nat) (d : D), j ∈ vs → Γ1[j]? = some (some (DCell.val d)) → ∃ v, σ[j]? = some (some v) ∧ Dp K H5 v d := fun {H5} s5 j d hj e => by
      obtain ⟨v, x, y⟩ := k1.val j d e
      exact ⟨v, x, dp_same ((s'.trans s4).trans s5) y⟩
    by_cases hjl : j < wd'.length
    · refine .inr ⟨show j < (T wd').cps.size from hjl, P1 (j + 1), fun H' p' => ⟨wd'.length - (j + 1), by omega, rfl, hjl, p'⟩, fun x1 H9 y1 => ?_⟩
      obtain ⟨e9, c, ec, ex⟩ := y1
      subst e9 ex
      have ec : wd'[j]? = some c := by simpa [T] using ec
      obtain ⟨hlen, hw⟩ := ws1 j acc8 Γ8 c ec w8
      have iw : wipe (wipe σ5 vs1) vs1 = wipe σ5 vs1 := wipe_eq (wipe_length _ _) fun j hj => wipe_get hj
      refine ⟨_, M, wipeC Γ8 vs1, H08, sD [c], _, k8.wipe vs1, .str _, hw, fun Γa σa ha ka ea => ⟨ea.trans iw, _, M, Γa, H08, fun b Γ => b = true ∧ δ Γ _, ka, ⟨rfl, ha⟩, fun b Γb Hb H0b ⟨eb, hb⟩ sb kb => ?_⟩⟩
      subst eb
      refine ⟨_, M, Γb, H0b, _, kb, hb, fun u z Γc Hc H0c ⟨ed, ez, hc⟩ sc kc rc => ?_⟩
      subst ez
      have hat : Hc Dl = some (.lst us8) := kc.base Dl _ upd_same
      refine ⟨us8, hat, dpAll_lt da8 hlen, ?_⟩
      rw [eP1]
      refine ⟨_, H0c, us8 ++ [u], acc8 ++ [ed], hc, (s8.trans sb).trans sc, DpAll.append (dpAll_same (sb.trans sc) da8) (.cons rc .nil), ?_⟩
      have kr : Kn K (upd B Dl (.lst us8)) M (restore Γ7 Γc vs1) σ5 Hc H0c := kc.restore k7.len (fun n d hn en => by
        obtain ⟨v, x, y⟩ := k7.val n d en
        exact ⟨v, x, dp_same ((s8.trans sb).trans sc) y⟩) hno1 (ea.trans iw)
      exact kr.setB hM
    · have ej : j = wd'.length := by omega
      subst ej
      refine .inl ⟨Nat.le_refl _, ?_⟩
      rw [ePv]
      exact ⟨_, H08, us8, acc8, wd1 acc8 Γ8 w8, (((s'.trans s4).trans s6).trans s7).trans s8, da8, k8.restore k1.len (outer ((s6.trans s7).trans s8)) hno (e5.trans ii)⟩
  · have e : i = items.length := by omega
    subst e
    exact .inl ⟨wk.stops H2 ⟨outB k', s'.trans k'.sub⟩, q Dl (.lst us) (.lst acc) Γ' H2 H0' (wd acc Γ' w') (s1.trans s') hB hM k' (.lst da)⟩
section
variable {X : Cx} {a b c e : Expr} {pos : Pos} {δa δb δc δe : DE}
theorem pds_lc2D {i : Nat} {y : Str} {py spos : Pos} {elt tg iter tg1 iter1 : Expr} {scope : Scope} {own : List (Str × Nat)} {vs vs1 : List Nat} {ι : DI} {γ γ1 : DG} {δ1 δ : DE} (hc : X.calm = true) (hN : X.N.Nodup) (hy : X.N[i]? = some y) (hyl : X.env.scope.names.lookup y = some .local)
    (hsw : swapsWith (.ListComp elt [⟨tg, iter, [], 0⟩, ⟨tg1, iter1, [], 0⟩] scope pos) (some (.Name y py)) spos.line X.env = pure true) (hv : own.map (·.2) = vs) (hv1 : ∀ i ∈ vs1, i ∈ vs) (hi : PDI X tg iter ι) (ok : BlkOk X.N X.env.scope scope own)
    (hg : ∀ (s : Shared) (H : Hp) (C : Addr) (cl : List (Str × Addr)) (fp : List Addr), PDGv (X.blk s H scope (compEnvC scope cl C X.env) fp) vs tg γ)
    (hi1 : ∀ (s : Shared) (H : Hp) (C : Addr) (cl : List (Str × Addr)) (fp : List Addr), PD (X.blk s H scope (compEnvC scope cl C X.env) fp) iter1 δ1)
    (hg1 : ∀ (s : Shared) (H : Hp) (C : Addr) (cl : List (Str × Addr)) (fp : List Addr), PDGv (X.blk s H scope (compEnvC scope cl C X.env) fp) vs1 tg1 γ1)
    (he : ∀ (s : Shared) (H : Hp) (C : Addr) (cl : List (Str × Addr)) (fp : List Addr), PD (X.blk s H scope (compEnvC scope cl C X.env) fp) elt δ) (hs : ∀ x, foldedSetIterable iter X.env x = pure x := by intro _; rfl) (hs1 : ∀ env x, foldedSetIterable iter1 env x = pure x := by intro _ _; rfl) :
    PDS X (.Assign [.Name y py] (.ListComp elt [⟨tg, iter, [], 0⟩, ⟨tg1, iter1, [], 0⟩] scope pos) spos) (sSet (dFrz (nLc2 ι γ δ1 γ1 δ vs vs1)) (gNm i)) := by
  subst hv
  obtain ⟨wi, pi, si⟩ := hi
  refine ⟨_, ps_setLc2 (g := rdG X.K (List.map (fun z : Str × Nat => z.2) own) γ) (tt := rdT X.K dYes) (wi1 := iStr (rd X.K δ1)) (g1 := rdG X.K vs1 γ1) (tt1 := rdT X.K dYes) (te := rd X.K δ) hc hN hy hyl hsw pi ok hv1 hg (fun _ _ _ _ _ => pdts_nil) (fun s H C cl fp => pi_str (hi1 s H C cl fp).pe) hg1 (fun _ _ _ _ _ => pdts_nil) (fun s H C cl fp => (he s H C cl fp).pe) hs hs1, ?_⟩
  have s := sim_frz (simN_lc2 (γ := γ) (γ1 := γ1) (δ1 := δ1) (δ := δ) hv1 si)
  intro B M Γ σ H H0 E D k q ok
  refine s B M Γ σ H H0 _ _ k q fun v x Γ1 H1 H01 h1 s1 k1 r1 => ?_
  obtain ⟨d, Γ2, H02, h2, s2, k2, r2⟩ := asD_ok k1 r1 h1
  exact ok.nx _ _ H1 H02 h2 (s1.trans s2) (k2.set r2)
end
theorem lc2_use {α : Type} {γ γ1 : DG} {δ1 δ : DE} {vs vs1 : List Nat} {Γ1 : DCtx} {R : DOb → DCtx → Prop} (xs : List α) (enc : α → D) (w : List Nat) (g : α → Nat → D) (ctx : α → DCtx) (ctx2 : α → Nat → DCtx) (hno : ∀ i ∈ vs, ∀ p o, Γ1[i]? ≠ some (some (DCell.own p o))) (hno1 : ∀ x, ∀ i ∈ vs1, ∀ p o, (ctx x)[i]? ≠ some (some (DCell.own p o))) (hb : xs.length * w.length ≤ 1000000)
    (h1 : ∀ x ∈ xs, ∀ P : DV → DCtx → Prop, P (.d (.str (T w))) (ctx x) → γ (enc x) (wipeC Γ1 vs) fun Γ3 => δ1 Γ3 P) (h2 : ∀ x ∈ xs, ∀ c ∈ w, ∀ P : DV → DCtx → Prop, P (.d (g x c)) (ctx2 x c) → γ1 (sD [c]) (wipeC (ctx x) vs1) fun Γ6 => δ Γ6 P)
    (h3 : ∀ x c, restore (ctx x) (ctx2 x c) vs1 = ctx x) (h4 : ∀ x, restore Γ1 (ctx x) vs = Γ1) (hR : R (.lst (xs.flatMap fun x => w.map (g x))) Γ1) : nLc2B γ δ1 γ1 δ vs vs1 R (xs.map enc) Γ1 := by
  have flen : ∀ l : List α, (l.flatMap fun x => w.map (g x)).length = l.length * w.length := fun l => by
    induction l with
    | nil => simp
    | cons a l ih => rw [List.flatMap_cons, List.length_append, ih, List.length_map, List.length_cons, Nat.succ_mul, Nat.add_comm]
  refine ⟨hno, fun i acc Γ => Γ = Γ1 ∧ acc = (xs.take i).flatMap fun x => w.map (g x), ⟨rfl, by simp⟩, ?_, ?_⟩
  · rintro i acc Γ2 d hd ⟨rfl, rfl⟩
    rw [List.getElem?_map] at hd
    cases hx : xs[i]? with
    | none => rw [hx] at hd; cases hd
    | some x =>
      rw [hx] at hd
      cases hd
      have hi := (List.getElem?_eq_some_iff.mp hx).1
      have ht : xs.take (i + 1) = xs.take i ++ [x] := by rw [List.take_add_one, hx]; rfl
      have hmx : x ∈ xs := List.mem_of_getElem? hx
      refine h1 x hmx _ ⟨w, rfl, hno1 x, fun j acc' Γ => Γ = ctx x ∧ acc' = ((xs.take i).flatMap fun x => w.map (g x)) ++ (w.take j).map (g x), ⟨rfl, by simp⟩, ?_, ?_⟩
      · rintro j acc' Γ5 c hc ⟨rfl, rfl⟩
        refine ⟨?_, h2 x hmx c (List.mem_of_getElem? hc) _ ⟨_, rfl, h3 x c, ?_⟩⟩
        · rw [List.length_append, flen, List.length_map, List.length_take, List.length_take]
          have hj := (List.getElem?_eq_some_iff.mp hc).1
          have e1 : min i xs.length = i := by omega
          rw [e1]
          have : i * w.length + w.length ≤ xs.length * w.length := by
            rw [← Nat.succ_mul]; exact Nat.mul_le_mul_right _ hi
          omega
        · rw [List.append_assoc]
          congr 1
          rw [List.take_add_one, hc, List.map_append]
          rfl
      · rintro acc' Γ5 ⟨rfl, rfl⟩
        refine ⟨h4 x, ?_⟩
        rw [ht, List.flatMap_append, List.take_of_length_le (Nat.le_refl _)]
        simp
  · rintro acc Γ2 ⟨rfl, rfl⟩
    rw [List.length_map, List.take_of_length_le (Nat.le_refl _)]
    exact hR
end DL

set_option Elab.async false
set_option linter.all false
set_option maxRecDepth 100000
set_option maxHeartbeats 2000000
set_option autoImplicit false
namespace DL
open PySem PySem.Spec L2 PyProof.Rows
/-! ### x, y = a, b; x, y, z = a, b, c: x a new object of one's own -/
section
variable {X : Cx} {a b c e : Expr} {pos : Pos} {δa δb δc δe : DE} {ν : DN}
def sParN (i j : Nat) (ν : DN) (δ : DE) : DS := fun D Γ => ν Γ fun o Γ1 => δ Γ1 fun y Γ2 => onD y fun d => ∀ p, setK Γ2 i (some (DCell.own p o)) fun Γ3 => setK Γ3 j (some (DCell.val d)) D.nx
theorem u_parN {i j : Nat} {δ : DE} {D₀ : DEnds} {Γ : DCtx} : sParN i j ν δ D₀ Γ = ν Γ fun o Γ1 => δ Γ1 fun y Γ2 => onD y fun d => ∀ p, setK Γ2 i (some (DCell.own p o)) fun Γ3 => setK Γ3 j (some (DCell.val d)) D₀.nx := rfl
theorem pds_parN {i j : Nat} {x y : Str} {px py pt : Pos} {kt k2 : Nat} {pt2 : Pos} (hc : X.calm = true) (hN : X.N.Nodup) (hi : X.N[i]? = some x := by rfl) (hj : X.N[j]? = some y := by rfl) (hij : i ≠ j := by decide)
    (hx : X.env.scope.names.lookup x = some .local := by rfl) (hy : X.env.scope.names.lookup y = some .local := by rfl)
    (hw : swappedStores [.Tuple [.Name x px, .Name y py] kt pt] (.Tuple [a, b] k2 pt2) X.env = pure (some [x, y]) := by rfl)
    (hs : swapsWithSole [.Tuple [.Name x px, .Name y py] kt pt] (.Tuple [a, b] k2 pt2) pos.line X.env = pure false := by rfl)
    (ha : starEach [a, b] X.env = (false, eval a X.env) :: starEach [b] X.env := by rfl) (hb : starEach [b] X.env = (false, eval b X.env) :: starEach [] X.env := by rfl) (h1 : PDN X a ν) (h2 : PD X b δb) : PDS X (.Assign [.Tuple [.Name x px, .Name y py] kt pt] (.Tuple [a, b] k2 pt2) pos) (sParN i j ν δb) := match h1, h2 with
  | ⟨_, h, s⟩, ⟨_, hb2, sb⟩ => ⟨_, ps_par hc hN hi hj hij hx hy (pa_cons h (pa_cons hb2 pa_nil hb) ha) hw hs, fun B M Γ σ H H0 E D k q ok => s B M Γ σ H H0 _ _ k q fun p ho o Γ1 H1 H01 h1 s1 hB hM k1 ok1 => sb (upd B p ho) M Γ1 σ H1 H01 _ _ k1 h1 fun v y Γ2 H2 H02 ⟨d, ey, h2⟩ s2 k2 r2 => by
      subst ey
      exact ⟨_, _, rfl, ok.nx _ _ H2 H02 (h2 p) (s1.trans s2) ((k2.takeB hB hM (obOk_same s2 ok1)).set r2)⟩⟩
def sPar3N (i j l : Nat) (ν : DN) (δb δc : DE) : DS := fun D Γ => ν Γ fun o Γ1 => δb Γ1 fun y Γ2 => δc Γ2 fun z Γ3 => onD y fun d => onD z fun e => ∀ p, setK Γ3 i (some (DCell.own p o)) fun Γ4 => setK Γ4 j (some (DCell.val d)) fun Γ5 => setK Γ5 l (some (DCell.val e)) D.nx
theorem u_par3N {i j l : Nat} {D₀ : DEnds} {Γ : DCtx} : sPar3N i j l ν δb δc D₀ Γ = ν Γ fun o Γ1 => δb Γ1 fun y Γ2 => δc Γ2 fun z Γ3 => onD y fun d => onD z fun e => ∀ p, setK Γ3 i (some (DCell.own p o)) fun Γ4 => setK Γ4 j (some (DCell.val d)) fun Γ5 => setK Γ5 l (some (DCell.val e)) D₀.nx := rfl
theorem pds_par3N {i j l : Nat} {x y z : Str} {px py pz pt : Pos} {kt k2 : Nat} {pt2 : Pos} (hc : X.calm = true) (hN : X.N.Nodup) (hi : X.N[i]? = some x := by rfl) (hj : X.N[j]? = some y := by rfl) (hl : X.N[l]? = some z := by rfl) (hij : i ≠ j := by decide) (hil : i ≠ l := by decide) (hjl : j ≠ l := by decide)
    (hx : X.env.scope.names.lookup x = some .local := by rfl) (hy : X.env.scope.names.lookup y = some .local := by rfl) (hz : X.env.scope.names.lookup z = some .local := by rfl)
    (hw : swappedStores [.Tuple [.Name x px, .Name y py, .Name z pz] kt pt] (.Tuple [a, b, c] k2 pt2) X.env = pure (some [x, y, z]) := by rfl)
    (hs : swapsWithSole [.Tuple [.Name x px, .Name y py, .Name z pz] kt pt] (.Tuple [a, b, c] k2 pt2) pos.line X.env = pure false := by rfl)
    (ha : starEach [a, b, c] X.env = (false, eval a X.env) :: starEach [b, c] X.env := by rfl) (hb : starEach [b, c] X.env = (false, eval b X.env) :: starEach [c] X.env := by rfl) (hcc : starEach [c] X.env = (false, eval c X.env) :: starEach [] X.env := by rfl) (h1 : PDN X a ν) (h2 : PD X b δb) (h3 : PD X c δc) : PDS X (.Assign [.Tuple [.Name x px, .Name y py, .Name z pz] kt pt] (.Tuple [a, b, c] k2 pt2) pos) (sPar3N i j l ν δb δc) := match h1, h2, h3 with
  | ⟨_, h, s⟩, ⟨_, hb2, sb⟩, ⟨_, hc2, sc⟩ => ⟨_, ps_par3 hc hN hi hj hl hij hil hjl hx hy hz (pa_cons h (pa_cons hb2 (pa_cons hc2 pa_nil hcc) hb) ha) hw hs, fun B M Γ σ H H0 E D k q ok => s B M Γ σ H H0 _ _ k q fun p ho o Γ1 H1 H01 h1 s1 hB hM k1 ok1 => sb (upd B p ho) M Γ1 σ H1 H01 _ _ k1 h1 fun v y Γ2 H2 H02 h2 s2 k2 r2 =>
      sc (upd B p ho) M Γ2 σ H2 H02 _ _ k2 h2 fun u z Γ3 H3 H03 ⟨d, ey, de, ez, h3⟩ s3 k3 r3 => by
        subst ey ez
        exact ⟨_, _, _, rfl, ok.nx _ _ H3 H03 (h3 p) ((s1.trans s2).trans s3) (((k3.takeB hB hM (obOk_same (s2.trans s3) ok1)).set (dp_same s3 r2)).set r3)⟩⟩
def sPar3 (i j l : Nat) (α : DA) : DS := fun D Γ => α Γ fun xs Γ1 => outsK xs fun ds => ∃ a b c, ds = [a, b, c] ∧ setK Γ1 i (some (DCell.val a)) fun Γ2 => setK Γ2 j (some (DCell.val b)) fun Γ3 => setK Γ3 l (some (DCell.val c)) D.nx
def three (ds : List D) (k : D → D → D → Prop) : Prop := ∃ a b c, ds = [a, b, c] ∧ k a b c
theorem u_three {a b c : D} {k : D → D → D → Prop} : three [a, b, c] k = k a b c := propext ⟨fun ⟨_, _, _, e, h⟩ => by cases e; exact h, fun h => ⟨_, _, _, rfl, h⟩⟩
theorem u_par3 {i j l : Nat} {α : DA} {D₀ : DEnds} {Γ : DCtx} : sPar3 i j l α D₀ Γ = α Γ fun xs Γ1 => outsK xs fun ds => three ds fun a b c => setK Γ1 i (some (DCell.val a)) fun Γ2 => setK Γ2 j (some (DCell.val b)) fun Γ3 => setK Γ3 l (some (DCell.val c)) D₀.nx := rfl
theorem pds_par3 {i j l : Nat} {x y z : Str} {α : DA} {px py pz pt : Pos} {kt k2 : Nat} {pt2 : Pos} (hc : X.calm = true) (hN : X.N.Nodup) (hi : X.N[i]? = some x := by rfl) (hj : X.N[j]? = some y := by rfl) (hl : X.N[l]? = some z := by rfl) (hij : i ≠ j := by decide) (hil : i ≠ l := by decide) (hjl : j ≠ l := by decide)
    (hx : X.env.scope.names.lookup x = some .local := by rfl) (hy : X.env.scope.names.lookup y = some .local := by rfl) (hz : X.env.scope.names.lookup z = some .local := by rfl)
    (hw : swappedStores [.Tuple [.Name x px, .Name y py, .Name z pz] kt pt] (.Tuple [a, b, c] k2 pt2) X.env = pure (some [x, y, z]) := by rfl)
    (hs : swapsWithSole [.Tuple [.Name x px, .Name y py, .Name z pz] kt pt] (.Tuple [a, b, c] k2 pt2) pos.line X.env = pure false := by rfl) (h1 : PDA X [a, b, c] α) : PDS X (.Assign [.Tuple [.Name x px, .Name y py, .Name z pz] kt pt] (.Tuple [a, b, c] k2 pt2) pos) (sPar3 i j l α) := match h1 with
  | ⟨_, h, s⟩ => ⟨_, ps_par3 hc hN hi hj hl hij hil hjl hx hy hz h hw hs, fun B M Γ σ H H0 E D k q ok => s B M Γ σ H H0 _ _ k q fun vs xs Γ1 H1 H01 ⟨ds, eo, da, db, dc, e, h1⟩ s1 k1 r1 => by
      subst e
      cases outs_eq eo
      cases r1 with
      | cons ra r1 =>
        cases r1 with
        | cons rb r1 =>
          cases r1 with
          | cons rc r1 =>
            cases r1
            exact ⟨_, _, _, rfl, ok.nx _ _ H1 H01 h1 s1 (((k1.set ra).set rb).set rc)⟩⟩
/-! ### {k: v} -/
def nDisp1 (δk δv : DE) : DN := fun Γ R => δk Γ fun x Γ1 => δv Γ1 fun y Γ2 => keyK x fun q => onD y fun d => R (.dK [(q, d)]) Γ2
theorem u_disp1 {δk δv : DE} {Γ : DCtx} {R : DOb → DCtx → Prop} : nDisp1 δk δv Γ R = δk Γ fun x Γ1 => δv Γ1 fun y Γ2 => keyK x fun q => onD y fun d => R (.dK [(q, d)]) Γ2 := rfl
theorem pdn_disp1 (hall : ([some a] : List (Option Expr)).all (·.isSome) = true := by rfl) (h1 : PD X a δa) (h2 : PD X b δb) : PDN X (.Dict [some a] [b] pos) (nDisp1 δa δb) := match h1, h2 with
  | ⟨_, ha, sa⟩, ⟨_, hb, sb⟩ => ⟨_, pe_disp (pps_cons ha hb pps_nil) hall rfl (List.cons_ne_nil _ _) (by show 1 ≤ 15; decide), fun B M Γ σ H H0 Q R k q ok p hp => by
      have k1 := k.newB (o := .dK []) hp
      have hB : B p = none := k.base.free hp
      have hM : M p = none := (k.mm.trans k.sub).free hp
      refine sa (upd B p (.dK [])) M Γ σ _ H0 _ _ k1 q fun v x Γ1 H1 H01 h1 s1 k2 r1 => sb (upd B p (.dK [])) M Γ1 σ H1 H01 _ _ k2 h1 fun u y Γ2 H2 H02 ⟨kk, ex, d, ey, h2⟩ s2 k3 r2 => ?_
      subst ex ey
      refine ⟨k3.base p _ upd_same, [(kk, u)], by rw [dp_kD (dp_same s2 r1)]; rfl, by show 1 ≤ 15; decide, ?_⟩
      exact ok p (.dK [(kk, u)]) (.dK [(kk, d)]) Γ2 _ H02 h2 (s1.trans s2) hB hM (k3.setB hM) (.dK (.cons ⟨rfl, r2⟩ .nil))⟩
/-! ### xs.extend(new list), xs of one's own -/
theorem Kn.dropB {K : PySem.W.Frag} {B M : Hp} {Γ : DCtx} {σ : L2.St} {H H0 : Hp} {p : Addr} {o : HO} (k : Kn K (upd B p o) M Γ σ H H0) (hB : B p = none) : Kn K B M Γ σ H H0 := by
  refine ⟨fun b x e => k.base b x (by rw [upd_ne (ne_of_none e hB)]; exact e), k.mm, k.sub, fun a x e n => k.new a x (by rw [upd_ne (ne_of_none e hB)]; exact e) n, k.len, k.val, fun i q o2 e => ?_, k.sep, k.cl⟩
  obtain ⟨h, x, b0, y⟩ := k.own i q o2 e
  refine ⟨h, x, ?_, y⟩
  by_cases z : q = p
  · subst z; exact hB
  · rw [upd_ne z] at b0; exact b0
def dExt (δo : DE) (ν : DN) : DE := fun Γ R => δo Γ fun x Γ1 => onO x fun j => lkV Γ1 j fun c => ownK c fun _ o => obL o fun _ => ν Γ1 fun ob Γ2 => obL ob fun es => lkV Γ2 j fun c2 => ownK c2 fun p o2 => obL o2 fun ds => ds.length + es.length ≤ 1000000 ∧ setK Γ2 j (some (DCell.own p (.lst (ds ++ es)))) fun Γ3 => R (.d .none) Γ3
theorem u_ext {δo : DE} {Γ : DCtx} {R : DK} : dExt δo ν Γ R = δo Γ fun x Γ1 => onO x fun j => lkV Γ1 j fun c => ownK c fun _ o => obL o fun _ => ν Γ1 fun ob Γ2 => obL ob fun es => lkV Γ2 j fun c2 => ownK c2 fun p o2 => obL o2 fun ds => ds.length + es.length ≤ 1000000 ∧ setK Γ2 j (some (DCell.own p (.lst (ds ++ es)))) fun Γ3 => R (.d .none) Γ3 := rfl
theorem pd_extend {o : Expr} {δo : DE} {apos : Pos} (hbase : attributeBase o "extend" X.env (eval o X.env) = eval o X.env := by rfl)
    (hfew : ((backTo pos (starEach [e] X.env)).all (fun x => !x.1) && (backToKw pos (keywordEach [] X.env)).all (fun x => x.1.isSome)
      && decide (([e] : List Expr).length + ([] : List Keyword).length + (if ([] : List Keyword).isEmpty then 0 else 1) < 30)) = true := by rfl)
    (hline : (apos.endLine == pos.line) = true := by rfl) (hs : starEach [e] X.env = (false, eval e X.env) :: starEach [] X.env := by rfl) (hplain : (backTo pos (starEach [] X.env)).any (·.1) = false := by rfl) (h1 : PD X o δo) (h2 : PDN X e ν) : PD X (.Call (.Attribute o "extend" apos) [e] [] pos) (dExt δo ν) := match h1, h2 with
  | ⟨_, ho, so⟩, ⟨_, he, se⟩ => ⟨_, pe_bm PySem.F.plainAttrs_list PySem.F.slot_list_extend PySem.F.type_list_extend mt_extend ho (pa_cons he pa_nil hs) hbase hfew hline hs hplain, fun B M Γ σ H H0 Q R k q ok => so B M Γ σ H H0 _ _ k q fun v x Γ1 H1 H01 ⟨j, ex, c, ec, pc, oc, eoc, ds0, eds, h1⟩ s1 k1 r1 => by
      subst ex eoc eds
      have r1 : σ[j]? = some (some v) := r1
      obtain ⟨vs, x1, hp, _⟩ := k1.ownL ec
      rw [x1] at r1; cases r1
      refine ⟨.inl ⟨rfl, vs, .inl (.inl hp)⟩, se B M Γ1 σ H1 H01 _ _ k1 h1 fun p2 ho2 ob Γ2 H2 H02 ⟨es, eob, c2, ec2, p3, o3, eo3, ds, eds2, hz, h2⟩ s2 hB hM k2 ok2 => ?_⟩
      subst eob eo3 eds2
      cases ok2 with
      | @lst _ us d2 =>
        obtain ⟨vs2, x2, hp2, dv2⟩ := k2.ownL ec2
        rw [x1] at x2; cases x2
        refine ⟨pc, p2, vs2, us, rfl, rfl, hp2, k2.base p2 _ upd_same, ?_, ok _ _ _ _ H02 h2 (s1.trans s2) ((k2.dropB hB).put ec2 (.lst (DpAll.append dv2 d2))) .non⟩
        rw [DpAll.length dv2, DpAll.length d2]
        exact line_m hz⟩
/-! ### min(xs), data of any kind -/
def rMinD (K : PySem.W.Frag) : List V → Hp → VK → Prop := fun vs H Q => ∃ M x d ds, vs = [x] ∧ Same M H ∧ Dp K M x (.list (d :: ds)) ∧ PySem.W.AlikeAll (d :: ds) ∧ PyData.depthAll (d :: ds) ≤ 60 ∧ ∀ v, Dp K M v (PySem.W.minD d ds) → Q v H
theorem cr_minD (hc : X.calm = true) (hu : X.A.units + 100 < cLine) : CallR X (.builtin "min") (rMinD X.K) := by
  intro pins s σ H vs us Q I r h
  obtain ⟨M, x, d, ds, rfl, sm, hx, hal, hd, q⟩ := h
  obtain ⟨a, xs, rfl, hs, da⟩ := dp_list_inv hx
  rw [Vals.ref1 r]
  obtain ⟨its, rv, hl, hz⟩ := I.list (sm.seq hs)
  have er := each_reads I (dpAll_same sm da) rv
  have hlen := DpAll.length da
  have es : (xs.zip (d :: ds)).map Prod.snd = d :: ds := zip_snd hlen
  obtain ⟨as, ra⟩ := PySem.W.each_readsAll Prod.snd er
  rw [es] at ra
  refine PySem.W.min_list_data (I.ok.hd hc) hl.isList (by simpa using ra) hal (by omega) fun i v h' tk bs hv hr hk => ?_
  have hv : its[i]? = some v := by simpa using hv
  have hi : i < its.length := (List.getElem?_eq_some_iff.mp hv).1
  obtain ⟨y, hy, ry⟩ : ∃ y, xs[i]? = some y ∧ RelV y v := by
    have hix : i < xs.length := by rw [rv.length]; exact hi
    obtain ⟨w, hw, hr⟩ := rv.get (List.getElem?_eq_getElem hix)
    rw [hv] at hw; cases hw
    exact ⟨_, List.getElem?_eq_getElem hix, hr⟩
  obtain ⟨dy, hdy, ddy⟩ := dpAll_at da hy
  obtain ⟨as2, rd⟩ := Dp.reads I _ _ _ (dp_same sm ddy) ry
  have e := (reads_det (h := s.heap) (h' := h') (fun b o e _ => hk b o e) rd hr).1
  refine ⟨y, H, I.kept (t' := tk) hk, ry, q y ?_⟩
  rw [e]; exact ddy
def dMinD : DRC := fun xs Γ R => one1 xs fun x => onLd x fun l => ∃ d ds, l = d :: ds ∧ PySem.W.AlikeAll (d :: ds) ∧ PyData.depthAll (d :: ds) ≤ 60 ∧ R (.d (PySem.W.minD d ds)) Γ
theorem u_minD {xs : List DV} {Γ : DCtx} {R : DK} : dMinD xs Γ R = one1 xs fun x => onLd x fun l => ∃ d ds, l = d :: ds ∧ PySem.W.AlikeAll (d :: ds) ∧ PyData.depthAll (d :: ds) ≤ 60 ∧ R (.d (PySem.W.minD d ds)) Γ := rfl
theorem cs_minD {K : PySem.W.Frag} : CSim K (rMinD K) dMinD := by
  intro B M Γ σ H H0 Q R xs vs k r ⟨x, e, l, ex, d, ds, el, ha, hd, h1⟩ q
  subst e ex el
  cases r with
  | cons r1 r2 =>
    cases r2
    exact ⟨H0, _, d, ds, rfl, k.sub, r1, ha, hd, fun v dv => q _ _ Γ H H0 h1 (Same.refl _) k dv⟩
end
end DL

set_option Elab.async false
set_option linter.all false
set_option maxRecDepth 100000
set_option maxHeartbeats 2000000
set_option autoImplicit false
namespace DL
open PySem PySem.Spec L2 PyProof.Rows
/-! ### enumerate(list or tuple) -/
def Ien (S : Hp → List V → Prop) : It :=
  ⟨fun i H => ∃ (xs : List V) (x : V), S H xs ∧ xs[i]? = some x, fun i H v H' => ∃ t o x, v = .ref t ∧ H t = none ∧ H' = upd H t (.frz o (.tup [.int (i : Nat), x])) ∧ o.dict = none ∧ ∀ xs, S H xs → xs[i]? = some x, fun i H => ∃ xs : List V, S H xs ∧ xs.length = i⟩
theorem turn_enL {P : Program} {w : World} {K : PySem.W.Frag} {elts : List Expr} {kk : Nat} {tpos : Pos} (a e it : Addr) :
    Turn P w K (.Tuple elts kk tpos) (Ien fun H => SqL K H a) [e, it] e (fun i h => (∃ old, IsEnum h e it ((i : Nat) : Int) old) ∧ h.IsListIter it a i ∧ e ≠ it ∧ e ≠ a ∧ a ≠ it) where
  mem := by simp
  obj := fun i h st b hb => by
    obtain ⟨⟨old, he⟩, ⟨o, ho, hc, hd⟩, _⟩ := st
    have e' : b = e ∨ b = it := by simpa using hb
    rcases e' with z | z
    · rw [z]; exact ⟨_, he, fun v q => nomatch q⟩
    · rw [z]; exact ⟨o, ho, fun v q => by rw [hd] at q; cases q⟩
  keep := fun i h h' st k => by
    obtain ⟨⟨old, he⟩, ⟨o, ho, r⟩, hne⟩ := st
    exact ⟨⟨old, k e (by simp) _ he⟩, ⟨o, k it (by simp) o ho, r⟩, hne⟩
  item := by
    intro X hP hw hK hc i pins s σ H E I hf st hg
    subst hP hw hK
    obtain ⟨⟨old, he⟩, hit, hne, hea, hai⟩ := st
    obtain ⟨xs, x, hq, hx⟩ := hg
    obtain ⟨its, rv, p, hz⟩ := I.list hq
    obtain ⟨u, hu, ru⟩ := rv.get hx
    have hel : e < s.heap.objs.size := Heap.lt_size he
    have hil : it < s.heap.objs.size := by obtain ⟨_, q, _⟩ := hit; exact Heap.lt_size q
    have D := Draws.list (prog := X.prog) (w := X.w) (A := X.A.in1) (show X.A.in1.handled = none from I.ok.hd hc) it a hai its.toArray
    refine wpAny_pyNext_enum_itemC D he ⟨hit, p.isList⟩ (by simpa using (List.getElem?_eq_some_iff.mp hu).1) hne (by simp [hne, hea]) fun u' h' tk eu ho hit' hT hsz hk => ?_
    have eu : u' = u := by
      have : its[i]? = some u' := by simpa using eu
      rw [hu] at this; exact (Option.some.inj this).symm
    subst eu
    refine ⟨_, rfl, wpAny_letOwnedTupleGo_enum (s := { s with heap := h', toks := tk + 1 }) ho fun h'' he' sb => ?_⟩
    have hT2 : h''.get? s.heap.objs.size = some { cls := .type "tuple", data := .seq #[.int i tk, u'] } := (sb.2 _ (Nat.ne_of_gt hel)).trans hT
    have new : ObjOk X.prog X.w (upd H s.heap.objs.size (.frz { cls := .type "tuple", data := .seq #[.int i tk, u'] } (.tup [.int (i : Nat), x]))) h'' s.heap.objs.size (.frz { cls := .type "tuple", data := .seq #[.int i tk, u'] } (.tup [.int (i : Nat), x])) :=
      ⟨hT2, by show 2 ≤ sizeLine; decide, [.int i tk, u'], .cons ⟨_, rfl⟩ (.cons ru .nil), ⟨_, hT2, rfl, _, rfl⟩⟩
    have I1 : L2.Inv X pins σ (upd H s.heap.objs.size (.frz { cls := .type "tuple", data := .seq #[.int i tk, u'] } (.tup [.int (i : Nat), x]))) { s with heap := h'', toks := tk + 1 } :=
      I.turnedNew (ch := [e, it]) (fun b ob hb q => (sb.2 b (fun z => hb (by simp [z]))).trans (hk b ob (fun z => hb (by simp [z])) (fun z => hb (by simp [z])) q)) hf (Nat.le_refl _) new
    refine ⟨.ref s.heap.objs.size, _, I1, rfl, ⟨_, _, x, rfl, I.hok.fresh (Nat.le_refl _), rfl, rfl, fun ys hy => by rw [I.list_inj hy hq]; exact hx⟩, ⟨⟨u', ?_⟩, hit'.1.at fun o q => (sb.2 it (Ne.symm hne)).trans q, hne, hea, hai⟩, fun b hb => ?_⟩
    · have e1 : ((i + 1 : Nat) : Int) = (i : Int) + 1 := by omega
      rw [e1]; exact he'
    · have hb' : b < s.heap.objs.size := by
        have e' : b = e ∨ b = it := by simpa using hb
        rcases e' with z | z
        · rw [z]; exact hel
        · rw [z]; exact hil
      rw [upd_ne (Nat.ne_of_lt hb')]
      exact (hf b hb).1
  done := by
    intro X hP hw hK hc i pins s σ H E I hf st hg
    subst hP hw hK
    obtain ⟨⟨old, he⟩, hit, hne, hea, hai⟩ := st
    obtain ⟨xs, hq, hx⟩ := hg
    obtain ⟨its, rv, p, hz⟩ := I.list hq
    obtain ⟨f0, f1, f2, f3, f4, f5⟩ := hf it (by simp)
    have hl := rv.length
    have D := Draws.list (prog := X.prog) (w := X.w) (A := X.A.in1) (show X.A.in1.handled = none from I.ok.hd hc) it a hai its.toArray
    have ei : i = its.toArray.size := by rw [List.size_toArray]; omega
    rw [ei] at hit
    exact wpAny_pyNext_enum_endD D he ⟨hit, p.isList⟩ fun h' eb => ⟨rfl, I.turned (t' := s.toks) (fun b o hb q => eb b o hb q) f0 f1 f3 f4 f5⟩
  self := fun A i s Q E st h => let ⟨⟨_, he⟩, _⟩ := st; wpAny_pyIter_enum he h
theorem turn_enT {P : Program} {w : World} {K : PySem.W.Frag} {elts : List Expr} {kk : Nat} {tpos : Pos} (a e it : Addr) :
    Turn P w K (.Tuple elts kk tpos) (Ien fun H => SqT K H a) [e, it] e (fun i h => (∃ old, IsEnum h e it ((i : Nat) : Int) old) ∧ h.IsTupleIter it a i ∧ e ≠ it ∧ e ≠ a ∧ a ≠ it) where
  mem := by simp
  obj := fun i h st b hb => by
    obtain ⟨⟨old, he⟩, ⟨o, ho, hc, hd⟩, _⟩ := st
    have e' : b = e ∨ b = it := by simpa using hb
    rcases e' with z | z
    · rw [z]; exact ⟨_, he, fun v q => nomatch q⟩
    · rw [z]; exact ⟨o, ho, fun v q => by rw [hd] at q; cases q⟩
  keep := fun i h h' st k => by
    obtain ⟨⟨old, he⟩, ⟨o, ho, r⟩, hne⟩ := st
    exact ⟨⟨old, k e (by simp) _ he⟩, ⟨o, k it (by simp) o ho, r⟩, hne⟩
  item := by
    intro X hP hw hK hc i pins s σ H E I hf st hg
    subst hP hw hK
    obtain ⟨⟨old, he⟩, hit, hne, hea, hai⟩ := st
    obtain ⟨xs, x, hq, hx⟩ := hg
    obtain ⟨its, rv, p, hz⟩ := I.tuple hq
    obtain ⟨u, hu, ru⟩ := rv.get hx
    have hel : e < s.heap.objs.size := Heap.lt_size he
    have hil : it < s.heap.objs.size := by obtain ⟨_, q, _⟩ := hit; exact Heap.lt_size q
    have D := Draws.tuple (prog := X.prog) (w := X.w) (A := X.A.in1) (show X.A.in1.handled = none from I.ok.hd hc) it a hai its.toArray
    refine wpAny_pyNext_enum_itemC D he ⟨hit, p⟩ (by simpa using (List.getElem?_eq_some_iff.mp hu).1) hne (by simp [hne, hea]) fun u' h' tk eu ho hit' hT hsz hk => ?_
    have eu : u' = u := by
      have : its[i]? = some u' := by simpa using eu
      rw [hu] at this; exact (Option.some.inj this).symm
    subst eu
    refine ⟨_, rfl, wpAny_letOwnedTupleGo_enum (s := { s with heap := h', toks := tk + 1 }) ho fun h'' he' sb => ?_⟩
    have hT2 : h''.get? s.heap.objs.size = some { cls := .type "tuple", data := .seq #[.int i tk, u'] } := (sb.2 _ (Nat.ne_of_gt hel)).trans hT
    have new : ObjOk X.prog X.w (upd H s.heap.objs.size (.frz { cls := .type "tuple", data := .seq #[.int i tk, u'] } (.tup [.int (i : Nat), x]))) h'' s.heap.objs.size (.frz { cls := .type "tuple", data := .seq #[.int i tk, u'] } (.tup [.int (i : Nat), x])) :=
      ⟨hT2, by show 2 ≤ sizeLine; decide, [.int i tk, u'], .cons ⟨_, rfl⟩ (.cons ru .nil), ⟨_, hT2, rfl, _, rfl⟩⟩
    have I1 : L2.Inv X pins σ (upd H s.heap.objs.size (.frz { cls := .type "tuple", data := .seq #[.int i tk, u'] } (.tup [.int (i : Nat), x]))) { s with heap := h'', toks := tk + 1 } :=
      I.turnedNew (ch := [e, it]) (fun b ob hb q => (sb.2 b (fun z => hb (by simp [z]))).trans (hk b ob (fun z => hb (by simp [z])) (fun z => hb (by simp [z])) q)) hf (Nat.le_refl _) new
    refine ⟨.ref s.heap.objs.size, _, I1, rfl, ⟨_, _, x, rfl, I.hok.fresh (Nat.le_refl _), rfl, rfl, fun ys hy => by rw [I.tuple_inj hy hq]; exact hx⟩, ⟨⟨u', ?_⟩, hit'.1.at fun o q => (sb.2 it (Ne.symm hne)).trans q, hne, hea, hai⟩, fun b hb => ?_⟩
    · have e1 : ((i + 1 : Nat) : Int) = (i : Int) + 1 := by omega
      rw [e1]; exact he'
    · have hb' : b < s.heap.objs.size := by
        have e' : b = e ∨ b = it := by simpa using hb
        rcases e' with z | z
        · rw [z]; exact hel
        · rw [z]; exact hil
      rw [upd_ne (Nat.ne_of_lt hb')]
      exact (hf b hb).1
  done := by
    intro X hP hw hK hc i pins s σ H E I hf st hg
    subst hP hw hK
    obtain ⟨⟨old, he⟩, hit, hne, hea, hai⟩ := st
    obtain ⟨xs, hq, hx⟩ := hg
    obtain ⟨its, rv, p, hz⟩ := I.tuple hq
    obtain ⟨f0, f1, f2, f3, f4, f5⟩ := hf it (by simp)
    have hl := rv.length
    have D := Draws.tuple (prog := X.prog) (w := X.w) (A := X.A.in1) (show X.A.in1.handled = none from I.ok.hd hc) it a hai its.toArray
    have ei : i = its.toArray.size := by rw [List.size_toArray]; omega
    rw [ei] at hit
    exact wpAny_pyNext_enum_endD D he ⟨hit, p⟩ fun h' eb => ⟨rfl, I.turned (t' := s.toks) (fun b o hb q => eb b o hb q) f0 f1 f3 f4 f5⟩
  self := fun A i s Q E st h => let ⟨⟨_, he⟩, _⟩ := st; wpAny_pyIter_enum he h

/-! enumerate made over a tuple -/
theorem meets_enumT (l : Addr) (items : Array Value) (n : Nat) (dct : Option Addr) (sl : Array (Option Value)) :
    Meets (Builtin.«enumerate.__new__» ⟨[.type "enumerate", .ref l], []⟩) (fun _ R s => s.heap.get? l = some { cls := .type "tuple", dict := dct, data := .seq items n, slots := sl } ∧
      R (.ok (.ret (.ref (s.heap.push { cls := .type "tuple_iterator", data := .fields #[.ref l, .int 0 0] }).objs.size)))
        { s with heap := (s.heap.push { cls := .type "tuple_iterator", data := .fields #[.ref l, .int 0 0] }).push { cls := .type "enumerate", data := .fields #[.none, .bool false, .ref s.heap.objs.size, rawInt 0, .none, .none] } }) :=
  .of_wp fun prog w A R s h => by
    obtain ⟨hp, g, d, tk, os⟩ := s; obtain ⟨hl, h⟩ := h
    have hsub := sub_enumerate
    have hL : Heap.IsTuple (Shared.heap ⟨hp, g, d, tk, os⟩) l items := ⟨_, hl, rfl, n, rfl⟩
    wp_walk using AutoSeq1.wpAny_loadPart' hl
    refine wpAny_stack_any fun st => wpAny_pure ?_
    split
    · rename_i c _ _ _ _ _
      cases (c == Value.type "enumerate")
      · wp_walk using AutoSeq1.wpAny_loadPart' hl, wpAny_pyIter_tuple hL
        exact ⟨_, rfl, h⟩
      · wp_walk using AutoSeq1.wpAny_loadPart' hl, wpAny_pyIter_tuple hL
        exact ⟨_, rfl, h⟩
    · wp_walk using AutoSeq1.wpAny_loadPart' hl, wpAny_pyIter_tuple hL
      exact ⟨_, rfl, h⟩
theorem call_enumT {prog : Program} {w : World} {A : Around} {E : Value → Shared → Prop} {s : Shared} {l : Addr} {items : Array Value} {Q : Value → Shared → Prop} (hL : s.heap.IsTuple l items)
    (h : ∀ h', IsEnum h' (s.heap.objs.size + 1) s.heap.objs.size 0 .none → h'.IsTupleIter s.heap.objs.size l 0 → h'.objs.size = s.heap.objs.size + 2 →
      (∀ b o, s.heap.get? b = some o → h'.get? b = some o) → Q (.ref (s.heap.objs.size + 1)) { s with heap := h' }) :
    wpAny (model prog w) A (call (.type "enumerate") [.ref l]) Q E s := by
  obtain ⟨⟨c, dct, dt, sl⟩, hl, hc, n, hd⟩ := hL
  replace hc : c = .type "tuple" := hc
  replace hd : dt = .seq items n := hd
  subst hc hd
  refine callType_new F.called_enumerate (by decide) (F.typeCall_enumerate_1 _) (F.newCall_enumerate_1 _) (fun obj => F.args_object_init_2 obj _) F.entry_enumerate_new
    (meets_enumT l items n dct sl) ⟨hl, ?_⟩
  have hz : (s.heap.push { cls := .type "tuple_iterator", data := .fields #[.ref l, .int 0 0] }).objs.size = s.heap.objs.size + 1 := Heap.size_push ..
  show _ ∧ _
  rw [hz]
  have he : IsEnum ((s.heap.push { cls := .type "tuple_iterator", data := .fields #[.ref l, .int 0 0] }).push
      { cls := .type "enumerate", data := .fields #[.none, .bool false, .ref s.heap.objs.size, rawInt 0, .none, .none] }) (s.heap.objs.size + 1) s.heap.objs.size 0 .none := by
    have := Heap.get?_push_size (s.heap.push { cls := .type "tuple_iterator", data := .fields #[.ref l, .int 0 0] })
      (o := { cls := .type "enumerate", data := .fields #[.none, .bool false, .ref s.heap.objs.size, rawInt 0, .none, .none] }) rfl
    rw [hz] at this; exact this
  refine ⟨⟨_, he, rfl⟩, h _ he ⟨_, Heap.get?_push_of_some _ (Heap.get?_push_size _ rfl), rfl, rfl⟩ (by rw [Heap.size_push, hz]) fun b o x => Heap.get?_push_of_some _ (Heap.get?_push_of_some _ x)⟩
def iEnQ (K : PySem.W.Frag) (ta : TA) : TI := fun σ H R => ta σ H fun vs H1 => ∃ a xs, vs = [.ref a] ∧ ((SqL K H1 a xs ∧ R (Ien fun H => SqL K H a) H1) ∨ (SqT K H1 a xs ∧ R (Ien fun H => SqT K H a) H1))
theorem pi_enQ {X : Cx} {e : Expr} {ta : TA} {p pos tpos : Pos} {elts : List Expr} {kk : Nat} (hg : Gl X "enumerate") (hm : X.mg "enumerate" = none) (ha : PA X [e] ta) (hs : starEach [e] X.env = [(false, eval e X.env)] := by rfl) :
    PI X (.Tuple elts kk tpos) (.Call (.Name "enumerate" p) [e] [] pos) (iEnQ X.K ta) := by
  refine ⟨fun pins s σ H R I h => ?_⟩
  refine Call_ (ld_blt I hg hm boot_enumerate (PyProof.Rows.callWith_type1 (thn (ha.run pos pins s σ H _ I h) fun us s1 ⟨vs, H1, I1, r1, q1⟩ => ?_) hs rfl))
  obtain ⟨a, xs, ex, q1⟩ := q1
  subst ex
  cases r1 with
  | cons r rr =>
    cases rr
    cases r
    have fin : ∀ (h' : Heap) (b : Addr), b ∈ [s1.heap.objs.size + 1, s1.heap.objs.size] → FpOk X pins H1 b := fun h' b hb => by
      have e' : b = s1.heap.objs.size + 1 ∨ b = s1.heap.objs.size := by simpa using hb
      have hle : s1.heap.objs.size ≤ b := by
        rcases e' with z | z
        · rw [z]; exact Nat.le_add_right _ _
        · rw [z]; exact Nat.le_refl _
      exact I1.fpOk hle (I1.hok.fresh hle)
    rcases q1 with ⟨hq, q⟩ | ⟨hq, q⟩
    · obtain ⟨its, rv, p', hz⟩ := I1.list hq
      have la : a < s1.heap.objs.size := by obtain ⟨o, ho, _⟩ := id p'.isList; exact Heap.lt_size ho
      refine call_enumerate_list p'.isList fun h' he hit hsz hk => wpAny_pyIter_enum he ?_
      have I2 : L2.Inv X pins σ H1 { s1 with heap := h' } := I1.kept (t' := s1.toks) hk
      exact ⟨s1.heap.objs.size + 1, [s1.heap.objs.size + 1, s1.heap.objs.size], _, _, H1, rfl, I2, turn_enL a (s1.heap.objs.size + 1) s1.heap.objs.size, ⟨⟨.none, he⟩, hit, Nat.succ_ne_self _, Ne.symm (Nat.ne_of_lt (Nat.lt_succ_of_lt la)), Nat.ne_of_lt la⟩, fin h', q⟩
    · obtain ⟨its, rv, p', hz⟩ := I1.tuple hq
      have la : a < s1.heap.objs.size := p'.lt
      refine call_enumT p' fun h' he hit hsz hk => wpAny_pyIter_enum he ?_
      have I2 : L2.Inv X pins σ H1 { s1 with heap := h' } := I1.kept (t' := s1.toks) hk
      exact ⟨s1.heap.objs.size + 1, [s1.heap.objs.size + 1, s1.heap.objs.size], _, _, H1, rfl, I2, turn_enT a (s1.heap.objs.size + 1) s1.heap.objs.size, ⟨⟨.none, he⟩, hit, Nat.succ_ne_self _, Ne.symm (Nat.ne_of_lt (Nat.lt_succ_of_lt la)), Nat.ne_of_lt la⟩, fin h', q⟩
/-- a list or a tuple, data -/
def seqK (d : D) (k : List D → Prop) : Prop := (∃ ds, d = .list ds ∧ k ds) ∨ ∃ ds, d = .tuple ds ∧ k ds
theorem u_seqK_l {ds : List D} {k : List D → Prop} : seqK (.list ds) k = k ds := by unfold seqK; simp
theorem u_seqK_t {ds : List D} {k : List D → Prop} : seqK (.tuple ds) k = k ds := by unfold seqK; simp
def iEnSq (δ : DE) : DI := fun Γ R => δ Γ fun x Γ1 => frzD (fun d Γ2 => seqK d fun ds => R (enumD ds) Γ2) x Γ1
theorem u_iEnSq {δ : DE} {Γ : DCtx} {R : List D → DCtx → Prop} : iEnSq δ Γ R = δ Γ fun x Γ1 => frzD (fun d Γ2 => seqK d fun ds => R (enumD ds) Γ2) x Γ1 := rfl
section
variable {X : Cx} {a b c e : Expr} {pos : Pos} {δa δb δc δe : DE}
theorem walk_en {K : PySem.W.Frag} {B H0 : Hp} {S : Hp → List V → Prop} {xs : List V} {ds : List D} (hS : ∀ H, Same H0 H → S H xs) (dv : DpAll K H0 xs ds) : WalkD K (Ien S) B H0 (enumD ds) := by
  refine ⟨fun i H v H' => ∃ t o x, v = .ref t ∧ H t = none ∧ H' = upd H t (.frz o (.tup [.int (i : Nat), x])) ∧ o.dict = none ∧ xs[i]? = some x, ?_, ?_⟩
  · have el : (enumD ds).length = xs.length := by unfold enumD; rw [List.length_mapIdx, DpAll.length dv]
    rw [el]
    refine ⟨fun i H hi g => ⟨xs, xs[i], hS H g.2, List.getElem?_eq_getElem hi⟩, fun H g => ⟨xs, hS H g.2, rfl⟩, fun i H x H' hi g y => ?_⟩
    obtain ⟨t, o, x, a1, a2, a3, a4, a5⟩ := y
    exact ⟨t, o, x, a1, a2, a3, a4, a5 xs (hS H g.2)⟩
  · intro i H x H' H2 hi s2 s3 ⟨t, o, y, a1, a2, a3, a4, a5⟩
    obtain ⟨d, hd, rd⟩ := dpAll_at dv a5
    refine ⟨.tuple [.int (i : Int), d], ?_, .inr ⟨t, o, _, _, a1, a2, a3, a4, rfl, .cons (.int _) (.cons (dp_same s2 rd) .nil)⟩⟩
    unfold enumD
    rw [List.getElem?_mapIdx, hd]
    rfl
theorem pdi_enQ {p tpos : Pos} {elts : List Expr} {kk : Nat} (hc : X.calm = true) (hg : Gl X "enumerate") (hm : X.mg "enumerate" = none) (h1 : PD X e δe) (hs : starEach [e] X.env = (false, eval e X.env) :: starEach [] X.env := by rfl) : PDI X (.Tuple elts kk tpos) (.Call (.Name "enumerate" p) [e] [] pos) (iEnSq δe) := match h1 with
  | ⟨_, h, s⟩ => ⟨_, pi_enQ hg hm (pa_cons h pa_nil hs) hs, fun B M Γ σ H H0 Q R k q ok => s B M Γ σ H H0 _ _ k q fun v x Γ1 H1 H01 h1 s1 k1 r1 => by
      obtain ⟨d, Γ2, H02, h2, s2, k2, r2⟩ := frzD_ok k1 r1 h1
      rcases h2 with ⟨ds, ed, h2⟩ | ⟨ds, ed, h2⟩
      · subst ed
        obtain ⟨pa, xs, rfl, hp, dv⟩ := dp_list_inv r2
        exact ⟨pa, xs, rfl, .inl ⟨k2.sub.seq hp, ok _ _ Γ2 H1 H02 h2 (s1.trans s2) k2 (walk_en (fun H s => s.seq hp) dv)⟩⟩
      · subst ed
        obtain ⟨pa, xs, rfl, hp, dv⟩ := dp_tuple_inv r2
        exact ⟨pa, xs, rfl, .inr ⟨Same.sqT k2.sub hp, ok _ _ Γ2 H1 H02 h2 (s1.trans s2) k2 (walk_en (fun H s => Same.sqT s hp) dv)⟩⟩⟩
/-! for x in (list or tuple) -/
def iSeqT (K : PySem.W.Frag) (tl : TE) : TI := fun σ H R => tl σ H fun x H1 => ∃ a xs, x = .ref a ∧ ((SqL K H1 a xs ∧ R (Itl K a) H1) ∨ (SqT K H1 a xs ∧ R (Itt K a) H1))
theorem pi_seqT {tg l : Expr} {tl : TE} (hl : PE X l tl) : PI X tg l (iSeqT X.K tl) := by
  refine ⟨fun pins s σ H R I h => ?_⟩
  refine thn (hl.run pins s σ H _ I h) fun v s1 ⟨x, H1, I1, r1, q1⟩ => ?_
  obtain ⟨a, xs, e, q⟩ := q1
  subst e
  cases r1
  rcases q with ⟨hq, q⟩ | ⟨hq, q⟩
  · obtain ⟨its, rv, p, hz⟩ := I1.list hq
    refine wpAny_pyIter_list p.isList ?_
    refine ⟨s1.heap.objs.size, [s1.heap.objs.size], _, _, H1, rfl, I1.kept (t' := s1.toks) fun b o e => Heap.get?_push_of_some _ e, turn_list a _, ⟨_, Heap.get?_push_size _ rfl, rfl, rfl⟩, fun b hb => ?_, q⟩
    have e : b = s1.heap.objs.size := by simpa using hb
    subst e
    exact I1.fpOk (Nat.le_refl _) (I1.hok.fresh (Nat.le_refl _))
  · obtain ⟨its, rv, p, hz⟩ := I1.tuple hq
    refine wpAny_pyIter_tuple (show s1.heap.IsTuple a its.toArray from p) ?_
    refine ⟨s1.heap.objs.size, [s1.heap.objs.size], _, _, H1, rfl, I1.kept (t' := s1.toks) fun b o e => Heap.get?_push_of_some _ e, turn_tuple a _, ⟨_, Heap.get?_push_size _ rfl, rfl, rfl⟩, fun b hb => ?_, q⟩
    have e : b = s1.heap.objs.size := by simpa using hb
    subst e
    exact I1.fpOk (Nat.le_refl _) (I1.hok.fresh (Nat.le_refl _))
def iSeq (δ : DE) : DI := fun Γ R => δ Γ fun x Γ1 => frzD (fun d Γ2 => seqK d fun ds => R ds Γ2) x Γ1
theorem u_iSeq {δ : DE} {Γ : DCtx} {R : List D → DCtx → Prop} : iSeq δ Γ R = δ Γ fun x Γ1 => frzD (fun d Γ2 => seqK d fun ds => R ds Γ2) x Γ1 := rfl
theorem pdi_seq {tg : Expr} (h1 : PD X e δe) : PDI X tg e (iSeq δe) := match h1 with
  | ⟨_, h, s⟩ => ⟨_, pi_seqT h, fun B M Γ σ H H0 Q R k q ok => s B M Γ σ H H0 _ _ k q fun v x Γ1 H1 H01 h1 s1 k1 r1 => by
      obtain ⟨d, Γ2, H02, h2, s2, k2, r2⟩ := frzD_ok k1 r1 h1
      rcases h2 with ⟨ds, e, h2⟩ | ⟨ds, e, h2⟩
      · subst e
        obtain ⟨p, xs, rfl, hp, dv⟩ := dp_list_inv r2
        exact ⟨p, xs, rfl, .inl ⟨k2.sub.seq hp, ok _ ds Γ2 H1 H02 h2 (s1.trans s2) k2 (walkD_at dv (walk_list.mono (fun H s => Same.seq s.2 hp) fun _ _ _ _ _ _ y => y))⟩⟩
      · subst e
        obtain ⟨p, xs, rfl, hp, dv⟩ := dp_tuple_inv r2
        exact ⟨p, xs, rfl, .inr ⟨Same.sqT k2.sub hp, ok _ ds Γ2 H1 H02 h2 (s1.trans s2) k2 (walkD_at dv (walk_tup.mono (fun H s => Same.sqT s.2 hp) fun _ _ _ _ _ _ y => y))⟩⟩⟩
/-! slices of (list or tuple), data -/
def dSlQ : DRS := fun x lo hi Γ R => onD x fun d => (∃ ds, d = .list ds ∧ R (.d (.list (cut ds lo hi))) Γ) ∨ ∃ ds, d = .tuple ds ∧ R (.d (.tuple (cut ds lo hi))) Γ
def slQK (d : D) (lo hi : Option Int) (k : D → Prop) : Prop := (∃ ds, d = .list ds ∧ k (.list (cut ds lo hi))) ∨ ∃ ds, d = .tuple ds ∧ k (.tuple (cut ds lo hi))
theorem u_slQK_l {ds : List D} {lo hi : Option Int} {k : D → Prop} : slQK (.list ds) lo hi k = k (.list (cut ds lo hi)) := by unfold slQK; simp
theorem u_slQK_t {ds : List D} {lo hi : Option Int} {k : D → Prop} : slQK (.tuple ds) lo hi k = k (.tuple (cut ds lo hi)) := by unfold slQK; simp
theorem u_slQ {x : DV} {lo hi : Option Int} {Γ : DCtx} {R : DK} : dSlQ x lo hi Γ R = onD x fun d => slQK d lo hi fun d' => R (.d d') Γ := rfl
theorem sl_Q : SlR X (fun x lo hi H Q => rSlL X.K x lo hi H Q ∨ rSlF X.K x lo hi H Q) := SlR.or sl_list sl_tupF
theorem ss_Q {K : PySem.W.Frag} : SSim K (fun x lo hi H Q => rSlL K x lo hi H Q ∨ rSlF K x lo hi H Q) dSlQ := by
  intro B M Γ σ H H0 Q R x lo hi v k r ⟨d, ex, h1⟩ q
  subst ex
  rcases h1 with ⟨ds, e, h1⟩ | ⟨ds, e, h1⟩
  · subst e
    exact .inl (ss_list B M Γ σ H H0 Q R _ lo hi v k r ⟨ds, .inl rfl, h1⟩ q)
  · subst e
    exact .inr (ss_tup B M Γ σ H H0 Q R _ lo hi v k r ⟨ds, rfl, h1⟩ q)
end
end DL

set_option Elab.async false
set_option linter.all false
set_option maxRecDepth 100000
set_option maxHeartbeats 2000000
set_option autoImplicit false
namespace DL
open PySem PySem.Spec L2 PyProof.Rows
/-! ### xs.count(k), ints -/
section
variable {X : Cx} {a b c e : Expr} {pos : Pos} {δa δb δc δe : DE}
def dCnt (δo δe : DE) : DE := fun Γ R => δo Γ fun x Γ1 => onLd x fun ds => δe Γ1 fun y Γ2 => onI y fun k => intsK ds fun ns => R (.d (.int ((ns.count k : Nat) : Int))) Γ2
theorem u_cnt {δo : DE} {Γ : DCtx} {R : DK} : dCnt δo δe Γ R = δo Γ fun x Γ1 => onLd x fun ds => δe Γ1 fun y Γ2 => onI y fun k => intsK ds fun ns => R (.d (.int ((ns.count k : Nat) : Int))) Γ2 := rfl
theorem pd_lcount {o : Expr} {δo : DE} {apos : Pos} (hbase : attributeBase o "count" X.env (eval o X.env) = eval o X.env := by rfl)
    (hfew : ((backTo pos (starEach [e] X.env)).all (fun x => !x.1) && (backToKw pos (keywordEach [] X.env)).all (fun x => x.1.isSome)
      && decide (([e] : List Expr).length + ([] : List Keyword).length + (if ([] : List Keyword).isEmpty then 0 else 1) < 30)) = true := by rfl)
    (hline : (apos.endLine == pos.line) = true := by rfl) (hs : starEach [e] X.env = (false, eval e X.env) :: starEach [] X.env := by rfl) (hplain : (backTo pos (starEach [] X.env)).any (·.1) = false := by rfl) (h1 : PD X o δo) (h2 : PD X e δe) : PD X (.Call (.Attribute o "count" apos) [e] [] pos) (dCnt δo δe) := match h1, h2 with
  | ⟨_, ho, so⟩, ⟨_, he, se⟩ => ⟨_, pe_bm PySem.F.plainAttrs_list PySem.F.slot_list_count PySem.F.type_list_count mt_lcount ho (pa_cons he pa_nil hs) hbase hfew hline hs hplain, fun B M Γ σ H H0 Q R k q ok => so B M Γ σ H H0 _ _ k q fun v x Γ1 H1 H01 ⟨ds, ex, h1⟩ s1 k1 r1 => by
      subst ex
      obtain ⟨p, vs, rfl, hp, dv⟩ := dp_list_inv r1
      refine ⟨.inl ⟨rfl, vs, k1.sub.seq hp⟩, se B M Γ1 σ H1 H01 _ _ k1 h1 fun u y Γ2 H2 H02 ⟨kk, ey, ns, ed, h2⟩ s2 k2 r2 => ?_⟩
      subst ey ed
      cases dpAll_ints_inv dv
      exact ⟨p, ns, kk, rfl, by rw [dp_int_inv r2], (s2.trans k2.sub).seq hp, ok _ _ Γ2 H2 H02 h2 (s1.trans s2) k2 (.int _)⟩⟩
/-! ### xs.index(x), texts -/
theorem eqV_T (a b : List Nat) : eqV (V.str (T a)) (V.str (T b)) = decide (a = b) := by
  show (T a == T b) = decide (a = b)
  by_cases h : a = b
  · subst h; simp
  · rw [decide_eq_false h, beq_eq_false_iff_ne]
    exact fun z => h (T_inj.mp z)
def dLIx (δo δe : DE) : DE := fun Γ R => δo Γ fun x Γ1 => onLd x fun ds => δe Γ1 fun y Γ2 => onS y fun w => txsK ds fun ws => ∃ j : Nat, ws[j]? = some w ∧ (∀ m, m < j → ws[m]? ≠ some w) ∧ R (.d (.int (j : Nat))) Γ2
theorem u_lix {δo : DE} {Γ : DCtx} {R : DK} : dLIx δo δe Γ R = δo Γ fun x Γ1 => onLd x fun ds => δe Γ1 fun y Γ2 => onS y fun w => txsK ds fun ws => ∃ j : Nat, ws[j]? = some w ∧ (∀ m, m < j → ws[m]? ≠ some w) ∧ R (.d (.int (j : Nat))) Γ2 := rfl
theorem pd_lindex {o : Expr} {δo : DE} {apos : Pos} (hbase : attributeBase o "index" X.env (eval o X.env) = eval o X.env := by rfl)
    (hfew : ((backTo pos (starEach [e] X.env)).all (fun x => !x.1) && (backToKw pos (keywordEach [] X.env)).all (fun x => x.1.isSome)
      && decide (([e] : List Expr).length + ([] : List Keyword).length + (if ([] : List Keyword).isEmpty then 0 else 1) < 30)) = true := by rfl)
    (hline : (apos.endLine == pos.line) = true := by rfl) (hs : starEach [e] X.env = (false, eval e X.env) :: starEach [] X.env := by rfl) (hplain : (backTo pos (starEach [] X.env)).any (·.1) = false := by rfl) (h1 : PD X o δo) (h2 : PD X e δe) : PD X (.Call (.Attribute o "index" apos) [e] [] pos) (dLIx δo δe) := match h1, h2 with
  | ⟨_, ho, so⟩, ⟨_, he, se⟩ => ⟨_, pe_bm PySem.F.plainAttrs_list PySem.F.slot_list_index PySem.F.type_list_index mt_index ho (pa_cons he pa_nil hs) hbase hfew hline hs hplain, fun B M Γ σ H H0 Q R k q ok => so B M Γ σ H H0 _ _ k q fun v x Γ1 H1 H01 ⟨ds, ex, h1⟩ s1 k1 r1 => by
      subst ex
      obtain ⟨p, vs, rfl, hp, dv⟩ := dp_list_inv r1
      refine ⟨.inl ⟨rfl, vs, k1.sub.seq hp⟩, se B M Γ1 σ H1 H01 _ _ k1 h1 fun u y Γ2 H2 H02 ⟨w, ey, ws, ed, j, hj, hm, h2⟩ s2 k2 r2 => ?_⟩
      subst ey ed
      cases dpAll_sD dv
      refine ⟨p, _, .str (T w), j, .str (T w), rfl, by rw [dp_str_inv r2], (s2.trans k2.sub).seq hp, rfl, flat_strs ws, by rw [List.getElem?_map, hj]; rfl, by rw [eqV_T]; simp, fun m z hlt hz => ?_, ok _ _ Γ2 H2 H02 h2 (s1.trans s2) k2 (.int _)⟩
      rw [List.getElem?_map] at hz
      obtain ⟨w', e1, e2⟩ := Option.map_eq_some_iff.mp hz
      subst e2
      rw [eqV_T]
      exact decide_eq_false fun z => hm m hlt (by rw [e1, z])⟩
end
end DL

set_option Elab.async false
set_option linter.all false
set_option maxRecDepth 100000
set_option maxHeartbeats 2000000
set_option autoImplicit false
namespace DL
open PySem PySem.Spec L2 PyProof.Rows
/-! ### [d[x] for x in d], d a dict of one's own -/
section
variable {X : Cx} {pos : Pos}
def nVals (i j : Nat) : DN := fun Γ R => i < Γ.length ∧ ∃ p kvs, Γ[j]? = some (some (DCell.own p (.dK kvs))) ∧ kvs.length ≤ 1000000 ∧ (∀ kv ∈ kvs, valG kvs kv.1 = some kv.2) ∧ R (.lst (kvs.map (·.2))) Γ
theorem simN_vals {K : PySem.W.Frag} {i j : Nat} (hij : j ≠ i) : SimN K (tLockE (tLc (iKeys (tVar j)) (gName i) tYes (tDGet (tVar j) (tVar i)) [i])) (nVals i j) := by
  intro B M Γ σ H H0 Q R k ⟨hiΓ, p, kvs, ej, hsz, hd, hR⟩ q
  obtain ⟨ws, xj, hp, dv⟩ := k.ownK ej
  have hlen := kvd_len dv
  refine ⟨p, .dK ws, hp, trivial, fun od => ?_⟩
  refine ⟨.ref p, xj, p, od, rfl, .inl ⟨ws, upd_same, fun Dl hDl => ?_⟩⟩
  have hne : Dl ≠ p := fun e => by subst e; rw [upd_same] at hDl; cases hDl
  have hH : H Dl = none := by rw [upd_ne hne] at hDl; exact hDl
  have hB : B Dl = none := k.base.free hH
  have hM : M Dl = none := (k.mm.trans k.sub).free hH
  refine ⟨fun n m H' => ∃ us, us.length = n ∧ DpAll K H0 us ((kvs.take n).map (·.2)) ∧ H' = upd (upd H p (.frz od (.dK ws))) Dl (.lst us) ∧ m = ws.length - n, ⟨_, [], rfl, .nil, rfl, rfl⟩, fun n m H' ⟨us, hul, da, eH, em⟩ => ?_⟩
  have hat : H' p = some (.frz od (.dK ws)) := by rw [eH, upd_ne (Ne.symm hne), upd_same]
  rcases Nat.lt_or_ge n ws.length with hn | hn
  · refine .inr ⟨⟨hat, hn⟩, fun H'' => ∃ us, us.length = n + 1 ∧ DpAll K H0 us ((kvs.take (n + 1)).map (·.2)) ∧ H'' = upd (upd H p (.frz od (.dK ws))) Dl (.lst us), fun H'' ⟨us, h1, h2, h3⟩ => ⟨_, by omega, us, h1, h2, h3, rfl⟩, fun x H'' ⟨e1, kk, v, ek, ex⟩ => ?_⟩
    subst e1 ex
    obtain ⟨d, e4⟩ := kvd_get dv ek
    have hv := hd (kk, d) (List.mem_of_getElem? e4)
    rcases kvd_val kk dv with ⟨_, z⟩ | ⟨v', d', z1, z2, z3⟩
    · rw [z] at hv; cases hv
    rw [hv] at z2
    cases z2
    refine ⟨?_, .ref p, ?_, kV kk, ?_, p, v', rfl, .inl ⟨ws, kk, .inr ⟨od, hat⟩, rfl, z1.symm⟩, us, ?_, ?_, us ++ [v'], ?_, ?_, ?_⟩
    · rw [wipe_set (by simp)]
      exact wipe_eq (wipe_length _ _) fun a ha => wipe_get ha
    · rw [List.getElem?_set_ne (Ne.symm hij), wipe_get (by simpa using hij)]
      exact xj
    · rw [List.getElem?_set_self (by rw [wipe_length]; have := k.len; omega)]
    · rw [eH, upd_same]
    · rw [hul]
      exact Nat.lt_of_lt_of_le (show n < 1000001 by omega) (by decide)
    · simp [hul]
    · rw [List.take_add_one, e4, List.map_append]
      exact DpAll.append da (.cons z3 .nil)
    · rw [eH]
      funext a
      by_cases h2 : a = Dl
      · subst h2; rw [upd_same, upd_same]
      · rw [upd_ne h2, upd_ne h2, upd_ne h2]
  · refine .inl ⟨⟨hat, hn⟩, hat, ?_⟩
    have ek : kvs.take n = kvs := List.take_of_length_le (by omega)
    rw [ek] at da
    have e2 : upd H' p (.dK ws) = upd H Dl (.lst us) := by
      rw [eH]
      funext a
      by_cases h1 : a = p
      · subst h1
        rw [upd_same, upd_ne (Ne.symm hne), hp]
      · rw [upd_ne h1]
        by_cases h2 : a = Dl
        · subst h2; rw [upd_same, upd_same]
        · rw [upd_ne h2, upd_ne h2, upd_ne h1]
    rw [e2]
    exact q Dl (.lst us) (.lst (kvs.map (·.2))) Γ _ H0 hR (Same.refl _) hB hM (k.newB hH) (.lst da)
theorem pdn_vals {i j : Nat} {x y : Str} {px py px2 py2 : Pos} {scope : Scope} (hc : X.calm = true) (hN : X.N.Nodup) (hij : j ≠ i) (hu : X.A.units + 1 < cLine) (hy : PE X (.Name y py) (tVar j)) (ok : BlkOk X.N X.env.scope scope [(x, i)])
    (hg : ∀ (s : Shared) (H : Hp) (C : Addr) (cl : List (Str × Addr)) (fp : List Addr), PG (X.blk s H scope (compEnvC scope cl C X.env) fp) (.Name x px) (gName i))
    (hy2 : ∀ (s : Shared) (H : Hp) (C : Addr) (cl : List (Str × Addr)) (fp : List Addr), PE (X.blk s H scope (compEnvC scope cl C X.env) fp) (.Name y py2) (tVar j))
    (hx2 : ∀ (s : Shared) (H : Hp) (C : Addr) (cl : List (Str × Addr)) (fp : List Addr), PE (X.blk s H scope (compEnvC scope cl C X.env) fp) (.Name x px2) (tVar i))
    (hs : ∀ x, foldedSetIterable (.Name y py) X.env x = pure x := by intro _; rfl) {pos2 : Pos} :
    PDN X (.ListComp (.Subscript (.Name y py2) (.Name x px2) pos2) [⟨.Name x px, .Name y py, [], 0⟩] scope pos) (nVals i j) :=
  ⟨_, pe_lock (pe_lc (own := [(x, i)]) hc hN (pi_keys hy) ok hg (fun _ _ _ _ _ => pts_nil) (fun s H C cl fp => pe_dget (by exact hu) (hy2 s H C cl fp) (hx2 s H C cl fp) (fun _ _ => rfl)) hs), simN_vals hij⟩
theorem u_vals {i j : Nat} {Γ : DCtx} {R : DOb → DCtx → Prop} : nVals i j Γ R = (i < Γ.length ∧ lkV Γ j fun c => ownK c fun p o => obK o fun kvs => kvs.length ≤ 1000000 ∧ (∀ kv ∈ kvs, valG kvs kv.1 = some kv.2) ∧ R (.lst (kvs.map (·.2))) Γ) := by
  unfold nVals lkV ownK obK
  refine propext ⟨fun ⟨h0, p, kvs, e, h1, h2, h3⟩ => ⟨h0, _, e, p, _, rfl, kvs, rfl, h1, h2, h3⟩, fun ⟨h0, c, e, p, o, ec, kvs, eo, h1, h2, h3⟩ => ⟨h0, p, kvs, by rw [e, ec, eo], h1, h2, h3⟩⟩
end
end DL

set_option Elab.async false
set_option linter.all false
set_option maxRecDepth 100000
set_option maxHeartbeats 2000000
set_option autoImplicit false
namespace DL
open PySem PySem.Spec L2 PyProof.Rows
/-! ### text * n -/
section
variable {X : Cx}
def repS (x : Str) (n : Nat) : Str := ⟨(List.replicate n x.cps).foldl (· ++ ·) #[]⟩
theorem fold_rep (x : Array Nat) : ∀ (n : Nat) (acc : Array Nat), (List.replicate n x).foldl (· ++ ·) acc = acc ++ ((List.replicate n x.toList).flatten).toArray
  | 0, acc => by simp
  | n + 1, acc => by
    rw [List.replicate_succ, List.foldl_cons, fold_rep x n, List.replicate_succ, List.flatten_cons, ← List.append_toArray, Array.append_assoc]
theorem repS_T (x : Str) (n : Nat) : repS x n = T ((List.replicate n x.cps.toList).flatten) := by
  unfold repS
  rw [fold_rep]
  simp [T]
theorem repS_len (x : Str) (n : Nat) : (repS x n).length = n * x.length := by
  rw [repS_T]
  show ((List.replicate n x.cps.toList).flatten).toArray.size = _
  rw [List.size_toArray, List.length_flatten, List.map_replicate]
  have : ∀ (n k : Nat), (List.replicate n k).sum = n * k := fun n k => by
    induction n with
    | zero => simp
    | succ n ih => rw [List.replicate_succ, List.sum_cons, ih, Nat.succ_mul]; omega
  rw [this]
  rfl
theorem op_mulS : OpR X (binaryOp .Mult) (fun x y H Q => ∃ i n, x = .str i ∧ y = .int n ∧ 1 ≤ n ∧ n ≤ 1000 ∧ i.length ≤ 1000 ∧ Q (.str (repS i n.toNat)) H) := by
  intro pins s σ H x y v u Q I rx ry h
  obtain ⟨i, n, rfl, rfl, h1, h2, h3, q⟩ := h
  obtain ⟨t, rfl⟩ := rx
  obtain ⟨t', rfl⟩ := ry
  refine P.mul_str ?_ (fun _ _ => ?_) (fun _ _ => ?_) ?_
  · rw [decide_eq_false (by omega), decide_eq_false (by omega)]; rfl
  · intro z
    have : (i.length : Int) * n ≤ 2 ^ 63 - 1 := by
      have : (i.length : Int) * n ≤ 1000 * 1000 := Int.mul_le_mul (by omega) h2 (by omega) (by omega)
      omega
    have h4 := (Int.le_ediv_iff_mul_le (by omega)).mpr this
    omega
  · unfold Builtin.Str.tooLong
    rw [decide_eq_false]
    have h5 : i.length * n.toNat ≤ 1000 * 1000 := Nat.mul_le_mul h3 (by omega)
    have h6 : 1000 * 1000 ≤ sizeLine := by decide
    omega
  · rw [if_neg (by omega)]
    by_cases e : (n == 1 || i.length == 0) = true
    · rw [if_pos e]
      have er : repS i n.toNat = i := by
        rw [repS_T]
        rcases Bool.or_eq_true_iff.mp e with z | z
        · have : n = 1 := by simpa using z
          subst this
          simp [T]
        · have : i.length = 0 := by simpa using z
          have e0 : i.cps.toList = [] := List.eq_nil_of_length_eq_zero this
          rw [e0]
          have : i.cps = #[] := by rw [← Array.toList_eq_nil_iff]; exact e0
          have e2 : (List.replicate n.toNat ([] : List Nat)).flatten = [] := by simp
          rw [e2]
          cases i
          simp only at this
          rw [this]
          rfl
      rw [er] at q
      exact ⟨.str i, H, I, ⟨_, rfl⟩, q⟩
    · rw [if_neg e]
      refine ⟨?_, .str (repS i n.toNat), H, I.tok _, ⟨_, rfl⟩, q⟩
      show (repS i n.toNat).length ≤ sizeLine
      rw [repS_len]
      have h5 : n.toNat * i.length ≤ 1000 * 1000 := Nat.mul_le_mul (by omega) h3
      have h6 : 1000 * 1000 ≤ sizeLine := by decide
      omega
def dMulS : DR2 := fun x y Γ R => ∃ a n, x = .d (.str (T a)) ∧ y = .d (.int n) ∧ 1 ≤ n ∧ n ≤ 1000 ∧ a.length ≤ 1000 ∧ R (.d (.str (T ((List.replicate n.toNat a).flatten)))) Γ
theorem rs_mulS {K : PySem.W.Frag} : RSim2 K (fun x y H Q => ∃ i n, x = .str i ∧ y = .int n ∧ 1 ≤ n ∧ n ≤ 1000 ∧ i.length ≤ 1000 ∧ Q (.str (repS i n.toNat)) H) dMulS := by
  intro B M Γ σ H H0 Q R x y v u k r1 r2 ⟨a, n, e1, e2, h1, h2, h3, h4⟩ q
  subst e1 e2
  refine ⟨T a, n, dp_str_inv r1, dp_int_inv r2, h1, h2, h3, q _ _ Γ H H0 h4 (Same.refl _) k ?_⟩
  rw [repS_T]; exact .str _
theorem u_mulS {x y : DV} {Γ : DCtx} {R : DK} : dMulS x y Γ R = onS x fun i => onI y fun n => 1 ≤ n ∧ n ≤ 1000 ∧ i.length ≤ 1000 ∧ R (.d (.str (T ((List.replicate n.toNat i).flatten)))) Γ := propext ⟨fun ⟨i, j, a, b, c⟩ => ⟨i, a, j, b, c⟩, fun ⟨i, a, j, b, c⟩ => ⟨i, j, a, b, c⟩⟩
end
end DL

set_option Elab.async false
set_option linter.all false
set_option maxRecDepth 100000
set_option maxHeartbeats 4000000
set_option autoImplicit true
namespace DL
open PySem PySem.Spec PyProof.Rows L2 PySem.Froz
/-! ### sorted(set(texts)) -/
/-- a set of the texts l, fit for being gathered -/
structure TxG (P : Program) (w : World) (C : SD) (l : List Str) : Prop where
  ok : TxOk P w C l
  nd : l.Nodup
  ris : Ris C.2.2.place.toList
  led : w.params.followText "set-order" = true ∨ C.2.2.led = true
theorem tail_ris {ep : Nat} {es1 : Array (Int × Value)} {t2 : SetTable} {wd : Bool} (r : Ris t2.place.toList) : Ris (tailTx ep es1 t2 wd).2.2.place.toList := by
  unfold tailTx
  split
  · exact relayAll_ris _ _ _
  · exact r
theorem tail_led {ep : Nat} {es1 : Array (Int × Value)} {t2 : SetTable} {wd : Bool} : (tailTx ep es1 t2 wd).2.2.led = t2.led := by
  unfold tailTx
  split
  · exact relayAll_led _ _ _
  · rfl
section
variable {P : Program} {w : World} {A : Around} {E : Value → Shared → Prop} {s : Shared}
theorem TxG.add {C : SD} {l : List Str} {k : Str} (u : Tok) (G : TxG P w C l) (hk : k ∉ l) : TxG P w (addTx (hashStr w k) (.str k u) C) (k :: l) := by
  obtain ⟨es, ep, t⟩ := C
  have hr := layNew_ris t es (hashStr w k) (.str k u) G.ris
  have hl := layNew_led t es (hashStr w k) (.str k u)
  refine ⟨add_ok u G.ok, List.nodup_cons.mpr ⟨hk, G.nd⟩, ?_, ?_⟩
  · unfold addTx
    refine tail_ris ?_
    split
    · exact hr
    · exact hr
  · unfold addTx
    rw [tail_led]
    refine G.led.imp id fun z => ?_
    split
    · exact hl.trans z
    · exact hl.trans z
theorem TxG.fresh (w : World) : TxG P w (#[], 0, .fresh 0 0 (!w.params.followText "set-order")) [] where
  ok := TxOk.nil rfl
  nd := List.nodup_nil
  ris := by unfold Ris; simp [SetTable.fresh]
  led := by
    cases h : w.params.followText "set-order"
    · exact .inr rfl
    · exact .inl rfl
/-- adding a text, new or not -/
theorem TxG.put {a : Addr} {C : SD} {l : List Str} {k : Str} {u : Tok} {Q : Bool → Shared → Prop} (G : TxG P w C l) (ho : s.heap.get? a = some (sObj "set" C)) (hb : l.length + 1 < scanBound)
    (hQ : ∀ b h' C' l', Heap.SameBut a s.heap h' → h'.get? a = some (sObj "set" C') → TxG P w C' l' → (∀ j, j ∈ l' ↔ j = k ∨ j ∈ l) → l'.length ≤ l.length + 1 → Q b { s with heap := h' }) :
    wpAny (model P w) A (setAddHashed a (.str k u) (hashStr w k)) Q E s := by
  by_cases hk : k ∈ l
  · have hq : ∀ b, Q b s := fun b => hQ b s.heap C l (Heap.SameBut.refl a s.heap) ho G (fun j => ⟨.inr, fun z => z.elim (fun e => e ▸ hk) id⟩) (Nat.le_succ _)
    obtain ⟨es, ep, t⟩ := C
    have hz : es.size = l.length := G.ok.sz
    have hel : ElemsOf (strKind P w) es.toList := G.ok.el
    have hkey : (strKind P w).is k (.str k u) = true := is_str k u
    obtain ⟨e0, he0, pe0⟩ := (G.ok.mem k).mp hk
    unfold setAddHashed setAddHashedIn
    refine wpAny_holding (wpAny_bind (wpAny_setState_of ho rfl (show t.fits es.size = true from G.ok.fit) ?_))
    dsimp only
    rw [byScan_of rfl (show es.size < scanBound by omega) hel, if_pos rfl]
    unfold setAddByScan
    refine wpAny_bind (wpAny_bind (wpAny_rule (wpAny_bind (wpAny_setScan_of hkey ho rfl G.ok.fit hel ?_))))
    cases hfi : List.findIdx? (fun e => (strKind P w).is k e.2) es.toList with
    | some j => exact wpAny_pure (wpAny_pure (hq _))
    | none =>
      have := List.findIdx?_eq_none_iff.mp hfi e0 he0
      rw [pe0] at this
      cases this
  · refine add_x (T := "set") ho G.ok hk hb (hQ _ _ (addTx (hashStr w k) (.str k u) C) (k :: l) ⟨Heap.size_update .., fun b hne => Heap.get?_update_other _ _ (Ne.symm hne)⟩ (get_upd _ ho rfl) (G.add u hk) (fun j => List.mem_cons) (Nat.le_refl _))
/-- the loop of set.update over texts -/
theorem set_upd_txs {I : Addr} {fp wr : List Addr} {G : Array GenState → Array GenState → Prop} {n : Nat} {Pv : Nat → Value → Prop} {St : Nat → Shared → Prop} {R : Result → Shared → Prop}
    (W : WalksS P w A.in1 I fp wr G n Pv St) (S : Addr) (hSf : S ∉ fp) (ts : List Str) (hn : n = ts.length) (hb : ts.length + 1 < scanBound) (hval : ∀ i v, Pv i v → ∃ k t, ts[i]? = some k ∧ v = .str k t) :
    ∀ (k i : Nat) (s : Shared), n - i = k → i ≤ n → St i s → (∃ C l, s.heap.get? S = some (sObj "set" C) ∧ TxG P w C l ∧ (∀ j, j ∈ l ↔ j ∈ ts.take i) ∧ l.length ≤ i) →
      (∀ s' C l, Moved (S :: wr) G s s' → s'.heap.get? S = some (sObj "set" C) → TxG P w C l → (∀ j, j ∈ l ↔ j ∈ ts) → l.length ≤ n → R (.ok (.ret .none)) s') →
      codeAny (model P w) A (.builtin "set.update.loop" ⟨[.ref S, .ref I], []⟩) R s := by
  have nW : S ∉ wr := fun z => hSf (W.sub _ z)
  have up : ∀ b ∈ wr, b ∈ S :: wr := fun b z => List.mem_cons_of_mem _ z
  intro k
  induction k with
  | zero =>
    intro i s hk hi hst ⟨C, l, hC, hG, hm, hle⟩ hR
    obtain rfl : i = n := by omega
    refine codeAny_builtin (PyProof.Rows.F.entry_set_update_loop) (by
      rw [Around.under_plainId (PyProof.Rows.F.plain_set_update_loop) _]
      refine wpAny_bind (m := pyNext (.ref I)) (W.done s _ _ hst fun s' hv => wpAny_pure (hR s' C l (hv.mono up) (hv.heap S _ nW hC) hG (fun j => ?_) hle))
      rw [hm, List.take_of_length_le (show ts.length ≤ i by omega)])
  | succ k ih =>
    intro i s hk hi hst ⟨C, l, hC, hG, hm, hle⟩ hR
    have hlt : i < n := by omega
    refine codeAny_builtin (PyProof.Rows.F.entry_set_update_loop) (by
      rw [Around.under_plainId (PyProof.Rows.F.plain_set_update_loop) _]
      refine wpAny_bind (m := pyNext (.ref I)) (W.item i s _ _ hlt hst fun v s' hP hst' hv => ?_)
      obtain ⟨z, t, hz, rfl⟩ := hval i v hP
      refine wpAny_bind (m := holding [Value.str z t] (setAdd S (.str z t))) (wpAny_holding ?_)
      unfold setAdd
      refine wpAny_holding (wpAny_bind ((strKind P w).pyHash (k := z) (is_str z t) ?_))
      refine TxG.put (s := { s' with toks := s'.toks + 1 }) hG (hv.heap S _ nW hC) (by omega) fun b h' C' l' sb hC' hG' hm' hle' => ?_
      refine wpAny_pure ⟨plainId_quiet (PyProof.Rows.F.plain_set_update_loop) _, ih (i + 1) _ (by omega) hlt (W.frame _ s' _ _ hst' (Nat.le_succ _) fun b hb o e => ?_) ⟨C', l', hC', hG', fun j => ?_, by omega⟩ fun s2 C2 l2 hv2 hC2 hG2 hm2 hl2 => ?_⟩
      · rw [sb.2 b (fun z : b = S => hSf (z ▸ hb))]
        exact e
      · rw [hm', hm, List.take_add_one, hz]
        simp [or_comm]
      · refine hR s2 C2 l2 (Moved.trans W.gtrans ((hv.mono up).then_heap (Nat.le_succ _) fun b o hb e => ?_) hv2) hC2 hG2 hm2 hl2
        rw [sb.2 b (fun z : b = S => hb (z ▸ List.mem_cons_self))]
        exact e)
/-- the new set -/
def set0 (w : World) : Obj := sObj "set" (#[], 0, .fresh 0 0 (!w.params.followText "set-order"))
theorem call_set_list {l : Addr} {items : Array Value} (ts : List Str) {Q : Value → Shared → Prop} (hh : A.handled = none) (hl : s.heap.IsList l items) (hi : ∀ (i : Nat) v, items[i]? = some v → ∃ k t, ts[i]? = some k ∧ v = .str k t) (hz : items.size = ts.length) (hb : ts.length + 1 < scanBound)
    (h : ∀ h' tk C u, h'.get? s.heap.objs.size = some (sObj "set" C) → TxG P w C u → (∀ j, j ∈ u ↔ j ∈ ts) → u.length ≤ ts.length → (∀ b o, s.heap.get? b = some o → h'.get? b = some o) → Q (.ref s.heap.objs.size) { s with heap := h', toks := tk }) :
    wpAny (model P w) A (call (.type "set") [.ref l]) Q E s := by
  obtain ⟨m1, m2, m3⟩ := F.called_set.mro
  have c1 := F.called_set.made
  have c2 := F.called_set.sub
  have c3 := F.called_set.notType
  have c4 := F.called_set.canCreate
  have c5 := F.typeCall_set_1 (.ref l)
  refine wpAny_call (codeAny_of_tree (id ?_))
  show wpAny _ _ (callAny (.type "set") _) _ _ s
  refine wpAny_pure ⟨Code.quiet_builtin _ (by decide +kernel), codeAny_builtin F.entry_type_call (by
    rw [Around.under_plain (weight_type_call_type "set" [.ref l] []) rfl]
    repeat (any_goals (first | assumption | wp_step))
    refine codeAny_mono (code_set_led1 (.ref l) (E := E) (Q₁ := fun x s₁ => x = .ref s.heap.objs.size ∧ s₁ = { s with heap := s.heap.push (set0 w) }) ⟨rfl, rfl⟩) fun r s₁ hr => ?_
    cases r with
    | error e => exact hr
    | ok fl =>
      cases fl with
      | ret x =>
        obtain ⟨rfl, rfl⟩ := hr
        have g0 : (s.heap.push (set0 w)).get? s.heap.objs.size = some (set0 w) := Heap.get?_push_size _ rfl
        have ty : Shared.TypeIs { s with heap := s.heap.push (set0 w) } (.ref s.heap.objs.size) "set" := ⟨_, g0, rfl⟩
        have i1 := F.called_set.init.lookup
        have i2 := F.called_set.init.bind (.ref s.heap.objs.size)
        repeat (any_goals (first | assumption | wp_step))
        refine codeAny_mono (codeAny_call_builtin (R := wants (fun r s₂ => r = .none ∧ ∃ h' tk C u, s₂ = { s with heap := h', toks := tk } ∧ h'.get? s.heap.objs.size = some (sObj "set" C) ∧ TxG P w C u ∧ (∀ j, j ∈ u ↔ j ∈ ts) ∧ u.length ≤ ts.length ∧ (∀ b o, s.heap.get? b = some o → h'.get? b = some o)) E) F.called_set.init.plain F.entry_set_init (check_set_init_1 ty (by
          obtain ⟨o, g1, o1, n1, o2⟩ := hl
          obtain ⟨oc, od, oda, os⟩ := o
          simp only at o1 o2
          subst o1; subst o2
          have g2 : (s.heap.push (set0 w)).get? l = some { cls := .type "list", dict := od, data := .seq items n1, slots := os } := Heap.get?_push_of_some _ g1
          have s1 := F.sub_list_set
          have s2 := F.sub_list_frozenset
          have s3 : (Value.type "list" == Value.type "dict") = false := by decide
          have g3 : (s.heap.push (set0 w)).IsList l items := ⟨_, g2, rfl, n1, rfl⟩
          unfold Builtin.«set.__init__» noKeywords Builtin.Frozenset.updateFrom
          generalize ePI : pyIter = PI
          wp_walk
          subst ePI
          have z1 : l < s.heap.objs.size := Heap.lt_size g1
          have z2 : (s.heap.push (set0 w)).objs.size = s.heap.objs.size + 1 := Heap.size_push ..
          refine wpAny_pyIter_list g3 (wpAny_bind (wpAny_runValue ?_))
          refine set_upd_txs ((Walks.list (show A.in1.in1.in1.handled = none by simp [hh]) _ l (by rw [z2]; exact Nat.ne_of_lt (Nat.lt_succ_of_lt z1)) items).toS) s.heap.objs.size (by rw [z2]; simp only [List.mem_cons, List.not_mem_nil, or_false, not_or]; exact ⟨Nat.ne_of_lt (Nat.lt_succ_self _), Nat.ne_of_gt z1⟩) ts hz hb hi (items.size - 0) 0 _ (by omega) (Nat.zero_le _) ⟨⟨_, Heap.get?_push_size _ rfl, rfl, rfl⟩, (g3.push _)⟩ ⟨_, [], Heap.get?_push_of_some _ g0, TxG.fresh w, fun j => by simp, Nat.le_refl _⟩ ?_
          intro s' C u hv hC hG hm hle
          obtain ⟨h', v1, v2, tk', v3⟩ := s'
          obtain rfl : v1 = s.gens := hv.gens
          obtain rfl : v2 = s.drawn := hv.drawn
          obtain rfl : v3 = s.os := hv.os
          show wpAny _ _ _ _ _ _
          refine wpAny_pure (?_ : wpAny _ _ (ret Value.none) _ _ _)
          refine wpAny_pure (⟨rfl, h', tk', C, u, rfl, hC, hG, hm, hz ▸ hle, fun b o e => ?_⟩)
          have hb0 := Heap.lt_size e
          refine hv.heap b o ?_ (Heap.get?_push_of_some _ (Heap.get?_push_of_some _ e))
          rw [z2]
          simp only [List.mem_cons, List.not_mem_nil, or_false, not_or]
          exact ⟨Nat.ne_of_lt hb0, Nat.ne_of_lt (Nat.lt_succ_of_lt hb0)⟩))) fun r₂ s₂ hr₂ => ?_
        cases r₂ with
        | error e => exact hr₂
        | ok fl₂ =>
          cases fl₂ with
          | ret r =>
            obtain ⟨rfl, h', tk, C, u, rfl, q1, q2, q3, q4, q5⟩ := hr₂
            repeat (any_goals (first | assumption | wp_step))
            exact h _ _ C u q1 q2 q3 q4 q5
          | _ => exact hr₂.elim
      | _ => exact hr.elim)⟩
theorem call_set_tuple {l : Addr} {items : Array Value} (ts : List Str) {Q : Value → Shared → Prop} (hh : A.handled = none) (hl : s.heap.IsTuple l items) (hi : ∀ (i : Nat) v, items[i]? = some v → ∃ k t, ts[i]? = some k ∧ v = .str k t) (hz : items.size = ts.length) (hb : ts.length + 1 < scanBound)
    (h : ∀ h' tk C u, h'.get? s.heap.objs.size = some (sObj "set" C) → TxG P w C u → (∀ j, j ∈ u ↔ j ∈ ts) → u.length ≤ ts.length → (∀ b o, s.heap.get? b = some o → h'.get? b = some o) → Q (.ref s.heap.objs.size) { s with heap := h', toks := tk }) :
    wpAny (model P w) A (call (.type "set") [.ref l]) Q E s := by
  obtain ⟨m1, m2, m3⟩ := F.called_set.mro
  have c1 := F.called_set.made
  have c2 := F.called_set.sub
  have c3 := F.called_set.notType
  have c4 := F.called_set.canCreate
  have c5 := F.typeCall_set_1 (.ref l)
  refine wpAny_call (codeAny_of_tree (id ?_))
  show wpAny _ _ (callAny (.type "set") _) _ _ s
  refine wpAny_pure ⟨Code.quiet_builtin _ (by decide +kernel), codeAny_builtin F.entry_type_call (by
    rw [Around.under_plain (weight_type_call_type "set" [.ref l] []) rfl]
    repeat (any_goals (first | assumption | wp_step))
    refine codeAny_mono (code_set_led1 (.ref l) (E := E) (Q₁ := fun x s₁ => x = .ref s.heap.objs.size ∧ s₁ = { s with heap := s.heap.push (set0 w) }) ⟨rfl, rfl⟩) fun r s₁ hr => ?_
    cases r with
    | error e => exact hr
    | ok fl =>
      cases fl with
      | ret x =>
        obtain ⟨rfl, rfl⟩ := hr
        have g0 : (s.heap.push (set0 w)).get? s.heap.objs.size = some (set0 w) := Heap.get?_push_size _ rfl
        have ty : Shared.TypeIs { s with heap := s.heap.push (set0 w) } (.ref s.heap.objs.size) "set" := ⟨_, g0, rfl⟩
        have i1 := F.called_set.init.lookup
        have i2 := F.called_set.init.bind (.ref s.heap.objs.size)
        repeat (any_goals (first | assumption | wp_step))
        refine codeAny_mono (codeAny_call_builtin (R := wants (fun r s₂ => r = .none ∧ ∃ h' tk C u, s₂ = { s with heap := h', toks := tk } ∧ h'.get? s.heap.objs.size = some (sObj "set" C) ∧ TxG P w C u ∧ (∀ j, j ∈ u ↔ j ∈ ts) ∧ u.length ≤ ts.length ∧ (∀ b o, s.heap.get? b = some o → h'.get? b = some o)) E) F.called_set.init.plain F.entry_set_init (check_set_init_1 ty (by
          obtain ⟨o, g1, o1, n1, o2⟩ := hl
          obtain ⟨oc, od, oda, os⟩ := o
          simp only at o1 o2
          subst o1; subst o2
          have g2 : (s.heap.push (set0 w)).get? l = some { cls := .type "tuple", dict := od, data := .seq items n1, slots := os } := Heap.get?_push_of_some _ g1
          have s1 := F.sub_tuple_set
          have s2 := F.sub_tuple_frozenset
          have s3 : (Value.type "tuple" == Value.type "dict") = false := by decide
          have g3 : (s.heap.push (set0 w)).IsTuple l items := ⟨_, g2, rfl, n1, rfl⟩
          unfold Builtin.«set.__init__» noKeywords Builtin.Frozenset.updateFrom
          generalize ePI : pyIter = PI
          wp_walk
          subst ePI
          have z1 : l < s.heap.objs.size := Heap.lt_size g1
          have z2 : (s.heap.push (set0 w)).objs.size = s.heap.objs.size + 1 := Heap.size_push ..
          refine wpAny_pyIter_tuple g3 (wpAny_bind (wpAny_runValue ?_))
          refine set_upd_txs ((Walks.tuple (show A.in1.in1.in1.handled = none by simp [hh]) _ l (by rw [z2]; exact Nat.ne_of_lt (Nat.lt_succ_of_lt z1)) items).toS) s.heap.objs.size (by rw [z2]; simp only [List.mem_cons, List.not_mem_nil, or_false, not_or]; exact ⟨Nat.ne_of_lt (Nat.lt_succ_self _), Nat.ne_of_gt z1⟩) ts hz hb hi (items.size - 0) 0 _ (by omega) (Nat.zero_le _) ⟨⟨_, Heap.get?_push_size _ rfl, rfl, rfl⟩, (g3.push _)⟩ ⟨_, [], Heap.get?_push_of_some _ g0, TxG.fresh w, fun j => by simp, Nat.le_refl _⟩ ?_
          intro s' C u hv hC hG hm hle
          obtain ⟨h', v1, v2, tk', v3⟩ := s'
          obtain rfl : v1 = s.gens := hv.gens
          obtain rfl : v2 = s.drawn := hv.drawn
          obtain rfl : v3 = s.os := hv.os
          show wpAny _ _ _ _ _ _
          refine wpAny_pure (?_ : wpAny _ _ (ret Value.none) _ _ _)
          refine wpAny_pure (⟨rfl, h', tk', C, u, rfl, hC, hG, hm, hz ▸ hle, fun b o e => ?_⟩)
          have hb0 := Heap.lt_size e
          refine hv.heap b o ?_ (Heap.get?_push_of_some _ (Heap.get?_push_of_some _ e))
          rw [z2]
          simp only [List.mem_cons, List.not_mem_nil, or_false, not_or]
          exact ⟨Nat.ne_of_lt hb0, Nat.ne_of_lt (Nat.lt_succ_of_lt hb0)⟩))) fun r₂ s₂ hr₂ => ?_
        cases r₂ with
        | error e => exact hr₂
        | ok fl₂ =>
          cases fl₂ with
          | ret r =>
            obtain ⟨rfl, h', tk, C, u, rfl, q1, q2, q3, q4, q5⟩ := hr₂
            repeat (any_goals (first | assumption | wp_step))
            exact h _ _ C u q1 q2 q3 q4 q5
          | _ => exact hr₂.elim
      | _ => exact hr.elim)⟩
end
end DL

set_option Elab.async false
set_option linter.all false
set_option maxRecDepth 100000
set_option maxHeartbeats 4000000
set_option autoImplicit true
namespace DL
open PySem PySem.Spec PyProof.Rows L2 PySem.Froz
theorem perm_sub {α : Type} [DecidableEq α] : ∀ {l ks : List α}, l.Nodup → (∀ x ∈ l, x ∈ ks) → ks.length ≤ l.length → l.Perm ks
  | [], ks, _, _, h => by
    have : ks = [] := List.length_eq_zero_iff.mp (by simpa using h)
    rw [this]
  | a :: l, ks, nd, hs, h => by
    have ha := hs a (by simp)
    have hn := List.nodup_cons.mp nd
    refine List.Perm.trans (List.Perm.cons a (perm_sub hn.2 (fun x hx => ?_) ?_)) (List.perm_cons_erase ha).symm
    · exact (List.mem_erase_of_ne (fun e : x = a => hn.1 (e ▸ hx))).mpr (hs x (by simp [hx]))
    · rw [List.length_erase_of_mem ha]
      simp only [List.length_cons] at h
      omega
def vTx : Value → Str
  | .str k _ => k
  | _ => ""
theorem vTx_of {P : Program} {w : World} {k : Str} {v : Value} (h : (strKind P w).is k v = true) : ∃ t, v = .str k t := by
  have h : Value.isStrOf k v = true := h
  cases v <;> simp [Value.isStrOf] at h
  exact ⟨_, by rw [h]⟩
/-- the texts of a gathered set -/
theorem TxG.out {P : Program} {w : World} {C : SD} {l : List Str} (G : TxG P w C l) {out : List Value} (hp : out.Perm (C.1.toList.map (·.2))) : (∀ v ∈ out, ∃ t, v = .str (vTx v) t) ∧ l.Perm (out.map vTx) := by
  have h1 : ∀ v ∈ out, ∃ k t, v = .str k t := fun v hv => by
    obtain ⟨e, he, rfl⟩ := List.mem_map.mp (hp.mem_iff.mp hv)
    obtain ⟨⟨k, hk, _⟩, _⟩ := G.ok.el e he
    obtain ⟨t, ht⟩ := vTx_of hk
    exact ⟨k, t, ht⟩
  refine ⟨fun v hv => ?_, perm_sub G.nd (fun x hx => ?_) ?_⟩
  · obtain ⟨k, t, rfl⟩ := h1 v hv
    exact ⟨t, rfl⟩
  · obtain ⟨e, he, hk⟩ := (G.ok.mem x).mp hx
    obtain ⟨t, ht⟩ := vTx_of hk
    refine List.mem_map.mpr ⟨e.2, hp.mem_iff.mpr (List.mem_map.mpr ⟨e, he, rfl⟩), ?_⟩
    rw [ht]
    rfl
  · rw [List.length_map, hp.length_eq, List.length_map, Array.length_toList, G.ok.sz]
    exact Nat.le_refl _
theorem alike_strs (l : List Str) : PySem.W.AllAlike (l.map PyData.str) := by
  intro d hd d' hd'
  obtain ⟨a, _, rfl⟩ := List.mem_map.mp hd
  obtain ⟨b, _, rfl⟩ := List.mem_map.mp hd'
  rfl
theorem sortable_strs (l : List Str) : PySem.W.Sortable (l.map PyData.str) := .inr fun d hd => by
  obtain ⟨a, _, rfl⟩ := List.mem_map.mp hd
  exact ⟨fun e => (nomatch e), fun xs e => (nomatch e)⟩
theorem vals_strs : ∀ {out : List Value}, (∀ v ∈ out, ∃ t, v = .str (vTx v) t) → Vals ((out.map vTx).map V.str) out
  | [], _ => .nil
  | v :: out, h => by
    obtain ⟨t, ht⟩ := h v (by simp)
    exact .cons ⟨t, ht⟩ (vals_strs fun u hu => h u (by simp [hu]))
theorem dpAll_txs {K : PySem.W.Frag} {H : Hp} : ∀ l : List Str, DpAll K H (l.map V.str) (l.map PyData.str)
  | [] => .nil
  | k :: l => .cons (.str _) (dpAll_txs l)
theorem dpAll_txs_inv {K : PySem.W.Frag} {H : Hp} : ∀ {l : List Str} {xs : List V}, DpAll K H xs (l.map PyData.str) → xs = l.map V.str
  | [], _, h => by cases h; rfl
  | k :: l, _, h => by
    cases h with
    | cons h1 h2 => rw [dp_str_inv h1, dpAll_txs_inv h2]; rfl
theorem vals_str_at : ∀ {l : List Str} {its : List Value}, Vals (l.map V.str) its → ∀ (i : Nat) v, its[i]? = some v → ∃ k t, l[i]? = some k ∧ v = .str k t
  | [], _, .nil, i, v, h => by simp at h
  | k :: l, _, .cons ⟨t, ht⟩ r, 0, v, h => by
    simp at h
    exact ⟨k, t, rfl, by rw [← h, ht]⟩
  | k :: l, _, .cons _ r, i + 1, v, h => vals_str_at r i v (by simpa using h)
section
variable {X : Cx}
def rSS (K : PySem.W.Frag) : List V → Hp → VK → Prop := fun vs H Q => ∃ M x, ∃ ws : List Str, vs = [x] ∧ Same M H ∧ (Dp K M x (.list (ws.map .str)) ∨ Dp K M x (.tuple (ws.map .str))) ∧ ws.length + 1 < scanBound ∧
  ∀ (l : List Str) p ys, l.Nodup → (∀ w, w ∈ l ↔ w ∈ ws) → H p = none → DpAll K M ys (sortD (l.map .str)) → Q (.ref p) (upd H p (.lst ys))
def tSS (K : PySem.W.Frag) (ta : TE) : TE := fun σ H Q => ta σ H fun x H1 => rSS K [x] H1 Q
theorem sorted_set_tx {pins : List (Addr × Obj)} {σ : L2.St} {H M : Hp} {s s1 : Shared} {C : SD} {u ws : List Str} {a : Addr} {Q : VK} {E : Value → Shared → Prop} (I : L2.Inv X pins σ H s) (hc : X.calm = true) (hu : X.A.units + 100 < cLine) (sm : Same M H)
    (ha : s1.heap.get? a = some (sObj "set" C)) (G : TxG X.prog X.w C u) (hm : ∀ j, j ∈ u ↔ j ∈ ws) (hb : u.length < scanBound) (k1 : ∀ b o, s.heap.get? b = some o → s1.heap.get? b = some o) (hz : s.heap.objs.size ≤ s1.heap.objs.size) (hg : s1.gens = s.gens) (hos : s1.os = s.os)
    (q : ∀ (l : List Str) p ys, l.Nodup → (∀ w, w ∈ l ↔ w ∈ ws) → H p = none → DpAll X.K M ys (sortD (l.map .str)) → Q (.ref p) (upd H p (.lst ys))) :
    wpAny (model X.prog X.w) X.A (call (.builtin "sorted") [.ref a]) (fun v s' => ∃ x H', L2.Inv X pins σ H' s' ∧ RelV x v ∧ Q x H') E s1 := by
  obtain ⟨es, ep, t⟩ := C
  have hsz : es.size = u.length := G.ok.sz
  refine sorted_coll (s := s1) (enc := Prod.snd) (R := fun (v : Value) (b : V × D) => RelV b.1 v ∧ Dp X.K M b.1 b.2) fun Q' E' hq => ?_
  refine collect_set (by simpa using I.ok.hd hc) ⟨_, ha, rfl, rfl⟩ G.ok.fit (by rw [hsz]; exact hb) G.ris G.led fun s2 out k2 hz2 hg2 ho2 hp => ?_
  obtain ⟨h1, h2⟩ := G.out hp
  have hlen : ((out.map vTx).map V.str).length = ((out.map vTx).map PyData.str).length := by simp
  have ev := vals_strs h1
  have ed : DpAll X.K M ((out.map vTx).map V.str) ((out.map vTx).map PyData.str) := dpAll_txs _
  have ez : ((((out.map vTx).map V.str).zip ((out.map vTx).map PyData.str)).map Prod.snd) = (out.map vTx).map PyData.str := zip_snd hlen
  have ol : out.length = u.length := by rw [h2.length_eq, List.length_map]
  refine hq out s2 (((out.map vTx).map V.str).zip ((out.map vTx).map PyData.str)) k2 hz2 hg2 ho2 (each_zip ed ev) ?_ (by rw [ez]; exact alike_strs _) (by rw [ez]; exact sortable_strs _) ?_ (fun b hb => ?_) fun p o2 c s3 k hp3 g o hg3 hl3 he => ?_
  · have er := each_reads (X := X) I (dpAll_same sm ed) ev
    exact er.mono fun _ _ ⟨as, r⟩ => ⟨as, PyProof.Rows.Reads.keeps k1 r⟩
  · simp only [List.length_zip, List.length_map, Nat.min_self]
    have := fits_of_scanBound hb
    omega
  · have : b.2 ∈ (out.map vTx).map PyData.str := by rw [← ez]; exact List.mem_map.mpr ⟨b, hb, rfl⟩
    obtain ⟨z, _, e⟩ := List.mem_map.mp this
    rw [← e]
    show X.A.units + 2 + PyData.depth (.str z) < cLine
    simp only [PyData.depth]
    omega
  · obtain ⟨e1, e2⟩ := each_vals he
    rw [sort_zip hlen] at e2
    have hsp : s.heap.objs.size ≤ p := Nat.le_trans hz hp3
    refine ⟨.ref p, _, inv_new I (fun b o e => k b o (k1 b o e)) hsp (g.trans hg) (o.trans hos) ?_ e1 hg3, rfl, q (out.map vTx) p _ (h2.nodup_iff.mp G.nd) (fun w => by rw [← h2.mem_iff, hm]) (I.hok.fresh hsp) e2⟩
    rw [e1.length, hl3]
    simp only [List.length_zip, List.length_map, Nat.min_self]
    have := fits_of_scanBound hb
    omega
theorem pe_sortedSet {a : Expr} {ta : TE} {p p2 q pos : Pos} (hc : X.calm = true) (hg : Gl X "sorted") (hm : X.mg "sorted" = none) (hg2 : Gl X "set") (hm2 : X.mg "set" = none) (hu : X.A.units + 100 < cLine) (ha : PE X a ta)
    (na : starEach [a] X.env = (false, eval a X.env) :: starEach [] X.env := by rfl) : PE X (.Call (.Name "sorted" p) [.Call (.Name "set" p2) [a] [] q] [] pos) (tSS X.K ta) := by
  refine ⟨fun pins s σ H Q I h => Call_ (ld_blt I hg hm (show bootBuiltins "sorted" = some (.builtin "sorted") by decide +kernel) (PyProof.Rows.callWith_builtin1 (PyProof.Rows.args_cons (Call_ (ld_blt I hg2 hm2 PyProof.Rows.boot_set ?_)) rfl) rfl rfl))⟩
  refine PyProof.Rows.callWith_type1 (PyProof.Rows.args_cons (thn (ha.run pins s σ H _ I h) fun v s1 ⟨x, H1, I1, r1, ⟨M, x', ws, e1, sm, hx, hb, q1⟩⟩ => PyProof.Rows.args_nil ?_) na) na rfl
  cases e1
  rcases hx with hx | hx
  · obtain ⟨a0, xs, rfl, hs, da⟩ := dp_list_inv hx
    rw [dpAll_txs_inv da] at hs
    cases r1
    obtain ⟨its, r, pl, hz⟩ := I1.list (sm.seq hs)
    have hl : its.toArray.size = ws.length := by rw [List.size_toArray, ← r.length, List.length_map]
    refine call_set_list ws (I1.ok.hd hc) pl.isList (fun i v hv => vals_str_at r i v (by simpa using hv)) hl hb fun h' tk C u g0 G hmm hle kk => PyProof.Rows.args_nil ?_
    exact sorted_set_tx (s := s1) (s1 := { s1 with heap := h', toks := tk }) I1 hc hu sm g0 G hmm (by omega) kk (Nat.le_of_lt (Heap.lt_size g0)) rfl rfl q1
  · obtain ⟨a0, xs, rfl, hs, da⟩ := dp_tuple_inv hx
    rw [dpAll_txs_inv da] at hs
    cases r1
    obtain ⟨its, r, pl, hz⟩ := I1.tuple (Same.sqT sm hs)
    have hl : its.toArray.size = ws.length := by rw [List.size_toArray, ← r.length, List.length_map]
    refine call_set_tuple ws (I1.ok.hd hc) pl (fun i v hv => vals_str_at r i v (by simpa using hv)) hl hb fun h' tk C u g0 G hmm hle kk => PyProof.Rows.args_nil ?_
    exact sorted_set_tx (s := s1) (s1 := { s1 with heap := h', toks := tk }) I1 hc hu sm g0 G hmm (by omega) kk (Nat.le_of_lt (Heap.lt_size g0)) rfl rfl q1
def dSS : DRC := fun xs Γ R => ∃ ws : List Str, (xs = [.d (.list (ws.map .str))] ∨ xs = [.d (.tuple (ws.map .str))]) ∧ ws.length ≤ 4000 ∧ ∀ l : List Str, l.Nodup → (∀ w, w ∈ l ↔ w ∈ ws) → R (.d (.list (sortD (l.map .str)))) Γ
theorem cs_SS {K : PySem.W.Frag} : CSim K (rSS K) dSS := by
  intro B M Γ σ H H0 Q R xs vs k r ⟨ws, e, hl, h1⟩ q
  have fin : ∀ x, (Dp K H0 x (.list (ws.map .str)) ∨ Dp K H0 x (.tuple (ws.map .str))) → rSS K [x] H Q := fun x hx =>
    ⟨H0, x, ws, rfl, k.sub, hx, by unfold scanBound; omega, fun l p ys hn hm hp dy => by
      obtain ⟨k2, s2⟩ := k.laid (o := .lst ys) hp
      exact q _ _ Γ _ _ (h1 l hn hm) s2 k2 (Dp.lst (.inl (.inl upd_same)) (dpAll_same s2 dy))⟩
  rcases e with e | e
  · subst e
    cases r with
    | cons r1 r2 => cases r2; exact fin _ (.inl r1)
  · subst e
    cases r with
    | cons r1 r2 => cases r2; exact fin _ (.inr r1)
theorem sim_SS {K : PySem.W.Frag} {t : TE} {δ : DE} (h : Sim K t δ) : Sim K (tSS K t) (fun Γ R => δ Γ fun x Γ1 => dSS [x] Γ1 R) := fun B M Γ σ H H0 Q R k h1 q =>
  h B M Γ σ H H0 _ _ k h1 fun v x Γ1 H1 H01 h2 s1 k1 r1 => cs_SS B M Γ1 σ H1 H01 Q R [x] [v] k1 (.cons r1 .nil) h2 fun v x Γ2 H2 H02 h3 s2 k2 r2 => q v x Γ2 H2 H02 h3 (s1.trans s2) k2 r2
def dSSe (δ : DE) : DE := fun Γ R => δ Γ fun x Γ1 => dSS [x] Γ1 R
theorem pd_sortedSet {a : Expr} {δ : DE} {p p2 q pos : Pos} (hc : X.calm = true) (hg : Gl X "sorted") (hm : X.mg "sorted" = none) (hg2 : Gl X "set") (hm2 : X.mg "set" = none) (hu : X.A.units + 100 < cLine) (ha : PD X a δ)
    (na : starEach [a] X.env = (false, eval a X.env) :: starEach [] X.env := by rfl) : PD X (.Call (.Name "sorted" p) [.Call (.Name "set" p2) [a] [] q] [] pos) (dSSe δ) := match ha with
  | ⟨_, h, s⟩ => ⟨_, pe_sortedSet hc hg hm hg2 hm2 hu h na, sim_SS s⟩
theorem u_SSe {δ : DE} {Γ : DCtx} {R : DK} : dSSe δ Γ R = δ Γ fun x Γ1 => dSS [x] Γ1 R := rfl
end
end DL

set_option Elab.async false
set_option linter.all false
set_option maxRecDepth 100000
set_option maxHeartbeats 4000000
set_option autoImplicit true
namespace DL
open PySem PySem.Spec PyProof.Rows L2 PySem.Froz
/-! ### sets of tuples of texts -/
abbrev TK (P : Program) (w : World) (h : Heap) (k : List Str) (b : Addr) : Prop := IsTupleKey (strKind P w) h k b
abbrev hT (P : Program) (w : World) (k : List Str) : Int := tupleKeyHash (strKind P w) k
def rwT (P : Program) (w : World) (L : List (Addr × List Str)) : List (Int × Value) := L.map fun p => (hT P w p.2, .ref p.1)
section
variable {P : Program} {w : World} {A : Around} {E : Value → Shared → Prop} {s : Shared}
theorem items_strs {k : List Str} {vs : List Value} (h : ItemsAre (strKind P w) k vs) : ∀ v ∈ vs, ∃ z t, v = Value.str z t := by
  induction h with
  | nil => exact fun v hv => nomatch hv
  | cons h1 _ ih =>
    intro v hv
    rcases List.mem_cons.mp hv with rfl | hv
    · obtain ⟨t, e⟩ := vTx_of h1
      exact ⟨_, t, e⟩
    · exact ih v hv
theorem noClass {k : List Str} {b : Addr} {Q : Bool → Shared → Prop} (hk : TK P w s.heap k b) (h : Q false s) : wpAny (model P w) A (ofAClassStatement 8 (.ref b)) Q E s := by
  have ty := hk.typeIs
  obtain ⟨o, its, n, ho, _, hd, hi⟩ := hk
  have e : (("tuple" : String) == "tuple") = true := by decide
  have nc : ∀ (n : Nat) (z : Str) (t : Tok), ofAClassStatement n (.str z t) = pure false := fun n z t => by cases n <;> rfl
  unfold ofAClassStatement
  refine wpAny_bind (wpAny_typeOf ty (by
    dsimp only
    rw [if_pos e]
    refine wpAny_bind (wpAny_pure (by
      rw [if_neg (by decide)]
      refine wpAny_bind (m := seqItems? (.ref b)) (wpAny_seqItems ho hd (wpAny_bind (by
        show wpAny _ _ (forIn its _ _) _ _ s
        rw [← Array.forIn_toList]
        refine wpAny_forIn_list _ (fun l r s' => (r.1 = none ∧ s' = s) ∧ ∀ v ∈ l, ∃ z t, v = Value.str z t) _ (fun v l r s' ⟨⟨hr, hs⟩, hall⟩ => ?_) (fun r s' ⟨⟨hr, hs⟩, _⟩ => ?_) _ _ ⟨⟨rfl, rfl⟩, items_strs hi⟩
        · obtain ⟨z, t, rfl⟩ := hall v (by simp)
          rw [nc]
          exact wpAny_bind (wpAny_pure (by rw [if_neg (by decide)]; exact wpAny_pure ⟨⟨rfl, hs⟩, fun u hu => hall u (by simp [hu])⟩))
        · obtain ⟨r1, r2⟩ := r
          cases hr
          subst hs
          exact wpAny_pure h)))))))
theorem byVal {k : List Str} {b : Addr} {Q : Bool → Shared → Prop} (hk : TK P w s.heap k b) (h : ∀ r, Q r s) : wpAny (model P w) A (hashByValue 8 (.ref b)) Q E s := by
  have ty := hk.typeIs
  obtain ⟨o, its, n, ho, _, hd, hi⟩ := hk
  have nv : ∀ (n : Nat) (z : Str) (t : Tok), hashByValue n (.str z t) = pure false := fun n z t => by cases n <;> rfl
  unfold hashByValue
  refine wpAny_bind (wpAny_specialOf ty F.slot_tuple_hash.lookup (by
    refine wpAny_bind (m := seqItems? (.ref b)) (wpAny_seqItems ho hd (wpAny_bind (by
      show wpAny _ _ (forIn its _ _) _ _ s
      rw [← Array.forIn_toList]
      refine wpAny_forIn_list _ (fun l r s' => (r.1 = none ∧ s' = s) ∧ ∀ v ∈ l, ∃ z t, v = Value.str z t) _ (fun v l r s' ⟨⟨hr, hs⟩, hall⟩ => ?_) (fun r s' ⟨⟨hr, hs⟩, _⟩ => ?_) _ _ ⟨⟨rfl, rfl⟩, items_strs hi⟩
      · obtain ⟨z, t, rfl⟩ := hall v (by simp)
        rw [nv]
        refine wpAny_bind (wpAny_pure ?_)
        rw [if_pos (by decide)]
        subst hs
        exact wpAny_pure (wpAny_pure (h _))
      · obtain ⟨r1, r2⟩ := r
        cases hr
        subst hs
        exact wpAny_pure (h _))))))
theorem unseen {k : List Str} {b : Addr} {Q : Bool → Shared → Prop} (hk : TK P w s.heap k b) {ys : List Value} (hy : ∀ y ∈ ys, ∃ k' c, y = Value.ref c ∧ TK P w s.heap k' c) (h : Q false s) : wpAny (model P w) A (searchCouldBeSeen (.ref b) ys) Q E s := by
  unfold searchCouldBeSeen
  refine wpAny_bind (wpAny_forIn_list _ (fun l r s' => (r.1 = none ∧ s' = s) ∧ ∀ y ∈ l, ∃ k' c, y = Value.ref c ∧ TK P w s.heap k' c) _ (fun v l r s' ⟨⟨hr, hs⟩, hall⟩ => ?_) (fun r s' ⟨⟨hr, hs⟩, _⟩ => ?_) _ _ ⟨⟨rfl, rfl⟩, hy⟩)
  · obtain ⟨k', c, rfl, hc⟩ := hall v (by simp)
    subst hs
    have nxt : ∀ y ∈ l, ∃ k' c, y = Value.ref c ∧ TK P w s'.heap k' c := fun u hu => hall u (by simp [hu])
    dsimp only
    by_cases hv : (b == c || (carriedByValue (.ref b) && carriedByValue (.ref c))) = true
    · exact wp_if_pos hv (wpAny_pure ⟨⟨rfl, rfl⟩, nxt⟩)
    · refine wp_if_neg hv (wpAny_bind (wpAny_eqIsQuiet_tuple hk ?_))
      rw [if_neg (by decide)]
      refine wpAny_bind (wpAny_eqIsQuiet_tuple hc ?_)
      rw [if_neg (by decide)]
      refine wpAny_bind (noClass hk ?_)
      rw [if_neg (by decide)]
      refine wpAny_bind (noClass hc ?_)
      rw [if_neg (by decide)]
      exact wpAny_pure ⟨⟨rfl, rfl⟩, nxt⟩
  · obtain ⟨r1, r2⟩ := r
    cases hr
    subst hs
    exact wpAny_pure h
/-- the payload holds these tuples -/
structure TupG (P : Program) (w : World) (h : Heap) (C : SD) (L : List (Addr × List Str)) : Prop where
  rows : C.1.toList = rwT P w L
  tab : TabOk C.2.2 (L.map fun p => hT P w p.2)
  nd : (L.map Prod.snd).Nodup
  tup : ∀ p ∈ L, TK P w h p.2 p.1
  led : w.params.followText "set-order" = true ∨ C.2.2.led = true
  room : L.length * 5 < C.2.2.mask * 3
  few : L.length < 64
theorem rwT_len {es : Array (Int × Value)} {L : List (Addr × List Str)} (h : es.toList = rwT P w L) : es.size = L.length := by
  rw [← Array.length_toList, h]
  exact List.length_map _
theorem rwT_at {es : Array (Int × Value)} {L : List (Addr × List Str)} (h : es.toList = rwT P w L) (i : Nat) : es[i]? = L[i]?.map fun p => (hT P w p.2, Value.ref p.1) := by
  rw [← Array.getElem?_toList, h]
  exact List.getElem?_map
theorem fit_of {t : SetTable} {n : Nat} (h1 : t.place.size = n) (h2 : t.dummies = #[]) (h3 : n ≤ t.mask) : t.fits n = true := by
  unfold SetTable.fits SetTable.fill
  rw [h2, h1]
  simp
  exact h3
theorem TupG.fit {h : Heap} {C : SD} {L : List (Addr × List Str)} (G : TupG P w h C L) : C.2.2.fits C.1.size = true := by
  have h1 := G.tab.sz
  have h2 := G.room
  rw [List.length_map] at h1
  rw [rwT_len G.rows]
  exact fit_of h1 G.tab.dm (by omega)
theorem TupG.odd {h : Heap} {C : SD} {L : List (Addr × List Str)} (G : TupG P w h C L) : ¬ C.2.2.gaveWay = true := by
  unfold SetTable.gaveWay
  rw [mask_odd G.tab.mok]
  decide
theorem nth_undummy (m : Nat) : ∀ (n : Nat) (p : SetTable.Probe), p.dummy = none → (nth m p n).dummy = none
  | 0, _, h => h
  | n + 1, p, h => nth_undummy m n (adv m p) (by unfold adv; split <;> exact h)
/-- from the c-th stop of the way on, to its first empty slot, the K-th -/
theorem TupG.seek {a x : Addr} {C : SD} {L : List (Addr × List Str)} {k : List Str} (G : TupG P w s.heap C L) (ho : s.heap.get? a = some (sObj "set" C)) (hx : TK P w s.heap k x) (hu : A.units < cLine) {K : Nat} {Q : SetFound → Shared → Prop}
    (k1 : K < 10 * SetTable.turns C.2.2.mask) (k2 : way C.2.2.mask (hT P w k) K ∉ C.2.2.place.toList) (k3 : ∀ c, c < K → way C.2.2.mask (hT P w k) c ∈ C.2.2.place.toList)
    (yes : k ∈ L.map Prod.snd → Q (.there none) s) (no : k ∉ L.map Prod.snd → Q (.free (way C.2.2.mask (hT P w k) K) false) s) : ∀ (f c : Nat) (at0 : Option SetTable.Probe),
    at0.getD (C.2.2.probeStart (hT P w k)) = nth C.2.2.mask (runAt C.2.2.mask (SetTable.bits (hT P w k) % (C.2.2.mask + 1)) (SetTable.bits (hT P w k))) c → c ≤ K → K - c < f →
    (∀ (i : Nat) q, L[i]? = some q → q.2 = k → ∃ c', (c ≤ c' ∧ c' < K) ∧ C.2.2.place.toList[i]? = some (way C.2.2.mask (hT P w k) c')) → wpAny (model P w) A (setSearchFrom a (.ref x) (hT P w k) true f at0) Q E s := by
  obtain ⟨es, ep, t⟩ := C
  intro f
  induction f with
  | zero => exact fun c at0 _ _ hf => absurd hf (by omega)
  | succ f ih =>
    intro c at0 e0 hc hf later
    have fit : t.fits es.size = true := G.fit
    have stop : ∀ n, (nth t.mask (nth t.mask (runAt t.mask (SetTable.bits (hT P w k) % (t.mask + 1)) (SetTable.bits (hT P w k))) c) n) = nth t.mask (runAt t.mask (SetTable.bits (hT P w k) % (t.mask + 1)) (SetTable.bits (hT P w k))) (c + n) := fun n => (nth_add t.mask c _ n).symm
    have stopJ : ∀ n, (nth t.mask (nth t.mask (runAt t.mask (SetTable.bits (hT P w k) % (t.mask + 1)) (SetTable.bits (hT P w k))) c) n).j = way t.mask (hT P w k) (c + n) := fun n => congrArg SetTable.Probe.j (stop n)
    have hash : ∀ (i : Nat) q, L[i]? = some q → ((es[i]?.map (·.1)).getD 0) = hT P w q.2 := fun i q hq => by rw [rwT_at G.rows, hq]; rfl
    have met := go_spec t G.tab.ris G.tab.dm (fun i => (es[i]?.map (·.1)).getD 0) (hT P w k) (10 * SetTable.turns t.mask) (K - c) _ (nth_undummy t.mask c _ rfl) (by have : K < 10 * SetTable.turns t.mask := k1; omega) (fun n hn => by rw [stopJ]; exact k3 _ (by omega)) (by rw [stopJ, show c + (K - c) = K by omega]; exact k2)
    rw [← e0] at met
    rw [setSearchFrom_succ]
    refine wpAny_bind (wpAny_setState_of ho rfl fit ?_)
    dsimp only
    refine wp_if_neg G.odd ?_
    rcases met with ⟨n, i, hn, hi, hh, before, went⟩ | ⟨before, went⟩
    · rw [show t.probe (fun i => (es[i]?.map (·.1)).getD 0) (hT P w k) (at0.getD (t.probeStart (hT P w k))) = _ from went]
      rw [e0, stopJ] at hi
      have il : i < L.length := by
        have h1 := (List.getElem?_eq_some_iff.mp hi).1
        have h2 := G.tab.sz
        rw [List.length_map] at h2
        rw [Array.length_toList] at h1
        exact h2 ▸ h1
      obtain ⟨q, hq⟩ : ∃ q, L[i]? = some q := ⟨_, List.getElem?_eq_getElem il⟩
      have qm := List.mem_of_getElem? hq
      have ent : es[i]? = some (hT P w q.2, Value.ref q.1) := by rw [rwT_at G.rows, hq]; rfl
      have live : t.slot (way t.mask (hT P w k) (c + n)) = .live i := slot_live G.tab.ris hi
      rw [e0, stopJ, stop]
      have behind : wpAny (model P w) A (searchRest a (.ref x) (hT P w k) true f es t (way t.mask (hT P w k) (c + n)) i (nth t.mask (runAt t.mask (SetTable.bits (hT P w k) % (t.mask + 1)) (SetTable.bits (hT P w k))) (c + (n + 1)))) Q E s := by
        unfold searchRest
        rw [ent]
        refine wpAny_bind (wpAny_holding (wpAny_eqBool_tuple hu (G.tup q qm) hx (wpAny_bind (wpAny_setState_of ho rfl fit ?_))))
        dsimp only
        by_cases same : q.2 = k
        · exact wp_if_pos (by simp [same]) (wpAny_pure (yes (List.mem_map.mpr ⟨q, qm, same⟩)))
        · refine wp_if_neg (by simp [same]) ?_
          rw [sameMem]
          simp only [if_true, live, ent]
          refine wpAny_bind (wpAny_isSame_ref_self (wpAny_bind (wpAny_pure ?_)))
          simp only [if_true]
          refine wp_if_neg (by simp [same]) (ih (c + (n + 1)) _ rfl (by omega) (by omega) fun i2 q2 hq2 ek => ?_)
          obtain ⟨c', hc', hp⟩ := later i2 q2 hq2 ek
          refine ⟨c', ⟨Classical.byContradiction fun lt => ?_, hc'.2⟩, hp⟩
          rcases (by omega : c' < c + n ∨ c' = c + n) with h | h
          · refine before (c' - c) i2 (by omega) ?_ ((hash i2 q2 hq2).trans (by rw [ek]))
            rw [e0, stopJ, show c + (c' - c) = c' by omega]
            exact hp
          · rw [h] at hp
            have l2 := slot_live G.tab.ris hp
            rw [live] at l2
            cases l2
            rw [hq] at hq2
            cases hq2
            exact same ek
      by_cases hl : t.led = true
      · exact wp_if_neg (by simp [hl]) behind
      · refine wp_if_pos (by simp [hl]) (wpAny_bind (unseen hx (fun y hy => ?_) (wp_if_neg (by decide) behind)))
        obtain ⟨e, he, rfl⟩ := List.mem_map.mp hy
        have he : e ∈ es.toList := by
          have : e ∈ es ∧ e.1 = hT P w k := by simpa using he
          simpa using this.1
        rw [G.rows] at he
        obtain ⟨q2, hm2, rfl⟩ := List.mem_map.mp he
        exact ⟨q2.2, q2.1, rfl, G.tup q2 hm2⟩
    · rw [show t.probe (fun i => (es[i]?.map (·.1)).getD 0) (hT P w k) (at0.getD (t.probeStart (hT P w k))) = _ from went]
      rw [e0, stopJ, show c + (K - c) = K by omega]
      refine wpAny_pure (no fun hm => ?_)
      obtain ⟨q, qm, rfl⟩ := List.mem_map.mp hm
      obtain ⟨i, il, eq⟩ := List.getElem_of_mem qm
      have hq : L[i]? = some q := by rw [List.getElem?_eq_getElem il, eq]
      obtain ⟨c', hc', hp⟩ := later i q hq rfl
      refine before (c' - c) i (by omega) ?_ (hash i q hq)
      rw [e0, stopJ, show c + (c' - c) = c' by omega]
      exact hp
theorem TupG.look {a x : Addr} {C : SD} {L : List (Addr × List Str)} {k : List Str} (G : TupG P w s.heap C L) (ho : s.heap.get? a = some (sObj "set" C)) (hx : TK P w s.heap k x) (hu : A.units < cLine) {Q : SetFound → Shared → Prop}
    (yes : k ∈ L.map Prod.snd → Q (.there none) s) (no : ∀ K, k ∉ L.map Prod.snd → way C.2.2.mask (hT P w k) K ∉ C.2.2.place.toList → (∀ c, c < K → way C.2.2.mask (hT P w k) c ∈ C.2.2.place.toList) → Q (.free (way C.2.2.mask (hT P w k) K) false) s) :
    wpAny (model P w) A (setSearch a (.ref x) (hT P w k) true) Q E s := by
  have rm := G.room
  obtain ⟨K, k1, k2, k3⟩ := G.tab.first (by rw [List.length_map]; omega) (hT P w k)
  have few : 10 * SetTable.turns C.2.2.mask ≤ 5000 := by
    unfold SetTable.turns
    rcases G.tab.mok with e | e | e <;> omega
  refine G.seek ho hx hu k1 k2 k3 yes (fun h => no K h k2 k3) 100000 0 none rfl (by omega) (by omega) fun i q hq ek => ?_
  have hi : (L.map fun p => hT P w p.2)[i]? = some (hT P w k) := by rw [List.getElem?_map, hq, ← ek]; rfl
  have il : i < C.2.2.place.toList.length := by
    have h1 := (List.getElem?_eq_some_iff.mp hq).1
    have h2 := G.tab.sz
    rw [List.length_map] at h2
    rw [Array.length_toList, h2]
    exact h1
  obtain ⟨c, hc, e⟩ := G.tab.before k2 hi (List.getElem?_eq_getElem il)
  exact ⟨c, ⟨by omega, hc⟩, by rw [List.getElem?_eq_getElem il, e]⟩
theorem pick_all {α : Type} (l : List α) : (List.range l.length).filterMap (fun i => l[i]?) = l := by
  induction l with
  | nil => rfl
  | cons a l ih =>
    rw [List.length_cons, List.range_succ_eq_map, List.filterMap_cons]
    show a :: _ = _
    rw [List.filterMap_map]
    exact congrArg (a :: ·) ih
theorem pick_hash {L : List (Addr × List Str)} {es : Array (Int × Value)} (h : es.toList = rwT P w L) : ∀ l : List Nat, (∀ i ∈ l, i < L.length) → ((l.filterMap fun i => L[i]?).map fun p => hT P w p.2) = l.map fun i => (es.map (·.1)).getD i 0
  | [], _ => rfl
  | i :: l, hl => by
    have hi := List.getElem?_eq_getElem (hl i (by simp))
    rw [List.filterMap_cons_some hi, List.map_cons, List.map_cons, pick_hash h l fun j hj => hl j (by simp [hj])]
    congr 1
    have e : (es.map (·.1))[i]? = some (hT P w (L[i]'(hl i (by simp))).2) := by rw [Array.getElem?_map, rwT_at h, hi]; rfl
    simp [Array.getD_eq_getD_getElem?, e]
theorem TK.keep {h h' : Heap} {k : List Str} {a b : Addr} {C : SD} (hb : TK P w h k b) (ho : h.get? a = some (sObj "set" C)) (hs : Heap.SameBut a h h') : TK P w h' k b := by
  obtain ⟨o, its, n, g, hc, hd, hi⟩ := hb
  refine ⟨o, its, n, ?_, hc, hd, hi⟩
  rw [hs.2 b fun e => ?_]
  · exact g
  · rw [e, ho] at g
    cases g
    cases hd
theorem put_set {h : Heap} {a : Addr} {C : SD} {es' : Array (Int × Value)} {t' : SetTable} (ho : h.get? a = some (sObj "set" C)) : (h.update a (Obj.putSet es' t')).get? a = some (sObj "set" (es', C.2.1 + 1, t')) := store_at ho rfl
/-- the larger table -/
theorem TupG.grow {a : Addr} {C : SD} {L : List (Addr × List Str)} {want M : Nat} (ho : s.heap.get? a = some (sObj "set" C)) (rows : C.1.toList = rwT P w L) (sz : C.2.2.place.size = L.length) (dm : C.2.2.dummies = #[]) (le : L.length ≤ C.2.2.mask) (nd : (L.map Prod.snd).Nodup)
    (tup : ∀ p ∈ L, TK P w s.heap p.2 p.1) (led : w.params.followText "set-order" = true ∨ C.2.2.led = true) (few : L.length < 64) (hM : SetTable.sizeAbove want - 1 = M) (ok : MaskOk M) (w128 : SetTable.sizeAbove want ≤ 128) (room : L.length * 5 < M * 3) {Q : Unit → Shared → Prop}
    (hQ : ∀ h' C' L', Heap.SameBut a s.heap h' → h'.get? a = some (sObj "set" C') → TupG P w h' C' L' → L'.Perm L → Q () { s with heap := h' }) : wpAny (model P w) A (setRelay a want) Q E s := by
  obtain ⟨es, ep, t⟩ := C
  have el : es.size = L.length := rwT_len rows
  obtain ⟨t', ord, e1, e2, e3, e4, e5, e6, e7⟩ := relaid_ok t (hs := es.map (·.1)) (wanted := want) hM ok (by rw [Array.size_map, el]; omega)
  rw [Array.size_map, el] at e2
  have all : ∀ i ∈ ord.toList, i < L.length := fun i hi => List.mem_range.mp (e2.mem_iff.mp hi)
  have pm : (ord.toList.filterMap fun i => L[i]?).Perm L := by
    have := e2.filterMap fun i => L[i]?
    rw [pick_all] at this
    exact this
  have rw2 : (ord.filterMap (es[·]?)).toList = rwT P w (ord.toList.filterMap fun i => L[i]?) := by
    rw [Array.toList_filterMap]
    unfold rwT
    rw [List.map_filterMap]
    exact congrArg (fun f => List.filterMap f ord.toList) (funext fun i => rwT_at rows i)
  rw [← pick_hash rows _ all] at e3
  have sz2 : (ord.filterMap (es[·]?)).size = es.size := by rw [rwT_len rw2, pm.length_eq, el]
  have line : (128 : Nat) ≤ sizeLine := by rw [sizeLine_eq]; omega
  rw [setRelay_eq]
  refine wpAny_bind (wpAny_setState_of ho rfl (fit_of (by rw [el]; exact sz) dm (by rw [el]; exact le)) ?_)
  dsimp only
  refine wp_if_neg (by omega) ?_
  rw [e1]
  refine wpAny_bind (wp_if_neg (by rw [sz2]; simp) (wpAny_pure (wpAny_storeSet_of ho rfl ?_ (by rw [sz2, el]; omega))))
  have sb : Heap.SameBut a s.heap (s.heap.update a (Obj.putSet (ord.filterMap (es[·]?)) t')) := Heap.SameBut.update ..
  refine hQ _ _ _ sb (put_set ho) ⟨rw2, e3, (pm.map Prod.snd).nodup_iff.mpr nd, fun p hp => (tup p (pm.mem_iff.mp hp)).keep ho sb, by rw [e5]; exact led, ?_, by rw [pm.length_eq]; exact few⟩ pm
  show _ < t'.mask * 3
  rw [pm.length_eq, e4]
  exact room
/-- adding a tuple, new or not -/
theorem TupG.put {a x : Addr} {C : SD} {L : List (Addr × List Str)} {k : List Str} (G : TupG P w s.heap C L) (ho : s.heap.get? a = some (sObj "set" C)) (hx : TK P w s.heap k x) (hu : A.units < cLine) (few : L.length + 1 < 64) {Q : Bool → Shared → Prop}
    (hQ : ∀ b h' C' L', Heap.SameBut a s.heap h' → h'.get? a = some (sObj "set" C') → TupG P w h' C' L' → (∀ j, j ∈ L'.map Prod.snd ↔ j = k ∨ j ∈ L.map Prod.snd) → L'.length ≤ L.length + 1 → (∀ p ∈ L', p = (x, k) ∨ p ∈ L) → Q b { s with heap := h' }) :
    wpAny (model P w) A (setAddHashed a (.ref x) (hT P w k)) Q E s := by
  have done : ∀ b h' C' L', Heap.SameBut a s.heap h' → h'.get? a = some (sObj "set" C') → TupG P w h' C' L' → L'.Perm ((x, k) :: L) → Q b { s with heap := h' } := fun b h' C' L' h1 h2 h3 pm => hQ b h' C' L' h1 h2 h3 (fun j => by
    rw [(pm.map Prod.snd).mem_iff]
    simp) (by rw [pm.length_eq]; exact Nat.le_refl _) fun p hp => by simpa using pm.mem_iff.mp hp
  obtain ⟨es, ep, t⟩ := C
  have el : es.size = L.length := rwT_len G.rows
  have rm : L.length * 5 < t.mask * 3 := G.room
  have line : (128 : Nat) ≤ sizeLine := by rw [sizeLine_eq]; omega
  unfold setAddHashed
  refine wpAny_holding ?_
  rw [show (100000 : Nat) = 99999 + 1 from rfl, setAddHashedIn_succ]
  refine wpAny_bind (wpAny_setState_of ho rfl G.fit ?_)
  dsimp only
  refine wp_if_neg (by simp [byScan, Value.scannable]) (wpAny_bind (G.look ho hx hu (fun hm => ?_) fun K hm k2 k3 => ?_))
  · exact wpAny_pure (hQ false s.heap (es, ep, t) L (Heap.SameBut.refl a s.heap) ho G (fun j => ⟨.inr, fun z => z.elim (fun e => e ▸ hm) id⟩) (by omega) fun p hp => .inr hp)
  · refine wpAny_bind (wpAny_setState_of ho rfl G.fit ?_)
    obtain ⟨q1, q2, q3, q4, q5, q6, q7, q8, q9⟩ := G.tab.put k2 k3
    dsimp only at q1 q2 q3 q4 q5 q9 ⊢
    generalize t.put (way t.mask (hT P w k) K) = tp at q1 q3 q4 q5 q9 ⊢
    obtain ⟨t1, n⟩ := tp
    dsimp only at q1 q3 q4 q5 q9 ⊢
    rw [← q1] at q2 q3
    have pm := put_perm L n (x, k)
    have e1 : (SetTable.insertAt es n (hT P w k, Value.ref x)).toList = rwT P w (L.take n ++ (x, k) :: L.drop n) := by
      rw [SetTable.toList_insertAt, show es.toList = rwT P w L from G.rows]
      unfold rwT
      rw [List.map_append, List.map_cons, List.map_take, List.map_drop]
    have e2 : (L.take n ++ (x, k) :: L.drop n).map (fun p => hT P w p.2) = (L.map fun p => hT P w p.2).take n ++ hT P w k :: (L.map fun p => hT P w p.2).drop n := by
      rw [List.map_append, List.map_cons, List.map_take, List.map_drop]
    rw [← e2] at q3
    have l1 := pm.length_eq
    rw [List.length_cons] at l1
    have n1 : ((L.take n ++ (x, k) :: L.drop n).map Prod.snd).Nodup := (pm.map Prod.snd).nodup_iff.mpr (List.nodup_cons.mpr ⟨hm, G.nd⟩)
    have s1 := rwT_len e1
    rw [List.length_map] at q9
    have rest : ∀ t2 : SetTable, t2.place = t1.place → t2.dummies = t1.dummies → t2.mask = t1.mask → t2.led = t1.led → wpAny (model P w) A (do
        storeSet a (SetTable.insertAt es n (hT P w k, Value.ref x)) t2
        if !false && t2.tooFull then setRelay a (SetTable.grown (es.size + 1))
        return true) Q E s := fun t2 f1 f2 f3 f4 => by
      have T2 : TabOk t2 ((L.take n ++ (x, k) :: L.drop n).map fun p => hT P w p.2) := ⟨by rw [f1]; exact q3.ris, by rw [f2]; exact q3.dm, by rw [f1]; exact q3.sz, by rw [f3]; exact q3.mok, by rw [f1, f3]; exact q3.bd, by rw [f1, f3]; exact q3.reach⟩
      have fl : t2.fill = L.length + 1 := by
        rw [← q9]
        unfold SetTable.fill
        rw [f1, f2]
      have m2 : t2.mask = t.mask := f3.trans q4
      refine wpAny_bind (wpAny_storeSet_of ho rfl ?_ (by rw [s1, l1]; omega))
      have sb : Heap.SameBut a s.heap (s.heap.update a (Obj.putSet (SetTable.insertAt es n (hT P w k, Value.ref x)) t2)) := Heap.SameBut.update ..
      have g1 := put_set (es' := SetTable.insertAt es n (hT P w k, Value.ref x)) (t' := t2) ho
      have tup1 : ∀ p ∈ L.take n ++ (x, k) :: L.drop n, TK P w (s.heap.update a (Obj.putSet (SetTable.insertAt es n (hT P w k, Value.ref x)) t2)) p.2 p.1 := fun p hp => by
        rcases List.mem_cons.mp (pm.mem_iff.mp hp) with rfl | hp
        · exact hx.keep ho sb
        · exact (G.tup p hp).keep ho sb
      have led1 : w.params.followText "set-order" = true ∨ t2.led = true := by rw [f4, q5]; exact G.led
      by_cases full : t2.tooFull = true
      · have big : (L.length + 1) * 5 ≥ t2.mask * 3 := by
          have h := full
          unfold SetTable.tooFull at h
          rw [decide_eq_true_eq, fl] at h
          exact h
        have two : (t.mask = 7 ∧ L.length = 4) ∨ (t.mask = 31 ∧ L.length = 18) := by
          have mk : MaskOk t.mask := G.tab.mok
          rcases mk with e | e | e
          · left; exact ⟨e, by omega⟩
          · right; exact ⟨e, by omega⟩
          · exfalso; omega
        have sz2 := T2.sz
        rw [List.length_map] at sz2
        have go : ∀ M, SetTable.sizeAbove (SetTable.grown (L.length + 1)) - 1 = M → MaskOk M → SetTable.sizeAbove (SetTable.grown (L.length + 1)) ≤ 128 → (L.length + 1) * 5 < M * 3 → wpAny (model P w) A (setRelay a (SetTable.grown (es.size + 1))) (fun _ s' => wpAny (model P w) A (pure true) Q E s') E { s with heap := s.heap.update a (Obj.putSet (SetTable.insertAt es n (hT P w k, Value.ref x)) t2) } := fun M c1 c2 c3 c4 => by
          rw [el]
          refine TupG.grow (s := { s with heap := s.heap.update a (Obj.putSet (SetTable.insertAt es n (hT P w k, Value.ref x)) t2) }) g1 e1 sz2 T2.dm (by rw [l1]; show _ ≤ t2.mask; rw [m2]; rcases two with ⟨e, e'⟩ | ⟨e, e'⟩ <;> omega) n1 tup1 led1 (by rw [l1]; exact few) c1 c2 c3 (by rw [l1]; exact c4) fun h2 C2 L2 sb2 g2 G2 pm2 => wpAny_pure (done true h2 C2 L2 (sb.trans sb2) g2 G2 (pm2.trans pm))
        have step : wpAny (model P w) A (setRelay a (SetTable.grown (es.size + 1))) (fun _ s' => wpAny (model P w) A (pure true) Q E s') E { s with heap := s.heap.update a (Obj.putSet (SetTable.insertAt es n (hT P w k, Value.ref x)) t2) } := by
          rcases two with ⟨_, e⟩ | ⟨_, e⟩
          · exact go 31 (by rw [e, size_20]) (.inr (.inl rfl)) (by rw [e, size_20]; decide) (by omega)
          · exact go 127 (by rw [e, size_76]) (.inr (.inr rfl)) (by rw [e, size_76]; decide) (by omega)
        first
          | exact wp_if_pos (by simp [full]) (wpAny_bind step)
          | exact wpAny_bind (wp_if_pos (by simp [full]) step)
      · have small : (L.length + 1) * 5 < t2.mask * 3 := by
          have h := full
          unfold SetTable.tooFull at h
          rw [decide_eq_true_eq, fl] at h
          omega
        have G1 : TupG P w (s.heap.update a (Obj.putSet (SetTable.insertAt es n (hT P w k, Value.ref x)) t2)) (SetTable.insertAt es n (hT P w k, Value.ref x), ep + 1, t2) (L.take n ++ (x, k) :: L.drop n) := ⟨e1, T2, n1, tup1, led1, by rw [l1]; exact small, by rw [l1]; exact few⟩
        first
          | exact wp_if_neg (by simp [full]) (wpAny_pure (done true _ _ _ sb g1 G1 pm))
          | exact wpAny_bind (wp_if_neg (by simp [full]) (wpAny_pure (wpAny_pure (done true _ _ _ sb g1 G1 pm))))
    by_cases plain : t1.plain = true
    · first
        | refine wp_if_pos plain (wpAny_bind (byVal hx fun b => ?_))
        | refine wpAny_bind (wp_if_pos plain (byVal hx fun b => ?_))
      cases b with
      | true => exact rest t1 rfl rfl rfl rfl
      | false => exact rest { t1 with plain := false } rfl rfl rfl rfl
    · first
        | exact wp_if_neg plain (rest t1 rfl rfl rfl rfl)
        | exact wpAny_bind (wp_if_neg plain (wpAny_pure (rest t1 rfl rfl rfl rfl)))
end
end DL

set_option Elab.async false
set_option linter.all false
set_option maxRecDepth 100000
set_option maxHeartbeats 4000000
set_option autoImplicit true
namespace DL
open PySem PySem.Spec PyProof.Rows L2 PySem.Froz
section
variable {P : Program} {w : World} {A : Around} {E : Value → Shared → Prop} {s : Shared}
theorem TK.old {h h' : Heap} {k : List Str} {b : Addr} (x : TK P w h k b) (keep : ∀ o, h.get? b = some o → h'.get? b = some o) : TK P w h' k b := by
  obtain ⟨o, its, n, g, r⟩ := x
  exact ⟨o, its, n, keep o g, r⟩
theorem TupG.old {h h' : Heap} {C : SD} {L : List (Addr × List Str)} (G : TupG P w h C L) (tup : ∀ p ∈ L, TK P w h' p.2 p.1) : TupG P w h' C L := ⟨G.rows, G.tab, G.nd, tup, G.led, G.room, G.few⟩
theorem set_upd_tups {I : Addr} {fp wr : List Addr} {G : Array GenState → Array GenState → Prop} {n : Nat} {Pv : Nat → Value → Prop} {St : Nat → Shared → Prop} {R : Result → Shared → Prop} (W : WalksS P w A.in1 I fp wr G n Pv St) (S : Addr) (hSf : S ∉ fp) (ks : List (Addr × List Str)) (hn : n = ks.length) (hb : ks.length + 1 < 64)
    (hu : A.in1.units < cLine) (away : ∀ p ∈ ks, p.1 ∉ S :: wr) (hval : ∀ i v, Pv i v → ∃ p, ks[i]? = some p ∧ v = .ref p.1) :
    ∀ (k i : Nat) (s : Shared), n - i = k → i ≤ n → St i s → (∀ p ∈ ks, TK P w s.heap p.2 p.1) → (∃ C L, s.heap.get? S = some (sObj "set" C) ∧ TupG P w s.heap C L ∧ (∀ j, j ∈ L.map Prod.snd ↔ j ∈ (ks.take i).map Prod.snd) ∧ L.length ≤ i ∧ ∀ p ∈ L, p ∈ ks) →
      (∀ s' C L, Moved (S :: wr) G s s' → s'.heap.get? S = some (sObj "set" C) → TupG P w s'.heap C L → (∀ j, j ∈ L.map Prod.snd ↔ j ∈ ks.map Prod.snd) → (∀ p ∈ L, p ∈ ks) → R (.ok (.ret .none)) s') →
      codeAny (model P w) A (.builtin "set.update.loop" ⟨[.ref S, .ref I], []⟩) R s := by
  have nW : S ∉ wr := fun z => hSf (W.sub _ z)
  have up : ∀ b ∈ wr, b ∈ S :: wr := fun b z => List.mem_cons_of_mem _ z
  have notW : ∀ p ∈ ks, p.1 ∉ wr := fun p hp z => away p hp (up _ z)
  intro k
  induction k with
  | zero =>
    intro i s hk hi hst hks ⟨C, L, hC, hG, hm, hle, hsub⟩ hR
    obtain rfl : i = n := by omega
    refine codeAny_builtin (PyProof.Rows.F.entry_set_update_loop) (by
      rw [Around.under_plainId (PyProof.Rows.F.plain_set_update_loop) _]
      refine wpAny_bind (m := pyNext (.ref I)) (W.done s _ _ hst fun s' hv => wpAny_pure (hR s' C L (hv.mono up) (hv.heap S _ nW hC) (hG.old fun p hp => (hG.tup p hp).old fun o e => hv.heap _ _ (notW p (hsub p hp)) e) (fun j => ?_) hsub))
      rw [hm, List.take_of_length_le (show ks.length ≤ i by omega)])
  | succ k ih =>
    intro i s hk hi hst hks ⟨C, L, hC, hG, hm, hle, hsub⟩ hR
    have hlt : i < n := by omega
    refine codeAny_builtin (PyProof.Rows.F.entry_set_update_loop) (by
      rw [Around.under_plainId (PyProof.Rows.F.plain_set_update_loop) _]
      refine wpAny_bind (m := pyNext (.ref I)) (W.item i s _ _ hlt hst fun v s' hP hst' hv => ?_)
      obtain ⟨q, hq, rfl⟩ := hval i v hP
      have qm := List.mem_of_getElem? hq
      have ks' : ∀ p ∈ ks, TK P w s'.heap p.2 p.1 := fun p hp => (hks p hp).old fun o e => hv.heap _ _ (notW p hp) e
      have G' : TupG P w s'.heap C L := hG.old fun p hp => ks' p (hsub p hp)
      refine wpAny_bind (m := holding [Value.ref q.1] (setAdd S (.ref q.1))) (wpAny_holding ?_)
      unfold setAdd
      refine wpAny_holding (wpAny_bind (wpAny_pyHash_tuple hu (ks' q qm) ?_))
      refine TupG.put (s := { s' with toks := s'.toks + (q.2.length + 1) }) G' (hv.heap S _ nW hC) (ks' q qm) hu (by omega) fun b h' C' L' sb hC' hG' hm' hle' hsub' => ?_
      have sub2 : ∀ p ∈ L', p ∈ ks := fun p hp => (hsub' p hp).elim (fun e => e ▸ qm) (hsub p)
      refine wpAny_pure ⟨plainId_quiet (PyProof.Rows.F.plain_set_update_loop) _, ih (i + 1) _ (by omega) hlt (W.frame _ s' _ _ hst' (by show s'.toks ≤ s'.toks + _; omega) fun b hb o e => ?_) (fun p hp => (ks' p hp).old fun o e => ?_) ⟨C', L', hC', hG', fun j => ?_, by omega, sub2⟩ fun s2 C2 L2 hv2 hC2 hG2 hm2 hs2 => ?_⟩
      · rw [sb.2 b (fun z : b = S => hSf (z ▸ hb))]
        exact e
      · rw [sb.2 p.1 fun z => away p hp (z ▸ List.mem_cons_self)]
        exact e
      · rw [hm', hm, List.take_add_one, hq]
        simp [or_comm]
      · refine hR s2 C2 L2 (Moved.trans W.gtrans ((hv.mono up).then_heap (by show s'.toks ≤ s'.toks + _; omega) fun b o hb e => ?_) hv2) hC2 hG2 hm2 hs2
        rw [sb.2 b (fun z : b = S => hb (z ▸ List.mem_cons_self))]
        exact e)
theorem TupG.fresh {h : Heap} (w : World) : TupG P w h (#[], 0, .fresh 0 0 (!w.params.followText "set-order")) [] where
  rows := rfl
  tab := ⟨by simp [SetTable.fresh, Ris], rfl, rfl, .inl rfl, by simp [SetTable.fresh], fun i h j hi => by simp at hi⟩
  nd := List.nodup_nil
  tup := fun p hp => by cases hp
  led := (TxG.fresh (P := P) w).led
  room := by simp [SetTable.fresh]
  few := by simp
theorem call_set_tups {l : Addr} {items : Array Value} (ks : List (Addr × List Str)) {Q : Value → Shared → Prop} (hh : A.handled = none) (hl : s.heap.IsList l items) (hi : ∀ (i : Nat) v, items[i]? = some v → ∃ p, ks[i]? = some p ∧ v = .ref p.1) (hz : items.size = ks.length) (hb : ks.length + 1 < 64) (hu : A.units + 64 < cLine) (hks : ∀ p ∈ ks, TK P w s.heap p.2 p.1)
    (h : ∀ h' tk C u, h'.get? s.heap.objs.size = some (sObj "set" C) → TupG P w h' C u → (∀ j, j ∈ u.map Prod.snd ↔ j ∈ ks.map Prod.snd) → (∀ p ∈ u, p ∈ ks) → (∀ b o, s.heap.get? b = some o → h'.get? b = some o) → Q (.ref s.heap.objs.size) { s with heap := h', toks := tk }) :
    wpAny (model P w) A (call (.type "set") [.ref l]) Q E s := by
  obtain ⟨m1, m2, m3⟩ := F.called_set.mro
  have c1 := F.called_set.made
  have c2 := F.called_set.sub
  have c3 := F.called_set.notType
  have c4 := F.called_set.canCreate
  have c5 := F.typeCall_set_1 (.ref l)
  refine wpAny_call (codeAny_of_tree (id ?_))
  show wpAny _ _ (callAny (.type "set") _) _ _ s
  refine wpAny_pure ⟨Code.quiet_builtin _ (by decide +kernel), codeAny_builtin F.entry_type_call (by
    rw [Around.under_plain (weight_type_call_type "set" [.ref l] []) rfl]
    repeat (any_goals (first | assumption | wp_step))
    refine codeAny_mono (code_set_led1 (.ref l) (E := E) (Q₁ := fun x s₁ => x = .ref s.heap.objs.size ∧ s₁ = { s with heap := s.heap.push (set0 w) }) ⟨rfl, rfl⟩) fun r s₁ hr => ?_
    cases r with
    | error e => exact hr
    | ok fl =>
      cases fl with
      | ret x =>
        obtain ⟨rfl, rfl⟩ := hr
        have g0 : (s.heap.push (set0 w)).get? s.heap.objs.size = some (set0 w) := Heap.get?_push_size _ rfl
        have ty : Shared.TypeIs { s with heap := s.heap.push (set0 w) } (.ref s.heap.objs.size) "set" := ⟨_, g0, rfl⟩
        have i1 := F.called_set.init.lookup
        have i2 := F.called_set.init.bind (.ref s.heap.objs.size)
        repeat (any_goals (first | assumption | wp_step))
        refine codeAny_mono (codeAny_call_builtin (R := wants (fun r s₂ => r = .none ∧ ∃ h' tk C u, s₂ = { s with heap := h', toks := tk } ∧ h'.get? s.heap.objs.size = some (sObj "set" C) ∧ TupG P w h' C u ∧ (∀ j, j ∈ u.map Prod.snd ↔ j ∈ ks.map Prod.snd) ∧ (∀ p ∈ u, p ∈ ks) ∧ (∀ b o, s.heap.get? b = some o → h'.get? b = some o)) E) F.called_set.init.plain F.entry_set_init (check_set_init_1 ty (by
          obtain ⟨o, g1, o1, n1, o2⟩ := hl
          obtain ⟨oc, od, oda, os⟩ := o
          simp only at o1 o2
          subst o1; subst o2
          have g2 : (s.heap.push (set0 w)).get? l = some { cls := .type "list", dict := od, data := .seq items n1, slots := os } := Heap.get?_push_of_some _ g1
          have s1 := F.sub_list_set
          have s2 := F.sub_list_frozenset
          have s3 : (Value.type "list" == Value.type "dict") = false := by decide
          have g3 : (s.heap.push (set0 w)).IsList l items := ⟨_, g2, rfl, n1, rfl⟩
          unfold Builtin.«set.__init__» noKeywords Builtin.Frozenset.updateFrom
          generalize ePI : pyIter = PI
          wp_walk
          subst ePI
          have z1 : l < s.heap.objs.size := Heap.lt_size g1
          have z2 : (s.heap.push (set0 w)).objs.size = s.heap.objs.size + 1 := Heap.size_push ..
          refine wpAny_pyIter_list g3 (wpAny_bind (wpAny_runValue ?_))
          have lt0 : ∀ p ∈ ks, p.1 < s.heap.objs.size := fun p hp => by
            obtain ⟨o, its, n, g, _⟩ := hks p hp
            exact Heap.lt_size g
          refine set_upd_tups ((Walks.list (show A.in1.in1.in1.handled = none by simp [hh]) _ l (by rw [z2]; exact Nat.ne_of_lt (Nat.lt_succ_of_lt z1)) items).toS) s.heap.objs.size (by rw [z2]; simp only [List.mem_cons, List.not_mem_nil, or_false, not_or]; exact ⟨Nat.ne_of_lt (Nat.lt_succ_self _), Nat.ne_of_gt z1⟩) ks hz hb ?_ (fun p hp => ?_) hi (items.size - 0) 0 _ (by omega) (Nat.zero_le _) ⟨⟨_, Heap.get?_push_size _ rfl, rfl, rfl⟩, (g3.push _)⟩ (fun p hp => (hks p hp).old fun o e => Heap.get?_push_of_some _ (Heap.get?_push_of_some _ e)) ⟨_, [], Heap.get?_push_of_some _ g0, TupG.fresh w, fun j => by simp, Nat.le_refl _, fun p hp => by cases hp⟩ ?_
          · show A.units + 1 + 1 + 1 < cLine
            omega
          · rw [z2]
            simp only [List.mem_cons, List.not_mem_nil, or_false, not_or]
            exact ⟨Nat.ne_of_lt (lt0 p hp), Nat.ne_of_lt (Nat.lt_succ_of_lt (lt0 p hp))⟩
          intro s' C u hv hC hG hm hle
          obtain ⟨h', v1, v2, tk', v3⟩ := s'
          obtain rfl : v1 = s.gens := hv.gens
          obtain rfl : v2 = s.drawn := hv.drawn
          obtain rfl : v3 = s.os := hv.os
          show wpAny _ _ _ _ _ _
          refine wpAny_pure (?_ : wpAny _ _ (ret Value.none) _ _ _)
          refine wpAny_pure (⟨rfl, h', tk', C, u, rfl, hC, hG, hm, hle, fun b o e => ?_⟩)
          have hb0 := Heap.lt_size e
          refine hv.heap b o ?_ (Heap.get?_push_of_some _ (Heap.get?_push_of_some _ e))
          rw [z2]
          simp only [List.mem_cons, List.not_mem_nil, or_false, not_or]
          exact ⟨Nat.ne_of_lt hb0, Nat.ne_of_lt (Nat.lt_succ_of_lt hb0)⟩))) fun r₂ s₂ hr₂ => ?_
        cases r₂ with
        | error e => exact hr₂
        | ok fl₂ =>
          cases fl₂ with
          | ret r =>
            obtain ⟨rfl, h', tk, C, u, rfl, q1, q2, q3, q4, q5⟩ := hr₂
            repeat (any_goals (first | assumption | wp_step))
            exact h _ _ C u q1 q2 q3 q4 q5
          | _ => exact hr₂.elim
      | _ => exact hr.elim)⟩
end
end DL

set_option Elab.async false
set_option linter.all false
set_option maxRecDepth 100000
set_option maxHeartbeats 4000000
set_option autoImplicit true
namespace DL
open PySem PySem.Spec PyProof.Rows L2 PySem.Froz
def tD (k : List Str) : D := .tuple (k.map PyData.str)
theorem perm_map_inv {α β : Type} {f : α → β} {out l : List β} (h : out.Perm l) : ∀ L : List α, l = L.map f → ∃ L' : List α, L'.Perm L ∧ out = L'.map f := by
  induction h with
  | nil => exact fun L e => ⟨[], by rw [List.map_eq_nil_iff.mp e.symm], rfl⟩
  | cons x _ ih =>
    intro L e
    cases L with
    | nil => cases e
    | cons a L =>
      rw [List.map_cons] at e
      injection e with e1 e2
      obtain ⟨L', h1, h2⟩ := ih L e2
      exact ⟨a :: L', h1.cons a, by rw [h2, e1]; rfl⟩
  | swap x y l =>
    intro L e
    match L, e with
    | a :: b :: L, e =>
      rw [List.map_cons, List.map_cons] at e
      injection e with e1 e2
      injection e2 with e2 e3
      exact ⟨b :: a :: L, List.Perm.swap a b L, by rw [e1, e2, e3]; rfl⟩
  | trans _ _ ih1 ih2 =>
    intro L e
    obtain ⟨L1, h1, h2⟩ := ih2 L e
    obtain ⟨L2, h3, h4⟩ := ih1 L1 h2
    exact ⟨L2, h3.trans h1, h4⟩
section
variable {X : Cx} {pins : List (Addr × Obj)} {σ : L2.St} {H M : Hp} {s : Shared}
theorem items_of_strs {P : Program} {w : World} : ∀ {k : List Str} {us : List Value}, Vals (k.map V.str) us → ItemsAre (strKind P w) k us
  | [], _, .nil => .nil
  | z :: k, _, .cons ⟨t, e⟩ r => .cons (by rw [e]; exact is_str z t) (items_of_strs r)
theorem inv_tk (I : L2.Inv X pins σ H s) {b : Addr} {k : List Str} (h : SqT X.K H b (k.map V.str)) : TK X.prog X.w s.heap k b := by
  obtain ⟨its, r, hl, _⟩ := I.tuple h
  obtain ⟨o, ho, hc, n, hd⟩ := hl
  exact ⟨o, _, n, ho, hc, hd, items_of_strs (by simpa using r)⟩
/-- a list of tuples of texts: their places -/
theorem tups_at {K : PySem.W.Frag} {M : Hp} : ∀ {rows : List (List Str)} {xs : List V}, DpAll K M xs (rows.map tD) → ∃ ks : List (Addr × List Str), ks.map Prod.snd = rows ∧ xs = ks.map (fun p => V.ref p.1) ∧ ∀ p ∈ ks, SqT K M p.1 (p.2.map V.str)
  | [], _, .nil => ⟨[], rfl, rfl, fun p hp => by cases hp⟩
  | r :: rows, _, .cons h t => by
    obtain ⟨a, us, rfl, h1, h2⟩ := dp_tuple_inv h
    rw [dpAll_txs_inv h2] at h1
    obtain ⟨ks, e1, e2, h3⟩ := tups_at t
    refine ⟨(a, r) :: ks, by rw [List.map_cons, e1], by rw [e2]; rfl, fun p hp => ?_⟩
    rcases List.mem_cons.mp hp with rfl | hp
    · exact h1
    · exact h3 p hp
theorem vals_refs : ∀ (L : List (Addr × List Str)), Vals (L.map fun p => V.ref p.1) (L.map fun p => Value.ref p.1)
  | [] => .nil
  | p :: L => .cons rfl (vals_refs L)
theorem vals_ref_at : ∀ {L : List (Addr × List Str)} {its : List Value}, Vals (L.map fun p => V.ref p.1) its → ∀ (i : Nat) v, its[i]? = some v → ∃ p, L[i]? = some p ∧ v = .ref p.1
  | [], _, .nil, i, v, h => by simp at h
  | p :: L, _, .cons e r, 0, v, h => by
    simp at h
    exact ⟨p, rfl, by rw [← h]; exact e⟩
  | p :: L, _, .cons _ r, i + 1, v, h => vals_ref_at r i v (by simpa using h)
theorem dpAll_tups {K : PySem.W.Frag} {M : Hp} : ∀ {L : List (Addr × List Str)}, (∀ p ∈ L, SqT K M p.1 (p.2.map V.str)) → DpAll K M (L.map fun p => V.ref p.1) ((L.map Prod.snd).map tD)
  | [], _ => .nil
  | p :: L, h => .cons (.tup (h p (by simp)) (dpAll_txs _)) (dpAll_tups fun q hq => h q (by simp [hq]))
theorem depth_tD (k : List Str) : (tD k).depth ≤ 2 := by
  have : ∀ l : List Str, PyData.depthAll (l.map PyData.str) ≤ 1 := fun l => by
    induction l with
    | nil => simp [PyData.depthAll]
    | cons a l ih =>
      simp only [List.map_cons, PyData.depthAll, PyData.depth]
      omega
  unfold tD
  simp only [PyData.depth]
  have := this k
  omega
def rSU (K : PySem.W.Frag) : List V → Hp → VK → Prop := fun vs H Q => ∃ M x, ∃ rows : List (List Str), vs = [x] ∧ Same M H ∧ Dp K M x (.list (rows.map tD)) ∧ rows.length + 1 < 64 ∧ (∀ l : List (List Str), (∀ r ∈ l, r ∈ rows) → PySem.W.AllAlike (l.map tD) ∧ PySem.W.Sortable (l.map tD)) ∧
  ∀ (l : List (List Str)) p ys, l.Nodup → (∀ r, r ∈ l ↔ r ∈ rows) → H p = none → DpAll K M ys (sortD (l.map tD)) → Q (.ref p) (upd H p (.lst ys))
def tSU (K : PySem.W.Frag) (ta : TE) : TE := fun σ H Q => ta σ H fun x H1 => rSU K [x] H1 Q
theorem sorted_set_tup {s1 : Shared} {C : SD} {u ks : List (Addr × List Str)} {a : Addr} {Q : VK} {E : Value → Shared → Prop} (I : L2.Inv X pins σ H s) (hc : X.calm = true) (hu : X.A.units + 100 < cLine) (sm : Same M H)
    (ha : s1.heap.get? a = some (sObj "set" C)) (G : TupG X.prog X.w s1.heap C u) (hm : ∀ j, j ∈ u.map Prod.snd ↔ j ∈ ks.map Prod.snd) (sub : ∀ p ∈ u, p ∈ ks) (hks : ∀ p ∈ ks, SqT X.K M p.1 (p.2.map V.str)) (k1 : ∀ b o, s.heap.get? b = some o → s1.heap.get? b = some o) (hz : s.heap.objs.size ≤ s1.heap.objs.size) (hg : s1.gens = s.gens) (hos : s1.os = s.os)
    (ord : ∀ l : List (List Str), (∀ r ∈ l, r ∈ ks.map Prod.snd) → PySem.W.AllAlike (l.map tD) ∧ PySem.W.Sortable (l.map tD))
    (q : ∀ (l : List (List Str)) p ys, l.Nodup → (∀ r, r ∈ l ↔ r ∈ ks.map Prod.snd) → H p = none → DpAll X.K M ys (sortD (l.map tD)) → Q (.ref p) (upd H p (.lst ys))) :
    wpAny (model X.prog X.w) X.A (call (.builtin "sorted") [.ref a]) (fun v s' => ∃ x H', L2.Inv X pins σ H' s' ∧ RelV x v ∧ Q x H') E s1 := by
  obtain ⟨es, ep, t⟩ := C
  have few := G.few
  have hsz : es.size = u.length := rwT_len G.rows
  have line : (128 : Nat) ≤ sizeLine := by rw [sizeLine_eq]; omega
  refine sorted_coll (s := s1) (enc := Prod.snd) (R := fun (v : Value) (b : V × D) => RelV b.1 v ∧ Dp X.K M b.1 b.2) fun Q' E' hq => ?_
  refine collect_set (by simpa using I.ok.hd hc) ⟨_, ha, rfl, rfl⟩ G.fit (show es.size < scanBound by unfold scanBound; omega) G.tab.ris G.led fun s2 out k2 hz2 hg2 ho2 hp => ?_
  rw [show es.toList = rwT X.prog X.w u from G.rows] at hp
  unfold rwT at hp
  rw [List.map_map] at hp
  obtain ⟨L', pm, rfl⟩ := perm_map_inv hp u rfl
  have insub : ∀ p ∈ L', SqT X.K M p.1 (p.2.map V.str) := fun p hp => hks p (sub p (pm.mem_iff.mp hp))
  have ev : Vals (L'.map fun p => V.ref p.1) (L'.map ((fun x : Int × Value => x.2) ∘ fun p => (hT X.prog X.w p.2, Value.ref p.1))) := vals_refs L'
  have ed := dpAll_tups insub
  have hlen : (L'.map fun p => V.ref p.1).length = ((L'.map Prod.snd).map tD).length := by simp
  have ez : (((L'.map fun p => V.ref p.1).zip ((L'.map Prod.snd).map tD)).map Prod.snd) = (L'.map Prod.snd).map tD := zip_snd hlen
  have ol : L'.length = u.length := pm.length_eq
  have ord2 := ord (L'.map Prod.snd) fun r hr => (hm r).mp ((pm.map Prod.snd).mem_iff.mp hr)
  refine hq _ s2 ((L'.map fun p => V.ref p.1).zip ((L'.map Prod.snd).map tD)) k2 hz2 hg2 ho2 (each_zip ed ev) ?_ (by rw [ez]; exact ord2.1) (by rw [ez]; exact ord2.2) ?_ (fun b hb => ?_) fun p o2 c s3 k hp3 g o hg3 hl3 he => ?_
  · exact (each_reads (X := X) I (dpAll_same sm ed) ev).mono fun _ _ ⟨as, r⟩ => ⟨as, PyProof.Rows.Reads.keeps k1 r⟩
  · simp only [List.length_zip, List.length_map, Nat.min_self]
    omega
  · have : b.2 ∈ (L'.map Prod.snd).map tD := by rw [← ez]; exact List.mem_map.mpr ⟨b, hb, rfl⟩
    obtain ⟨z, _, e⟩ := List.mem_map.mp this
    rw [← e]
    have := depth_tD z
    omega
  · obtain ⟨e1, e2⟩ := each_vals he
    rw [sort_zip hlen] at e2
    have hsp : s.heap.objs.size ≤ p := Nat.le_trans hz hp3
    refine ⟨.ref p, _, inv_new I (fun b o e => k b o (k1 b o e)) hsp (g.trans hg) (o.trans hos) ?_ e1 hg3, rfl, q (L'.map Prod.snd) p _ ((pm.map Prod.snd).nodup_iff.mpr G.nd) (fun r => by rw [(pm.map Prod.snd).mem_iff, hm]) (I.hok.fresh hsp) e2⟩
    rw [e1.length, hl3]
    simp only [List.length_zip, List.length_map, Nat.min_self]
    omega
theorem pe_sortedSetU {a : Expr} {ta : TE} {p p2 q pos : Pos} (hc : X.calm = true) (hg : Gl X "sorted") (hm : X.mg "sorted" = none) (hg2 : Gl X "set") (hm2 : X.mg "set" = none) (hu : X.A.units + 100 < cLine) (ha : PE X a ta)
    (na : starEach [a] X.env = (false, eval a X.env) :: starEach [] X.env := by rfl) : PE X (.Call (.Name "sorted" p) [.Call (.Name "set" p2) [a] [] q] [] pos) (tSU X.K ta) := by
  refine ⟨fun pins s σ H Q I h => Call_ (ld_blt I hg hm (show bootBuiltins "sorted" = some (.builtin "sorted") by decide +kernel) (PyProof.Rows.callWith_builtin1 (PyProof.Rows.args_cons (Call_ (ld_blt I hg2 hm2 PyProof.Rows.boot_set ?_)) rfl) rfl rfl))⟩
  refine PyProof.Rows.callWith_type1 (PyProof.Rows.args_cons (thn (ha.run pins s σ H _ I h) fun v s1 ⟨x, H1, I1, r1, ⟨M, x', rows, e1, sm, hx, hb, ord, q1⟩⟩ => PyProof.Rows.args_nil ?_) na) na rfl
  cases e1
  obtain ⟨a0, xs, rfl, hs, da⟩ := dp_list_inv hx
  obtain ⟨ks, ek, rfl, hks⟩ := tups_at da
  cases r1
  obtain ⟨its, r, pl, hz⟩ := I1.list (sm.seq hs)
  have hl : its.toArray.size = ks.length := by rw [List.size_toArray, ← r.length, List.length_map]
  have kl : ks.length = rows.length := by rw [← ek, List.length_map]
  refine call_set_tups ks (I1.ok.hd hc) pl.isList (fun i v hv => vals_ref_at r i v (by simpa using hv)) hl (by omega) (by omega) (fun p hp => inv_tk I1 (Same.sqT sm (hks p hp))) fun h' tk C u g0 G hmm hsub kk => PyProof.Rows.args_nil ?_
  exact sorted_set_tup (s := s1) (s1 := { s1 with heap := h', toks := tk }) I1 hc hu sm g0 G hmm hsub hks kk (Nat.le_of_lt (Heap.lt_size g0)) rfl rfl (by rw [ek]; exact ord) (by rw [ek]; exact q1)
def dSU : DRC := fun xs Γ R => ∃ rows : List (List Str), xs = [.d (.list (rows.map tD))] ∧ rows.length ≤ 60 ∧ (∀ l : List (List Str), (∀ r ∈ l, r ∈ rows) → PySem.W.AllAlike (l.map tD) ∧ PySem.W.Sortable (l.map tD)) ∧ ∀ l : List (List Str), l.Nodup → (∀ r, r ∈ l ↔ r ∈ rows) → R (.d (.list (sortD (l.map tD)))) Γ
theorem cs_SU {K : PySem.W.Frag} : CSim K (rSU K) dSU := by
  intro B M Γ σ H H0 Q R xs vs k r ⟨rows, e, hl, ord, h1⟩ q
  subst e
  cases r with
  | cons r1 r2 =>
    cases r2
    exact ⟨H0, _, rows, rfl, k.sub, r1, by omega, ord, fun l p ys hn hm hp dy => by
      obtain ⟨k2, s2⟩ := k.laid (o := .lst ys) hp
      exact q _ _ Γ _ _ (h1 l hn hm) s2 k2 (Dp.lst (.inl (.inl upd_same)) (dpAll_same s2 dy))⟩
def dSUe (δ : DE) : DE := fun Γ R => δ Γ fun x Γ1 => dSU [x] Γ1 R
theorem sim_SU {K : PySem.W.Frag} {t : TE} {δ : DE} (h : Sim K t δ) : Sim K (tSU K t) (dSUe δ) := fun B M Γ σ H H0 Q R k h1 q =>
  h B M Γ σ H H0 _ _ k h1 fun v x Γ1 H1 H01 h2 s1 k1 r1 => cs_SU B M Γ1 σ H1 H01 Q R [x] [v] k1 (.cons r1 .nil) h2 fun v x Γ2 H2 H02 h3 s2 k2 r2 => q v x Γ2 H2 H02 h3 (s1.trans s2) k2 r2
theorem pd_sortedSetU {a : Expr} {δ : DE} {p p2 q pos : Pos} (hc : X.calm = true) (hg : Gl X "sorted") (hm : X.mg "sorted" = none) (hg2 : Gl X "set") (hm2 : X.mg "set" = none) (hu : X.A.units + 100 < cLine) (ha : PD X a δ)
    (na : starEach [a] X.env = (false, eval a X.env) :: starEach [] X.env := by rfl) : PD X (.Call (.Name "sorted" p) [.Call (.Name "set" p2) [a] [] q] [] pos) (dSUe δ) := match ha with
  | ⟨_, h, s⟩ => ⟨_, pe_sortedSetU hc hg hm hg2 hm2 hu h na, sim_SU s⟩
theorem u_SUe {δ : DE} {Γ : DCtx} {R : DK} : dSUe δ Γ R = δ Γ fun x Γ1 => dSU [x] Γ1 R := rfl
end
end DL

set_option Elab.async false
set_option linter.all false
set_option maxRecDepth 100000
set_option maxHeartbeats 4000000
set_option autoImplicit true
namespace DL
open PySem PySem.Spec PyProof.Rows L2
/-! ### exceptions that are kept behind their suite -/
theorem kept_ok {P : Program} {w : World} {H : Hp} {h : Heap} {a : Addr} {cls : Value} {oe : Obj} {vs : Array Value} (e : h.get? a = some oe) (z : Zc cls none oe) (d : oe.data = .fields vs) : ObjOk P w H h a (Kept cls a) :=
  ⟨⟨oe, vs, e, z, d⟩, ⟨oe, e⟩, fun h1 h2 ⟨o, v, g, z, d⟩ k => ⟨o, v, k o g, z, d⟩⟩
section
variable {X : Cx} {pins : List (Addr × Obj)} {σ : L2.St} {H : Hp} {s : Shared} {a : Addr} {cls : Value}
theorem kept_get (I : L2.Inv X pins σ H s) (h : H a = some (Kept cls a)) : ∃ (oe : Obj) (vs : Array Value), s.heap.get? a = some oe ∧ Zc cls none oe ∧ oe.data = .fields vs := (I.hok a _ h).1
theorem inv_note {oe : Obj} {vs : Array Value} (I : L2.Inv X pins σ H s) (hn : H a = none) (h0 : X.s_0.heap.get? a = none) (ho : s.heap.get? a = some oe) (z : Zc cls none oe) (d : oe.data = .fields vs) (nL : a ≠ X.env.locals) (np : ∀ p ∈ X.pn ++ pins, p.1 ≠ a) :
    L2.Inv X pins σ (upd H a (Kept cls a)) s := by
  have old : ∀ {b : Addr} {u : HO}, H b = some u → upd H a (Kept cls a) b = some u := fun {b u} e => by rw [upd_ne (fun z => by rw [z, hn] at e; cases e)]; exact e
  refine ⟨I.ok, I.os, I.bare, ?_, I.loc, I.cell, ?_, fun x c hc => ?_, fun p hp => ?_, HOk.laidN I.hok (fun _ _ q => q) hn (kept_ok ho z d), I.len⟩
  · have B := I.base
    exact ⟨B.keep, B.slot, fun b o q n x => by rw [upd_ne (fun z => by rw [z, h0] at q; cases q)]; exact B.free b o q n x, B.there, fun b xs q => old (B.tups b xs q), fun b o u q => old (B.frzs b o u q), fun b ps q => let ⟨m, e⟩ := B.tbls b ps q; ⟨m, old e⟩⟩
  · rw [upd_ne (Ne.symm nL)]; exact I.free
  · rw [upd_ne (fun z => ?_)]
    · exact I.freeC x c hc
    · obtain ⟨v, o, hv1, hv2⟩ := I.cell x c hc
      rw [z, ho] at hv1
      cases hv1
      rw [d] at hv2
      cases hv2
  · obtain ⟨p1, p2, p3⟩ := I.pin p hp
    exact ⟨p1, by rw [upd_ne (np p hp)]; exact p2, p3⟩
end
/-- what `except x as n` wishes, the exception being kept behind the suite -/
def wKeep (K : PySem.W.Frag) (c : Value) (i : Nat) (ts : Addr → Value → Option Addr → TS) (Wout : WX) (D : Ends) : WX := fun cls d σ H => ∃ b, PySem.W.exmOne K cls c = some b ∧
  (b = true → d = none ∧ ∀ a, H a = none → ts a cls d { nx := fun σ' H' => D.nx (σ'.set i none) (upd H' a (Kept cls a)), rt := fun _ _ => False, bk := fun _ _ => False, ct := fun _ _ => False } (σ.set i (some (.ref a))) H) ∧ (b = false → Wout cls d σ H)
section
variable {X : Cx} {x n : Str} {c : Value} {i : Nat} {body suite : List Stmt} {b₀ : Stmt} {np pos pos' : Pos} {tb : WX → TS} {ts : Addr → Value → Option Addr → TS} {Wout : WX}
theorem ps_try_keep (hs : X.stack = X.env :: X.outer) (hf : X.env.frame = some X.env.locals) (hex : X.ex = []) (hN : X.N.Nodup) (hi : X.N[i]? = some n) (hln : X.env.kindOf n = some .local) (hc : Names X x c) (tk : Takes X Wout)
    (hb : ∀ W pn xe, Takes (X.tr pn xe) W → PassesOwn (model X.prog X.w) X.A X.env xe → PSs (X.tr pn xe) body (tb W))
    (hsu : ∀ a oe cls d pn, Zc cls d oe → (∃ vs, oe.data = .fields vs) → PSs (X.suite a ((a, oe) :: pn)) (b₀ :: suite) (ts a cls d)) :
    PS X (.Try body [.ExceptHandler (some (.Name x np)) (some n) (b₀ :: suite) pos'] [] [] pos) (fun D σ H => tb (wKeep X.K c i ts Wout D) D σ H) := by
  refine ⟨fun pins s σ H D I h => wpAny_Try_except ?_⟩
  have ok := I.ok
  have frm : X.A.frames = some (X.env :: X.outer) := by rw [ok.frames, hs]
  have lcl : Loc X.env.scope n := .inl hln
  refine wpAny_mono ((hb (wKeep X.K c i ts Wout D) (X.pn ++ pins) (fun e s₁ => wpAny (model X.prog X.w) X.A (noteFrame e X.env) (fun _ s₂ => wpAny (model X.prog X.w) X.A (setFlight e none) (fun _ s₃ => wpAny (model X.prog X.w) X.A (handleBy e X.env [.ExceptHandler (some (.Name x np)) (some n) (b₀ :: suite) pos']) (SP X pins D) X.xe s₃) X.xe s₂) X.xe s₁) (fun u s1 air => ?_) PassesOwn.looking).run [] s σ H D (I.toTry _) h) (fun f s1 ended => ?_) (fun _ _ z => z)
  · obtain ⟨a, B, sI, pins1, σ1, H1, cls, d, rfl, J1, gr, up, sky, na, os, ag, b, eb, yes, no⟩ := air
    have J : L2.Inv X pins σ1 H1 sI := J1.ofTry ok
    have noB : B.get? a = none := by
      rcases sky with h | h | h
      · exact h.2.1
      · exact h.2.1
      · exact h.2.1
    rw [hs] at sky
    refine Sky.land Zc.steady frm hf sky fun h2 fl2 up2 => ?_
    obtain ⟨oe, vs, he, hz, hd⟩ := fl2.there
    have out : a ∉ frs (X.env :: X.outer) := fun hm => by
      obtain ⟨_, o', e', nf⟩ := fl2.2.2.1.mem hm
      rw [he] at e'
      cases e'
      exact nf _ hd
    have nL : a ≠ X.env.locals := fun z => out (List.mem_filterMap.mpr ⟨X.env, by simp, by rw [hf, z]⟩)
    have nF : a ∉ X.fs := fun hm => by
      obtain ⟨e, he', q⟩ := List.mem_filterMap.mp hm
      exact out (List.mem_filterMap.mpr ⟨e, by simp [he'], q⟩)
    have new0 : X.s_0.heap.get? a = none := by
      cases e : X.s_0.heap.get? a with
      | none => rfl
      | some o =>
        obtain ⟨o', e'⟩ := J.base.there a o e (by rw [hex]; simp)
        have := gr a o' e' (by rw [hs]; exact out)
        rw [noB] at this
        cases this
    have J2 : L2.Inv X pins σ1 H1 { s1 with heap := h2 } := J.landed gr fl2.1 (up.trans up2) os ag
    have S2 := J2.suite he hd na nL nF
    refine wpAny_handleBy_cons (codeAny_handlers_test ?_) (fun q => by cases q)
    have ask := PySem.W.exm_one (M := model X.prog X.w) J2.kIn (fun A Q E s k q => wpAny_typeOf_ref (k _ _ he) (by rw [hz.1]; exact q)) eb
    have named : ∀ {Q : Value → Shared → Prop} {E : Value → Shared → Prop}, Q c { s1 with heap := h2 } → wpAny (model X.prog X.w) (X.A.mark (some (.ref a))) (eval (.Name x np) X.env) Q E { s1 with heap := h2 } := fun {Q E} q => by
      obtain ⟨g1, g2, g3 | ⟨g3, g4, g5⟩⟩ := hc
      · exact ld_glob (X := X.suite a ((a, oe) :: (X.pn ++ pins))) S2 g1 g3 q g2
      · exact ld_blt (X := X.suite a ((a, oe) :: (X.pn ++ pins))) S2 g1 g3 g4 q g5 g2
    refine named (ask.here ?_)
    cases b with
    | true =>
      obtain ⟨rfl, yes⟩ := yes rfl
      refine codeAny_handlers_suite_as (HandSPX.lands_againZ fl2 fun h3 fl3 up3 => ?_)
      obtain ⟨oe3, vs3, he3, hz3, hd3⟩ := fl3.there
      have S3 := (J.landed (s' := { s1 with heap := h3 }) gr fl3.1 ((up.trans up2).trans up3) os ag).suite he3 hd3 na nL nF
      refine store_ok (X := X.suite a ((a, oe3) :: (X.pn ++ pins))) (v := .ref a) S3 hN hi lcl rfl (fun s4 S4 => ?_) (.inr hln)
      refine wpAny_mono ((hsu a oe3 cls none (X.pn ++ pins) hz3 ⟨_, hd3⟩).run [] s4 _ H1 _ S4 (yes a na)) (fun f s5 ended => ?_) (fun _ _ z => z.elim)
      cases f with
      | next =>
        obtain ⟨σ5, H5, S5, q5⟩ := ended
        have S6 : L2.Inv X ((a, oe3) :: pins) σ5 H5 s5 := ⟨ok, S5.os, S5.bare, S5.base, S5.loc, S5.cell, S5.free, S5.freeC, fun p hp => S5.pin p (by
          rcases List.mem_append.mp hp with h | h
          · exact List.mem_append_left _ (List.mem_cons_of_mem _ (List.mem_append_left _ h))
          · rcases List.mem_cons.mp h with h | h
            · exact List.mem_append_left _ (by rw [h]; exact List.mem_cons_self)
            · exact List.mem_append_left _ (List.mem_cons_of_mem _ (List.mem_append_right _ h))), S5.hok, S5.len⟩
        refine gone_ok S6 hN hi hln fun s7 J7 => ⟨_, _, ?_, q5⟩
        have pin := J7.pin (a, oe3) (by simp)
        have J8 : L2.Inv X pins (σ5.set i none) H5 s7 := ⟨J7.ok, J7.os, J7.bare, J7.base, J7.loc, J7.cell, J7.free, J7.freeC, fun p hp => J7.pin p (by
          rcases List.mem_append.mp hp with h | h
          · exact List.mem_append_left _ h
          · exact List.mem_append_right _ (List.mem_cons_of_mem _ h)), J7.hok, J7.len⟩
        refine inv_note J8 pin.2.1 new0 pin.1 hz3 hd3 nL fun p hp e => ?_
        have kept := gr p.1 p.2 (J.pin p hp).1 (by rw [hs, e]; exact out)
        rw [e, noB] at kept
        cases kept
      | brk => obtain ⟨_, _, _, q⟩ := ended; exact q.elim
      | cont => obtain ⟨_, _, _, q⟩ := ended; exact q.elim
      | ret u => obtain ⟨_, _, _, _, _, q⟩ := ended; exact q.elim
    | false =>
      show wpAny _ X.A (handleBy (.ref a) X.env []) _ _ _
      refine wpAny_handleBy_nil ?_
      obtain ⟨_, _, _, oe', vs', T, oT, ts', he', hz', hd', h1', _⟩ := id fl2
      have fin : wpAny (model X.prog X.w) X.A (setFlight (.ref a) X.env.frame) (fun _ s4 => wpAny (model X.prog X.w) X.A (throw (.ref a) : Sem Flow) (SP X pins D) X.xe s4) X.xe { s1 with heap := h2 } := by
        rw [hf]
        exact HandSPX.setFlight_upZ fl2 fun h4 hh4 up4 => wpAny_throw (tk _ _ ⟨a, B, sI, pins, σ1, H1, cls, d, rfl, J, gr, (up.trans up2).trans up4, .inr (.inr (by rw [hs]; exact hh4)), na, os, ag, no rfl⟩)
      unfold PySem.passOn
      refine wpAny_bind (wpAny_field he' hd' h1' ?_)
      rw [if_neg (show ¬ ((Value.ref T == Value.none) = true) by simp)]
      first
        | exact wpAny_bind (wpAny_pure (wpAny_bind fin))
        | exact wpAny_bind fin
  · cases f with
    | next => obtain ⟨σ', H', J', q⟩ := ended; exact wpAny_execs_nil ⟨σ', H', J'.ofTry ok, q⟩
    | brk => obtain ⟨σ', H', J', q⟩ := ended; exact ⟨σ', H', J'.ofTry ok, q⟩
    | cont => obtain ⟨σ', H', J', q⟩ := ended; exact ⟨σ', H', J'.ofTry ok, q⟩
    | ret u => obtain ⟨v, σ', H', J', r, q⟩ := ended; exact ⟨v, σ', H', J'.ofTry ok, r, q⟩
end
section
variable {X : Cx}
/-- isinstance(e, c), e kept -/
def rIsK (K : PySem.W.Frag) : List V → Hp → VK → Prop := fun xs H Q => ∃ (a D : Addr) (c : V) (cv : Value) (b : Bool), xs = [.ref a, c] ∧ H a = some (Kept (.ref D) a) ∧ ExcC K D ∧ (∀ u, RelV c u → u = cv) ∧ PySem.W.kitOne K (.ref D) cv = some b ∧ Q (.bl b) H
theorem call_isK : CallR X (.builtin "isinstance") (rIsK X.K) := by
  intro pins s σ H xs us Q I r h
  obtain ⟨a, D, c, cv, b, rfl, hk, C, hcv, e, q⟩ := h
  obtain ⟨oe, vs, g, z, d⟩ := kept_get I hk
  cases r with
  | cons rx rr =>
    cases rr with
    | cons rt rr =>
      cases rr
      cases rx
      cases hcv _ rt
      have J : PySem.W.InstAt s.heap a oe D none := by
        obtain ⟨oc, od, oda, osl⟩ := oe
        obtain ⟨h1, h2⟩ := z
        dsimp only at h1 h2 d
        subst h1 h2 d
        exact ⟨g, rfl, rfl, trivial⟩
      exact PySem.W.kia_one (PySem.W.handS_kitx_exc C.hg C.hk C.hs C.hd C.ha C.hn C.ht C.hm) I.kIn J e (fun z => nomatch z) fun tk => ⟨.bl b, H, I.kept (t' := tk) fun _ _ z => z, rfl, q⟩
end
end DL

set_option Elab.async false
set_option linter.all false
set_option maxRecDepth 100000
set_option maxHeartbeats 4000000
set_option autoImplicit true
namespace DL
open PySem PySem.Spec PyProof.Rows L2
/-! ### defs that may raise: promises with a second end -/
def AfterX (K : PySem.W.Frag) (H M : Hp) (E : XK) (C : Addr) : Prop := ∀ H' M', Same H H' → Same M M' → Same M' H' → (∀ a o, H a = some o → M a = none → M' a = none) → Clean K M' → E (.ref C) none H'
abbrev FX := List D → (D → Prop) → (Addr → Prop) → Prop
def spX (K : PySem.W.Frag) (n : Nat) (F : FX) : Sp := fun vs H Q E => ∃ M ds, Same M H ∧ Clean K M ∧ DpAll K M vs ds ∧ ds.length = n ∧ F ds (After K H M Q) (AfterX K H M E)
def MonoX (F : FX) : Prop := ∀ ds (P P' : D → Prop) (Z Z' : Addr → Prop), (∀ d, P d → P' d) → (∀ C, Z C → Z' C) → F ds P Z → F ds P' Z'
abbrev DEX := DCtx → DK → (Addr → DCtx → Prop) → Prop
abbrev DSX := (DCtx → Prop) → (D → DCtx → Prop) → (Addr → DCtx → Prop) → DCtx → Prop
def SimE (K : PySem.W.Frag) (W : WX) (t : TE) (δ : DEX) : Prop := ∀ (B M : Hp) (Γ : DCtx) (σ : L2.St) (H H0 : Hp) (Q : VK) (R : DK) (Z : Addr → DCtx → Prop), Kn K B M Γ σ H H0 → δ Γ R Z →
  (∀ v x Γ' H' H0', R x Γ' → Same H0 H0' → Kn K B M Γ' σ H' H0' → Rx K σ H0' v x → Q v H') → (∀ C Γ' H' H0', Z C Γ' → Same H0 H0' → Kn K B M Γ' σ H' H0' → W (.ref C) none σ H') → t σ H Q
def SimX (K : PySem.W.Frag) (W : WX) (t : TS) (δ : DSX) : Prop := ∀ (B M : Hp) (Γ : DCtx) (σ : L2.St) (H H0 : Hp) (E : Ends) (nx : DCtx → Prop) (rt : D → DCtx → Prop) (ex : Addr → DCtx → Prop), Kn K B M Γ σ H H0 → δ nx rt ex Γ →
  (∀ Γ' σ' H' H0', nx Γ' → Same H0 H0' → Kn K B M Γ' σ' H' H0' → E.nx σ' H') → (∀ v d Γ' σ' H' H0', rt d Γ' → Same H0 H0' → Kn K B M Γ' σ' H' H0' → Dp K H0' v d → E.rt v H') →
  (∀ C Γ' σ' H' H0', ex C Γ' → Same H0 H0' → Kn K B M Γ' σ' H' H0' → W (.ref C) none σ' H') → t E σ H
def PDE (X : Cx) (W : WX) (e : Expr) (δ : DEX) : Prop := ∃ t, PE X e t ∧ SimE X.K W t δ
def PDX (X : Cx) (W : WX) (st : Stmt) (δ : DSX) : Prop := ∃ t, PS X st t ∧ SimX X.K W t δ
def PDXs (X : Cx) (W : WX) (sts : List Stmt) (δ : DSX) : Prop := ∃ t, PSs X sts t ∧ SimX X.K W t δ
section
variable {X : Cx} {W : WX} {a b c e : Expr} {pos p : Pos}
theorem pde_of {δ : DE} (h : PD X e δ) : PDE X W e (fun Γ R _ => δ Γ R) := match h with
  | ⟨t, h1, h2⟩ => ⟨t, h1, fun B M Γ σ H H0 Q R Z k h3 q _ => h2 B M Γ σ H H0 Q R k h3 q⟩
def eCall (n : Nat) (F : FX) (α : DA) : DEX := fun Γ R Z => α Γ fun xs Γ1 => ∃ ds, outs xs = some ds ∧ ds.length = n ∧ F ds (fun d => R (.d d) Γ1) (fun C => Z C Γ1)
theorem pde_call {n : Nat} {F : FX} {k : Nat} {f : Addr} {fd : FuncData} {ps : List Str} {x : Str} {es : List Expr} {α : DA} (hF : MonoX F) (tk : Takes X W) (G : FnOk X.prog X.w X.K X.mg X.base (L2.CX X.prog X.w) k f fd ps (spX X.K n F)) (hr : Room k X.A) (hg : Gl X x) (hm : X.mg x = some (.ref f)) (hk : PySem.W.keepIn X.K (.ref f) = true) (hb : Binds X.K fd ps [])
    (hdb : (x == ("__debug__" : Str)) = false := by decide) (he : starEach (e :: es) X.env = (false, eval e X.env) :: starEach es X.env := by rfl) (hpl : (backTo pos (starEach es X.env)).any (·.1) = false := by rfl) (h1 : PDA X (e :: es) α) : PDE X W (.Call (.Name x p) (e :: es) [] pos) (eCall n F α) := match h1 with
  | ⟨t, h, s⟩ => ⟨_, pe_callS (E := WE W) G hr hg hm hk hb (fun σ => passAt tk σ) h hdb he hpl, fun B M Γ σ H H0 Q R Z kn h3 q z =>
    s B M Γ σ H H0 _ _ kn h3 fun vs xs Γ1 H1 H01 ⟨ds, e, hl, h1⟩ s1 k1 r1 => by
      cases outs_eq e
      refine ⟨H01, ds, k1.sub, k1.cl, dpAll_of r1, hl, hF ds _ _ _ _ (fun d h2 => ?_) (fun C h2 => ?_) h1⟩
      · intro v H' M' a1 a2 a3 a4 a5 a6
        exact q v (.d d) Γ1 H' M' h2 (s1.trans a2) (k1.after a1 a2 a3 a4 a5) a6
      · intro H' M' a1 a2 a3 a4 a5
        exact z C Γ1 H' M' h2 (s1.trans a2) (k1.after a1 a2 a3 a4 a5)⟩
def eIf (τ : DT) (δa δb : DEX) : DEX := fun Γ R Z => τ Γ fun b Γ1 => if b = true then δa Γ1 R Z else δb Γ1 R Z
theorem pde_if {τ : DT} {δa δb : DEX} (h1 : PDT X c τ) (h2 : PDE X W a δa) (h3 : PDE X W b δb) : PDE X W (.IfExp c a b pos) (eIf τ δa δb) := match h1, h2, h3 with
  | ⟨_, p1, s1⟩, ⟨_, p2, s2⟩, ⟨_, p3, s3⟩ => ⟨_, pe_ifExp p1 p2 p3, fun B M Γ σ H H0 Q R Z k h q z =>
    s1 B M Γ σ H H0 _ _ k h fun b Γ1 H1 H01 hb e1 k1 => by
      cases b with
      | true => exact (if_pos rfl).mpr (s2 B M Γ1 σ H1 H01 Q R Z k1 hb (fun v x Γ' H' H0' r e k r2 => q v x Γ' H' H0' r (e1.trans e) k r2) fun C Γ' H' H0' r e k => z C Γ' H' H0' r (e1.trans e) k)
      | false => exact (if_neg (by decide)).mpr (s3 B M Γ1 σ H1 H01 Q R Z k1 hb (fun v x Γ' H' H0' r e k r2 => q v x Γ' H' H0' r (e1.trans e) k r2) fun C Γ' H' H0' r e k => z C Γ' H' H0' r (e1.trans e) k)⟩
def xOf (β : DS) : DSX := fun nx rt _ Γ => β { nx := nx, rt := rt } Γ
theorem pdx_of {st : Stmt} {β : DS} (h : PDS X st β) : PDX X W st (xOf β) := match h with
  | ⟨t, h1, h2⟩ => ⟨t, h1, fun B M Γ σ H H0 E nx rt ex k h3 q1 q2 _ => h2 B M Γ σ H H0 _ _ k h3 ⟨q1, q2, fun _ _ _ _ z => z.elim, fun _ _ _ _ z => z.elim⟩⟩
def xDrop (δ : DEX) : DSX := fun nx _ ex Γ => δ Γ (fun _ Γ1 => nx Γ1) ex
theorem pdx_expr {δ : DEX} (h : PDE X W e δ) (hs : swapsWith e none pos.line X.env = pure false := by rfl) : PDX X W (.Expr e pos) (xDrop δ) := match h with
  | ⟨t, h1, h2⟩ => ⟨_, ps_expr h1 hs, fun B M Γ σ H H0 E nx rt ex k h3 q1 _ q3 => h2 B M Γ σ H H0 _ _ _ k h3 (fun v x Γ' H' H0' r e k _ => q1 Γ' σ H' H0' r e k) fun C Γ' H' H0' r e k => q3 C Γ' σ H' H0' r e k⟩
def xRet (δ : DEX) : DSX := fun _ rt ex Γ => δ Γ (fun x Γ1 => ∃ d, x = .d d ∧ rt d Γ1) ex
theorem pdx_ret {δ : DEX} (h : PDE X W e δ) : PDX X W (.Return (some e) pos) (xRet δ) := match h with
  | ⟨t, h1, h2⟩ => ⟨_, ps_ret h1, fun B M Γ σ H H0 E nx rt ex k h3 _ q2 q3 => h2 B M Γ σ H H0 _ _ _ k h3 (fun v x Γ' H' H0' ⟨d, e, r⟩ e2 k r2 => by
      subst e
      exact q2 v d Γ' σ H' H0' r e2 k r2) fun C Γ' H' H0' r e k => q3 C Γ' σ H' H0' r e k⟩
def xIf (τ : DT) (β γ : DSX) : DSX := fun nx rt ex Γ => τ Γ fun b Γ1 => if b = true then β nx rt ex Γ1 else γ nx rt ex Γ1
theorem pdx_if {τ : DT} {β γ : DSX} {as bs : List Stmt} (h1 : PDT X c τ) (h2 : PDXs X W as β) (h3 : PDXs X W bs γ) : PDX X W (.If c as bs pos) (xIf τ β γ) := match h1, h2, h3 with
  | ⟨_, p1, s1⟩, ⟨_, p2, s2⟩, ⟨_, p3, s3⟩ => ⟨_, ps_if p1 p2 p3, fun B M Γ σ H H0 E nx rt ex k h q1 q2 q3 =>
    s1 B M Γ σ H H0 _ _ k h fun b Γ1 H1 H01 hb e1 k1 => by
      cases b with
      | true => exact (if_pos rfl).mpr (s2 B M Γ1 σ H1 H01 E nx rt ex k1 hb (fun Γ' σ' H' H0' r e k => q1 Γ' σ' H' H0' r (e1.trans e) k) (fun v d Γ' σ' H' H0' r e k r2 => q2 v d Γ' σ' H' H0' r (e1.trans e) k r2) fun C Γ' σ' H' H0' r e k => q3 C Γ' σ' H' H0' r (e1.trans e) k)
      | false => exact (if_neg (by decide)).mpr (s3 B M Γ1 σ H1 H01 E nx rt ex k1 hb (fun Γ' σ' H' H0' r e k => q1 Γ' σ' H' H0' r (e1.trans e) k) (fun v d Γ' σ' H' H0' r e k r2 => q2 v d Γ' σ' H' H0' r (e1.trans e) k r2) fun C Γ' σ' H' H0' r e k => q3 C Γ' σ' H' H0' r (e1.trans e) k)⟩
def xNext : DSX := fun nx _ _ Γ => nx Γ
theorem pdxs_nil : PDXs X W [] xNext := ⟨_, pss_nil, fun B M Γ σ H H0 E nx rt ex k h q1 _ _ => q1 Γ σ H H0 h (fun _ _ z => z) k⟩
def xSeq (β γ : DSX) : DSX := fun nx rt ex Γ => β (fun Γ1 => γ nx rt ex Γ1) rt ex Γ
theorem pdxs_cons {st : Stmt} {rest : List Stmt} {β γ : DSX} (h1 : PDX X W st β) (h2 : PDXs X W rest γ) : PDXs X W (st :: rest) (xSeq β γ) := match h1, h2 with
  | ⟨_, p1, s1⟩, ⟨_, p2, s2⟩ => ⟨_, pss_cons p1 p2, fun B M Γ σ H H0 E nx rt ex k h q1 q2 q3 =>
    s1 B M Γ σ H H0 _ _ _ _ k h (fun Γ1 σ1 H1 H01 h1 e1 k1 => s2 B M Γ1 σ1 H1 H01 E nx rt ex k1 h1 (fun Γ' σ' H' H0' r e k => q1 Γ' σ' H' H0' r (e1.trans e) k) (fun v d Γ' σ' H' H0' r e k r2 => q2 v d Γ' σ' H' H0' r (e1.trans e) k r2) fun C Γ' σ' H' H0' r e k => q3 C Γ' σ' H' H0' r (e1.trans e) k) q2 q3⟩
def xRaise (C : Addr) : DSX := fun _ _ ex Γ => ex C Γ
theorem pdx_raise {x m : Str} {j : Nat} {p2 cp : Pos} {C : Addr} {bmB : List Value} {B newId initId : String} (hc : X.calm = true) (tk : Takes X W) (F : ExcBaseFacts B newId initId bmB) (q : PySem.W.excIn X.K C bmB newId = true) (gC : X.mg x = some (.ref C)) (kC : PySem.W.keepIn X.K (.ref C) = true) (r : Raises X (.ref C)) (hg : Gl X x)
    (hdb : (x == ("__debug__" : Str)) = false := by decide) : PDX X W (.Raise (some (.Call (.Name x p) [.Constant (.str m) j p2] [] cp)) none pos) (xRaise C) :=
  ⟨_, ps_raise hc tk (pmk_own F q gC kC r hg hdb), fun B M Γ σ H H0 E nx rt ex k h _ _ q3 => q3 C Γ σ H H0 h (fun _ _ z => z) k⟩
end
section
variable {P : Program} {w : World} {K : PySem.W.Frag} {mg : Str → Option Value} {base : Heap}
theorem fnX {x qual : Str} {st : Stmt} {f : Addr} {fd : FuncData} {N ps : List Str} {k n m : Nat} {F : FX} (G : Fun K x qual st f fd) (S : FnScope N ps (defScope st)) (hn : ps.length = n) (hN : N.length = n + m)
    (hbody : ∀ (ds : List D) (Q : D → Prop) (Z : Addr → Prop), ds.length = n → F ds Q Z → ∃ β : DSX, (∀ (cdv : Value) (A : Around) (outer : List Env) (s : Shared) (H : Hp) (E : XK) (W : WX), Room k (A.deeper (envOfC qual (defScope st) s.heap.objs.size f cdv)) → Takes (cxOf (L2.CX P w) P w K mg base N qual (defScope st) f cdv A outer s H E) W →
      PDXs (cxOf (L2.CX P w) P w K mg base N qual (defScope st) f cdv A outer s H E) W (defBody st) β) ∧
      β (fun _ => Q .none) (fun d _ => Q d) (fun C _ => Z C) (ds.map (fun d => some (DCell.val d)) ++ List.replicate m none)) : FnOk P w K mg base (L2.CX P w) (k + 1) f fd ps (spX K n F) := by
  refine G.okX S (fun vs H Q E h => ?_) (fun cdv A outer s H vs Q E hr h => ?_)
  · obtain ⟨M, ds, _, _, hd, hl, _⟩ := h
    rw [DpAll.length hd, hl, hn]
  · obtain ⟨M, ds, sm, cl, hd, hl, hf⟩ := h
    obtain ⟨β, pb, hb⟩ := hbody ds _ _ hl hf
    obtain ⟨t, pt, ss⟩ := pb cdv A outer s H E (fun cls d _ H => E cls d H) hr (takes_of rfl rfl rfl rfl)
    have k0 : Kn K H M (ds.map (fun d => some (DCell.val d)) ++ List.replicate m none) (start N vs) H M := by
      have := start_kn (N := N) (by rw [DpAll.length hd, hl, hN]; omega) sm cl hd
      rw [hl, hN, Nat.add_sub_cancel_left] at this
      exact this
    refine ⟨t, pt, ss H M _ _ H M _ _ _ _ k0 hb (fun Γ' σ' H' H0' q s' k' => ?_) (fun v d Γ' σ' H' H0' q s' k' r' => ?_) (fun C Γ' σ' H' H0' q s' k' => ?_)⟩
    · exact q .non H' H0' k'.base k'.mm k'.sub k'.new k'.cl .non
    · exact q v H' H0' k'.base k'.mm k'.sub k'.new k'.cl r'
    · exact q H' H0' k'.base k'.mm k'.sub k'.new k'.cl
end
end DL

set_option Elab.async false
set_option linter.all false
set_option maxRecDepth 100000
set_option maxHeartbeats 4000000
set_option autoImplicit true
namespace DL
open PySem PySem.Spec PyProof.Rows L2
/-- a def that may raise, as it is called -/
structure ClX (P : Program) (w : World) (K : PySem.W.Frag) (mg : Str → Option Value) (base : Heap) (k : Nat) (x : Str) (ps : List Str) (sp : Sp) : Prop where
  ex : ∃ f fd, FnOk P w K mg base (L2.CX P w) k f fd ps sp ∧ mg x = some (.ref f) ∧ PySem.W.keepIn K (.ref f) = true ∧ Binds K fd ps []
/-- an exception class of the program, below ValueError -/
structure ClsX (K : PySem.W.Frag) (mg : Str → Option Value) (x : Str) (C : Addr) : Prop where
  xF : PySem.W.excIn K C [.type "ValueError", .type "Exception", .type "BaseException", .type "object"] "ValueError.__new__" = true
  gF : mg x = some (.ref C)
  kF : PySem.W.keepIn K (.ref C) = true
  bF : PySem.W.subIn K (.ref C) (.type "BaseException") = some true
  tF : PySem.W.typeIn K (.ref C) = some (.type "type")
section
variable {P : Program} {w : World} {K : PySem.W.Frag} {mg : Str → Option Value} {base : Heap}
theorem ClX.mk' {k : Nat} {x qual : Str} {st : Stmt} {f : Addr} {fd : FuncData} {ps : List Str} {sp : Sp} (F : Fun K x qual st f fd) (hm : mg x = some (.ref f)) (hb : Binds K fd ps []) (ok : FnOk P w K mg base (L2.CX P w) k f fd ps sp) : ClX P w K mg base k x ps sp := ⟨f, fd, ok, hm, F.kp, hb⟩
theorem okPure {k : Nat} {f : Addr} {fd : FuncData} {ps : List Str} {n : Nat} {F : FX} (hF : MonoX F) (G : FnOk P w K mg base (L2.CX P w) k f fd ps (spX K n F)) : FnOk P w K mg base CX0 k f fd ps (spD K n fun ds Q => F ds Q fun _ => False) where
  len := fun vs H Q E ⟨M, ds, a1, a2, a3, a4, a5⟩ => G.len vs H Q (fun _ _ _ => False) ⟨M, ds, a1, a2, a3, a4, hF _ _ _ _ _ (fun _ z => z) (fun _ z => z.elim) a5⟩
  run := fun A outer s H args us vs Q E hr h0 hb hv ⟨M, ds, a1, a2, a3, a4, a5⟩ => by
    refine codeAny_mono (G.run A outer s H args us vs Q (fun _ _ _ => False) hr h0 hb hv ⟨M, ds, a1, a2, a3, a4, hF _ _ _ _ _ (fun _ z => z) (fun _ z => z.elim) a5⟩) fun r s' hq => ?_
    cases r with
    | error e =>
      obtain ⟨_, _, _, _, _, _, _, _, _, _, _, _, z⟩ := hq
      exact z.elim
    | ok fl => cases fl <;> exact hq
theorem ClX.pure {k n : Nat} {x : Str} {ps : List Str} {F : FX} (hF : MonoX F) (C : ClX P w K mg base k x ps (spX K n F)) : Cl P w K mg base k x ps (spD K n fun ds Q => F ds Q fun _ => False) := by
  obtain ⟨f, fd, ok, r⟩ := C.ex
  exact ⟨f, fd, okPure hF ok, r⟩
end
section
variable {X : Cx} {W : WX} {e : Expr} {pos p : Pos}
theorem pde_cl {n : Nat} {F : FX} {k j : Nat} {ps : List Str} {x : Str} {es : List Expr} {α : DA} (tk : Takes X W) (C : ClX X.prog X.w X.K X.mg X.base k x ps (spX X.K n F)) (hF : MonoX F) (hr : Room j X.A) (hk : k ≤ j) (hg : Gl X x)
    (hdb : (x == ("__debug__" : Str)) = false := by decide) (he : starEach (e :: es) X.env = (false, eval e X.env) :: starEach es X.env := by rfl) (hpl : (backTo pos (starEach es X.env)).any (·.1) = false := by rfl) (h : PDA X (e :: es) α) : PDE X W (.Call (.Name x p) (e :: es) [] pos) (eCall n F α) := by
  obtain ⟨f, fd, ok, hm, kp, hb⟩ := C.ex
  exact pde_call hF tk ok (hr.mono hk) hg hm kp hb hdb he hpl h
theorem pdx_raiseC {x m : Str} {j : Nat} {p2 cp : Pos} {C : Addr} (hc : X.calm = true) (tk : Takes X W) (T : ClsX X.K X.mg x C) (hg : Gl X x) (hdb : (x == ("__debug__" : Str)) = false := by decide) : PDX X W (.Raise (some (.Call (.Name x p) [.Constant (.str m) j p2] [] cp)) none pos) (xRaise C) :=
  pdx_raise hc tk PySem.F.excBase_ValueError T.xF T.gF T.kF (raises_own T.bF T.tF) hg hdb
end
end DL

set_option Elab.async false
set_option linter.all false
set_option maxRecDepth 100000
set_option maxHeartbeats 4000000
set_option autoImplicit true
namespace DL
open PySem PySem.Spec PyProof.Rows L2
/-! ### kept exceptions as objects of one's own -/
section
variable {K : PySem.W.Frag} {B M : Hp} {Γ : DCtx} {σ : L2.St} {H H0 : Hp}
theorem get_set {α : Type} {l : List (Option α)} {i j : Nat} {c c' : Option α} (h : (l.set i c)[j]? = some c') : (j = i ∧ c' = c) ∨ (j ≠ i ∧ l[j]? = some c') := by
  by_cases e : j = i
  · subst e
    rw [List.getElem?_set_self'] at h
    cases e2 : l[j]? with
    | none => rw [e2] at h; cases h
    | some x => rw [e2] at h; exact .inl ⟨rfl, (Option.some.inj h).symm⟩
  · rw [List.getElem?_set_ne (Ne.symm e)] at h
    exact .inr ⟨e, h⟩
theorem Kn.newOwn (k : Kn K B M Γ σ H H0) {i : Nat} {p : Addr} {h : HO} {o : DOb} (hp : H p = none) (ok : ObOk K H0 o h) : Kn K B M (Γ.set i (some (DCell.own p o))) (σ.set i (some (V.ref p))) (upd H p h) H0 := by
  have ne : ∀ {b u}, H b = some u → b ≠ p := fun e z => by rw [z, hp] at e; cases e
  have nB : B p = none := by
    cases e : B p with
    | none => rfl
    | some u => rw [k.base p u e] at hp; cases hp
  have n0 : H0 p = none := by
    cases e : H0 p with
    | none => rfl
    | some u => rw [k.sub p u e] at hp; cases hp
  refine ⟨fun b u e => by rw [upd_ne (ne (k.base b u e))]; exact k.base b u e, k.mm, fun b u e => by rw [upd_ne (ne (k.sub b u e))]; exact k.sub b u e, k.new, by rw [List.length_set, List.length_set]; exact k.len, fun j d e => ?_, fun j q o' e => ?_, fun j j' oi oj q q' hne e e' => ?_, k.cl⟩
  · rcases get_set e with ⟨_, z⟩ | ⟨hj, e⟩
    · cases z
    · obtain ⟨v, h1, h2⟩ := k.val j d e
      exact ⟨v, by rw [List.getElem?_set_ne (Ne.symm hj)]; exact h1, h2⟩
  · rcases get_set e with ⟨rfl, z⟩ | ⟨hj, e⟩
    · cases z
      have hl : j < σ.length := by
        rw [← k.len]
        have := (List.getElem?_eq_some_iff.mp e).1
        rw [List.length_set] at this
        exact this
      exact ⟨h, List.getElem?_set_self hl, nB, n0, upd_same, ok⟩
    · obtain ⟨h', h1, h2, h3, h4, h5⟩ := k.own j q o' e
      exact ⟨h', by rw [List.getElem?_set_ne (Ne.symm hj)]; exact h1, h2, h3, by rw [upd_ne (ne h4)]; exact h4, h5⟩
  · rcases get_set e with ⟨rfl, z⟩ | ⟨hj, eG⟩
    · cases z
      rcases get_set e' with ⟨rfl, _⟩ | ⟨hj', e'⟩
      · exact absurd rfl hne
      · obtain ⟨_, _, _, _, h4, _⟩ := k.own j' q' oj e'
        exact (ne h4).symm
    · rcases get_set e' with ⟨rfl, z⟩ | ⟨hj', e'⟩
      · cases z
        obtain ⟨_, _, _, _, h4, _⟩ := k.own j q oi eG
        exact ne h4
      · exact k.sep j j' oi oj q q' hne eG e'
theorem Kn.unset (k : Kn K B M Γ σ H H0) (i : Nat) : Kn K B M (Γ.set i none) (σ.set i none) H H0 := by
  refine ⟨k.base, k.mm, k.sub, k.new, by rw [List.length_set, List.length_set]; exact k.len, fun j d e => ?_, fun j q o' e => ?_, fun j j' oi oj q q' hne e e' => ?_, k.cl⟩
  · rcases get_set e with ⟨_, z⟩ | ⟨hj, e⟩
    · cases z
    · obtain ⟨v, h1, h2⟩ := k.val j d e
      exact ⟨v, by rw [List.getElem?_set_ne (Ne.symm hj)]; exact h1, h2⟩
  · rcases get_set e with ⟨_, z⟩ | ⟨hj, e⟩
    · cases z
    · obtain ⟨h', h1, r⟩ := k.own j q o' e
      exact ⟨h', by rw [List.getElem?_set_ne (Ne.symm hj)]; exact h1, r⟩
  · rcases get_set e with ⟨_, z⟩ | ⟨hj, e⟩
    · cases z
    rcases get_set e' with ⟨_, z⟩ | ⟨hj', e'⟩
    · cases z
    exact k.sep j j' oi oj q q' hne e e'
theorem Kn.exc (k : Kn K B M Γ σ H H0) {i : Nat} {p C : Addr} (e : Γ[i]? = some (some (DCell.own p (.exc p C)))) : σ[i]? = some (some (V.ref p)) ∧ H p = some (Kept (.ref C) p) ∧ H0 p = none := by
  obtain ⟨h, h1, _, h3, h4, h5⟩ := k.own i p _ e
  cases h5
  exact ⟨h1, h4, h3⟩
end
section
variable {X : Cx} {e : Expr} {pos p p2 : Pos}
/-- isinstance(caught, C) -/
def dIsX (K : PySem.W.Frag) (cv : Value) (δ : DE) : DE := fun Γ R => δ Γ fun x Γ1 => ∃ j q C b, x = .o j ∧ Γ1[j]? = some (some (DCell.own q (.exc q C))) ∧ ExcC K C ∧ PySem.W.kitOne K (.ref C) cv = some b ∧ R (.d (.bool b)) Γ1
theorem sim_isX {te : TE} {δ : DE} {c : V} {cv : Value} (hcv : ∀ u, RelV c u → u = cv) (s : Sim X.K te δ) : Sim X.K (tCB (rIsK X.K) (tCons te (tCons (tC c) tNil))) (dIsX X.K cv δ) := fun B M Γ σ H H0 Q R k q ok => s B M Γ σ H H0 _ _ k q fun v x Γ1 H1 H01 ⟨j, a, C, b, ex, hj, hC, hk, h1⟩ s1 k1 r1 => by
  subst ex
  obtain ⟨g1, g2, g3⟩ := k1.exc hj
  have ev : v = .ref a := by
    have : σ[j]? = some (some v) := r1
    rw [g1] at this
    cases this
    rfl
  subst ev
  exact ⟨a, C, c, cv, b, rfl, g2, hC, hcv, hk, ok _ _ Γ1 H1 H01 h1 s1 k1 (.bl b)⟩
theorem pd_isX (K0 : PySem.W.Frag) (hK : X.K = K0) {δ : DE} {x : Str} {C0 : Addr} (hg : Gl X "isinstance") (hm : X.mg "isinstance" = none) (hgx : Gl X x) (hmx : X.mg x = some (.ref C0)) (hdx : (x == ("__debug__" : Str)) = false := by decide)
    (hst : starEach [e, .Name x p2] X.env = (false, eval e X.env) :: starEach [.Name x p2] X.env := by rfl) (hst2 : starEach [.Name x p2] X.env = (false, eval (.Name x p2) X.env) :: starEach [] X.env := by rfl) (hp : (backTo pos (starEach [.Name x p2] X.env)).any (·.1) = false := by rfl) (h1 : PD X e δ) : PD X (.Call (.Name "isinstance" p) [e, .Name x p2] [] pos) (dIsX K0 (.ref C0) δ) := by
  subst hK
  exact match h1 with
  | ⟨_, h, s⟩ => ⟨_, pe_callB call_isK hg hm (by decide +kernel) (pa_cons h (pa_cons (pe_glob (v := .ref C0) hgx hmx rfl hdx) pa_nil hst2) hst) (by decide) (by decide) hst hp, sim_isX (fun u r => r) s⟩
theorem pd_isXT (K0 : PySem.W.Frag) (hK : X.K = K0) {δ : DE} {x : Str} {ty : String} (hg : Gl X "isinstance") (hm : X.mg "isinstance" = none) (hgx : Gl X x) (hmx : X.mg x = none) (hvx : bootBuiltins x = some (.type ty)) (hn : x ≠ "__name__" := by decide) (hdx : (x == ("__debug__" : Str)) = false := by decide)
    (hst : starEach [e, .Name x p2] X.env = (false, eval e X.env) :: starEach [.Name x p2] X.env := by rfl) (hst2 : starEach [.Name x p2] X.env = (false, eval (.Name x p2) X.env) :: starEach [] X.env := by rfl) (hp : (backTo pos (starEach [.Name x p2] X.env)).any (·.1) = false := by rfl) (h1 : PD X e δ) : PD X (.Call (.Name "isinstance" p) [e, .Name x p2] [] pos) (dIsX K0 (.type ty) δ) := by
  subst hK
  exact match h1 with
  | ⟨_, h, s⟩ => ⟨_, pe_callB call_isK hg hm (by decide +kernel) (pa_cons h (pa_cons (pe_bltn (v := .ty ty) hgx hmx hvx rfl hn hdx) pa_nil hst2) hst) (by decide) (by decide) hst hp, sim_isX (fun u r => r) s⟩
theorem u_isX {K : PySem.W.Frag} {cv : Value} {δ : DE} {Γ : DCtx} {R : DK} : dIsX K cv δ Γ R = δ Γ fun x Γ1 => ∃ j q C b, x = .o j ∧ Γ1[j]? = some (some (DCell.own q (.exc q C))) ∧ ExcC K C ∧ PySem.W.kitOne K (.ref C) cv = some b ∧ R (.d (.bool b)) Γ1 := rfl
/-! ### try: r = f(x, y) except C as n: m = n -/
def sTryK (K : PySem.W.Frag) (cv : Value) (n : Nat) (F : FX) (i1 i2 ir ie ic : Nat) : DS := fun D Γ => ∃ d1 d2, Γ[i1]? = some (some (DCell.val d1)) ∧ Γ[i2]? = some (some (DCell.val d2)) ∧ n = 2 ∧ ie < Γ.length ∧
  F [d1, d2] (fun d => D.nx (Γ.set ir (some (DCell.val d)))) (fun C => PySem.W.exmOne K (.ref C) cv = some true ∧ ∀ a, D.nx ((Γ.set ic (some (DCell.own a (.exc a C)))).set ie none))
theorem pds_tryK (K0 : PySem.W.Frag) (hK : X.K = K0) {n k j : Nat} {F : FX} {i1 i2 ir ie ic : Nat} {x1 x2 xr xe xc xf xx : Str} {cv : Value} {ps : List Str} {q1 q2 q3 q4 q5 q6 q7 q8 q9 q10 : Pos} (hs : X.stack = X.env :: X.outer) (hf : X.env.frame = some X.env.locals) (hex : X.ex = []) (hN : X.N.Nodup)
    (h1 : X.N[i1]? = some x1) (v1 : X.env.scope.names.lookup x1 = some .local) (h2 : X.N[i2]? = some x2) (v2 : X.env.scope.names.lookup x2 = some .local) (hr : X.N[ir]? = some xr) (vr : X.env.scope.names.lookup xr = some .local) (he : X.N[ie]? = some xe) (ve : X.env.scope.names.lookup xe = some .local) (hc : X.N[ic]? = some xc) (vc : X.env.scope.names.lookup xc = some .local) (nec : ie ≠ ic)
    (nm : Names X xx cv) (C : ClX X.prog X.w X.K X.mg X.base k xf ps (spX X.K n F)) (hF : MonoX F) (rm : Room j X.A) (hk : k ≤ j) (hg : Gl X xf)
    (b1 : (x1 == ("__debug__" : Str)) = false := by decide) (b2 : (x1 == ("__classdict__" : Str)) = false := by decide) (b3 : (x2 == ("__debug__" : Str)) = false := by decide) (b4 : (x2 == ("__classdict__" : Str)) = false := by decide) (b5 : (xe == ("__debug__" : Str)) = false := by decide) (b6 : (xe == ("__classdict__" : Str)) = false := by decide) (b7 : (xf == ("__debug__" : Str)) = false := by decide)
    (w1 : swapsWith (.Call (.Name xf q1) [.Name x1 q2, .Name x2 q3] [] q4) (some (.Name xr q5)) q6.line X.env = pure false := by rfl) (w2 : swapsWith (.Name xe q7) (some (.Name xc q8)) q9.line X.env = pure false := by rfl)
    (st1 : starEach [.Name x1 q2, .Name x2 q3] X.env = (false, eval (.Name x1 q2) X.env) :: starEach [.Name x2 q3] X.env := by rfl) (st2 : starEach [.Name x2 q3] X.env = (false, eval (.Name x2 q3) X.env) :: starEach [] X.env := by rfl) (pl : (backTo q4 (starEach [.Name x2 q3] X.env)).any (·.1) = false := by rfl) :
    PDS X (.Try [.Assign [.Name xr q5] (.Call (.Name xf q1) [.Name x1 q2, .Name x2 q3] [] q4) q6] [.ExceptHandler (some (.Name xx p)) (some xe) [.Assign [.Name xc q8] (.Name xe q7) q9] q10] [] [] pos) (sTryK K0 cv n F i1 i2 ir ie ic) := by
  subst hK
  obtain ⟨f, fd, ok, hm, kp, hb⟩ := C.ex
  refine ⟨_, ps_try_keep (ts := fun _ _ _ => tAsg (tVar ie) (gName ic)) (Wout := fun _ _ _ _ => False) (tb := fun W => tAsg (tCallS (spX X.K n F) (WE W) (tCons (tVar i1) (tCons (tVar i2) tNil))) (gName ir)) hs hf hex hN he ve nm takes0
    (fun W pn xe' tk pw => pss_one (ps_set (X := X.tr pn xe') hN hr (.inl vr) (pe_callS (X := X.tr pn xe') (E := WE W) ok (rm.mono hk) hg hm kp hb (fun σ => passAt tk σ) (pa_cons (pe_var (X := X.tr pn xe') h1 (.inl v1) b1 b2) (pa_cons (pe_var (X := X.tr pn xe') h2 (.inl v2) b3 b4) pa_nil st2) st1) b7 st1 pl) w1 (.inr vr)))
    (fun a oe cls d pn _ _ => pss_one (ps_set (X := X.suite a ((a, oe) :: pn)) hN hc (.inl vc) (pe_var (X := X.suite a ((a, oe) :: pn)) he (.inl ve) b5 b6) w2 (.inr vc))), ?_⟩
  intro B M Γ σ H H0 E D kn ⟨d1, d2, e1, e2, en, hil, h⟩ ends
  obtain ⟨u1, s1, r1⟩ := kn.val i1 d1 e1
  obtain ⟨u2, s2, r2⟩ := kn.val i2 d2 e2
  refine ⟨u1, s1, u2, s2, H0, [d1, d2], kn.sub, kn.cl, .cons r1 (.cons r2 .nil), en.symm, hF _ _ _ _ _ (fun d hd => ?_) (fun Cx hd => ?_) h⟩
  · intro v H' M' a1 a2 a3 a4 a5 a6
    exact ends.nx _ _ H' M' hd a2 ((kn.after a1 a2 a3 a4 a5).set a6)
  · intro H' M' a1 a2 a3 a4 a5
    obtain ⟨hx, hd⟩ := hd
    refine ⟨true, hx, fun _ => ⟨rfl, fun a ha => ?_⟩, fun z => by cases z⟩
    have k2 := kn.after a1 a2 a3 a4 a5
    have il : ie < σ.length := by rw [← kn.len]; exact hil
    refine ⟨.ref a, List.getElem?_set_self il, ?_⟩
    have k3 := (k2.newOwn (i := ic) ha (ObOk.exc a Cx)).unset ie
    refine ends.nx _ _ _ M' (hd a) a2 ?_
    have es : ((σ.set ie (some (V.ref a))).set ic (some (V.ref a))).set ie none = (σ.set ic (some (V.ref a))).set ie none := by
      rw [List.set_comm _ _ (Ne.symm nec), List.set_set, List.set_comm _ _ nec]
    rw [es]
    exact k3
end
end DL

set_option Elab.async false
set_option linter.all false
set_option maxRecDepth 100000
set_option maxHeartbeats 4000000
set_option autoImplicit true
namespace DL
open PySem PySem.Spec PyProof.Rows L2
/-! ### a def that takes a kept exception -/
def spE (K : PySem.W.Frag) (F : Addr → (D → Prop) → Prop) : Sp := fun vs H Q _ => ∃ M a C, vs = [.ref a] ∧ Same M H ∧ Clean K M ∧ M a = none ∧ H a = some (Kept (.ref C) a) ∧ F C (After K H M Q)
def MonoE (F : Addr → (D → Prop) → Prop) : Prop := ∀ C (P P' : D → Prop), (∀ d, P d → P' d) → F C P → F C P'
def dCallE (F : Addr → (D → Prop) → Prop) (δ : DE) : DE := fun Γ R => δ Γ fun x Γ1 => ∃ j q C, x = .o j ∧ Γ1[j]? = some (some (DCell.own q (.exc q C))) ∧ F C fun d => R (.d d) Γ1
theorem u_callE {F : Addr → (D → Prop) → Prop} {δ : DE} {Γ : DCtx} {R : DK} : dCallE F δ Γ R = δ Γ fun x Γ1 => ∃ j q C, x = .o j ∧ Γ1[j]? = some (some (DCell.own q (.exc q C))) ∧ F C fun d => R (.d d) Γ1 := rfl
section
variable {X : Cx} {e : Expr} {pos p : Pos}
theorem pd_clE {F : Addr → (D → Prop) → Prop} {k j : Nat} {ps : List Str} {x : Str} {δ : DE} (C : Cl X.prog X.w X.K X.mg X.base k x ps (spE X.K F)) (hF : MonoE F) (hr : Room j X.A) (hk : k ≤ j) (hg : Gl X x)
    (hdb : (x == ("__debug__" : Str)) = false := by decide) (he : starEach [e] X.env = (false, eval e X.env) :: starEach [] X.env := by rfl) (hpl : (backTo pos (starEach [] X.env)).any (·.1) = false := by rfl) (h : PD X e δ) : PD X (.Call (.Name x p) [e] [] pos) (dCallE F δ) := by
  obtain ⟨f, fd, ok, hm, kp, hb⟩ := C.ex
  obtain ⟨t, ht, s⟩ := h
  refine ⟨_, pe_call (E := E0) ok (hr.mono hk) hg hm kp hb .nil pass0 (pa_cons ht pa_nil he) hdb he hpl, fun B M Γ σ H H0 Q R kn q ok => s B M Γ σ H H0 _ _ kn q fun v x Γ1 H1 H01 ⟨jj, a, Cc, ex, hj, h1⟩ s1 k1 r1 => ?_⟩
  subst ex
  obtain ⟨g1, g2, g3⟩ := k1.exc hj
  have ev : v = .ref a := by
    have : σ[jj]? = some (some v) := r1
    rw [g1] at this
    cases this
    rfl
  subst ev
  refine ⟨H01, a, Cc, rfl, k1.sub, k1.cl, g3, g2, hF _ _ _ (fun d hd => ?_) h1⟩
  intro v H' M' a1 a2 a3 a4 a5 a6
  exact ok v (.d d) Γ1 H' M' hd (s1.trans a2) (k1.after a1 a2 a3 a4 a5) a6
/-! ### x is None, x a kept exception or data -/
def dIsNx : DR2 := fun x y Γ R => (∃ d, x = .d d ∧ y = .d .none ∧ R (.d (.bool (decide (tyN d = "NoneType")))) Γ) ∨ (∃ j q C, x = .o j ∧ Γ[j]? = some (some (DCell.own q (.exc q C))) ∧ y = .d .none ∧ R (.d (.bool false)) Γ)
theorem rs_isNx {K : PySem.W.Frag} : RSim2 K (fun x y H Q => y = .non ∧ Q (.bl (decide (x = .non))) H) dIsNx := by
  intro B M Γ σ H H0 Q R x y v u k r1 r2 h q
  rcases h with h | ⟨j, a, C, rfl, hj, rfl, h⟩
  · exact rs_isN B M Γ σ H H0 Q R x y v u k r1 r2 (by obtain ⟨d, h1, h2, h3⟩ := h; exact ⟨d, h1, h2, by simpa using h3⟩) q
  · obtain ⟨g1, _, _⟩ := k.exc hj
    have ev : v = .ref a := by
      have : σ[j]? = some (some v) := r1
      rw [g1] at this
      cases this
      rfl
    subst ev
    refine ⟨dp_none_inv r2, ?_⟩
    exact q _ _ Γ H H0 h (fun _ _ z => z) k (.bl false)
end
section
variable {P : Program} {w : World} {K : PySem.W.Frag} {mg : Str → Option Value} {base : Heap}
theorem fnE {x qual pn : Str} {st : Stmt} {f : Addr} {fd : FuncData} {N : List Str} {k m : Nat} {F : Addr → (D → Prop) → Prop} (G : Fun K x qual st f fd) (S : FnScope N [pn] (defScope st)) (hN : N.length = 1 + m)
    (hbody : ∀ (C : Addr) (Q : D → Prop), F C Q → ∃ β : DS, (∀ (cdv : Value) (A : Around) (outer : List Env) (s : Shared) (H : Hp) (E : XK), Room k (A.deeper (envOfC qual (defScope st) s.heap.objs.size f cdv)) →
      PDSs (cxOf CX0 P w K mg base N qual (defScope st) f cdv A outer s H E).nox (defBody st) β) ∧
      ∀ a, β { nx := fun _ => False, rt := fun d Γ => Γ[0]? = some (some (DCell.own a (.exc a C))) ∧ Q d } (some (DCell.own a (.exc a C)) :: List.replicate m none)) : FnOk P w K mg base CX0 (k + 1) f fd [pn] (spE K F) := by
  refine G.ok S (fun vs H Q E h => ?_) (fun cdv A outer s H vs Q E hr h => ?_)
  · obtain ⟨M, a, C, rfl, _⟩ := h
    rfl
  · obtain ⟨M, a, C, rfl, sm, cl, hM, hH, hf⟩ := h
    obtain ⟨β, pb, hb⟩ := hbody C _ hf
    obtain ⟨t, pt, ss⟩ := pb cdv A outer s H E hr
    have st0 : start N [V.ref a] = some (V.ref a) :: List.replicate m none := by
      unfold L2.start
      simp [hN]
    have k0 : Kn K (del H a) M (some (DCell.own a (.exc a C)) :: List.replicate m none) (start N [V.ref a]) H M := by
      rw [st0]
      have at0 : ∀ {i : Nat} {c : DCell}, (some (DCell.own a (.exc a C)) :: List.replicate m (none : Option DCell))[i]? = some (some c) → i = 0 ∧ c = DCell.own a (.exc a C) := fun {i c} e => by
        cases i with
        | zero => simp at e; exact ⟨rfl, e.symm⟩
        | succ i =>
          rw [List.getElem?_cons_succ] at e
          have := List.eq_of_mem_replicate (List.mem_of_getElem? e)
          cases this
      refine ⟨fun b u e => (del_some e).2, fun _ _ z => z, sm, fun b o _ n => n, by simp, fun i d e => ?_, fun i q o e => ?_, fun i j oi oj q q' hne e e' => ?_, cl⟩
      · cases (at0 e).2
      · obtain ⟨rfl, z⟩ := at0 e
        cases z
        exact ⟨_, rfl, del_same, hM, hH, .exc a C⟩
      · exact absurd ((at0 e).1.trans (at0 e').1.symm) hne
    refine ⟨t, pt, ss (del H a) M _ _ H M _ _ k0 (hb a) ⟨fun _ _ _ _ q => q.elim, fun v d Γ' σ' H' H0' ⟨g, q⟩ s' k' r' => ?_, fun _ _ _ _ q => q.elim, fun _ _ _ _ q => q.elim⟩⟩
    obtain ⟨_, g2, g3⟩ := k'.exc g
    refine q v H' H0' (fun b u e => ?_) k'.mm k'.sub (fun b u e n => ?_) k'.cl r'
    · by_cases hb : b = a
      · subst hb
        rw [hH] at e
        cases e
        exact g2
      · exact k'.base b u (by rw [del_ne hb]; exact e)
    · by_cases hb : b = a
      · rw [hb]; exact g3
      · exact k'.new b u (by rw [del_ne hb]; exact e) n
end
end DL

set_option Elab.async false
set_option linter.all false
set_option maxRecDepth 100000
set_option maxHeartbeats 4000000
set_option autoImplicit true
namespace DL
open PySem PySem.Spec PyProof.Rows L2 TL
/-! ### found.count(True), found.index(True) -/
section
variable {X : Cx}
def rCntF (K : PySem.W.Frag) : V → List V → Hp → VK → Prop := fun x xs H Q => ∃ (p : Addr) (ys : List V) (y : V), x = .ref p ∧ xs = [y] ∧ SqL K H p ys ∧ flatV y = true ∧ ys.all flatV = true ∧ Q (.int ((ys.countP fun z => eqV z y : Nat) : Int)) H
theorem count_eqU {x : V} : ∀ {xs : List V} {us : List Value}, Vals xs us → xs.all flatV = true → us.countP (eqU x) = xs.countP fun y => eqV y x
  | _, _, .nil, _ => rfl
  | _, _, .cons r rs, h => by
    rw [List.all_cons, Bool.and_eq_true] at h
    rw [List.countP_cons, List.countP_cons, count_eqU rs h.2, eqU_of r h.1]
theorem flat_at {A : Around} {s : Shared} {x : V} {u : Value} (rx : RelV x u) (fx : flatV x = true) : ∀ {xs : List V} {us : List Value}, Vals xs us → xs.all flatV = true → ∀ y ∈ us, SeqAt.EqAt A s y u (eqU x y)
  | _, _, .nil, _, y, hy => by cases hy
  | _, _, .cons r rs, h, y, hy => by
    rw [List.all_cons, Bool.and_eq_true] at h
    rcases List.mem_cons.mp hy with rfl | hy
    · rw [eqU_of r h.1]
      exact eqAt_V r rx h.1 fx
    · exact flat_at rx fx rs h.2 y hy
theorem mt_lcountF : MtR X "list.count" (rCntF X.K) := by
  intro pins s σ H x xs v us Q I rx rxs h
  obtain ⟨p, ys, y, rfl, rfl, hs, fy, fys, q⟩ := h
  cases rx
  obtain ⟨u, rfl, ru⟩ := rxs.one
  obtain ⟨its, rv, ⟨⟨cls, dd, data, sl⟩, n, ho, hc, hdn, hd⟩, hlen⟩ := I.list hs
  simp only at hc hd
  subst hc hd
  refine call_meets PySem.F.slot_list_count ⟨_, ho, rfl⟩ PySem.F.entry_list_count (PySem.F.args_list_count_2 _ _) (SeqAt.list_countAt p its.toArray n dd sl u (eqU y)) ⟨ho, fun z hz => flat_at ru fy rv fys z (by simpa using hz), ?_⟩
  have ec : its.toArray.toList.countP (eqU y) = ys.countP fun z => eqV z y := count_eqU rv fys
  refine ⟨.int ((ys.countP fun z => eqV z y : Nat) : Int), H, I.tok _, ⟨s.toks, ?_⟩, q⟩
  show Value.int ((its.toArray.toList.countP (eqU y) : Nat) : Int) s.toks = _
  rw [ec]
end
section
variable {X : Cx} {e o : Expr} {pos apos : Pos} {δe δo : DE}
theorem flat_bls : ∀ bs : List Bool, (bs.map V.bl).all flatV = true
  | [] => rfl
  | _ :: bs => by rw [List.map_cons, List.all_cons, flat_bls bs]; rfl
def dCntB (δo δe : DE) : DE := fun Γ R => δo Γ fun x Γ1 => onLd x fun ds => δe Γ1 fun y Γ2 => ∃ (k : Bool) (bs : List Bool), y = .d (.bool k) ∧ ds = bs.map PyData.bool ∧ R (.d (.int ((bs.count k : Nat) : Int))) Γ2
theorem u_cntB {Γ : DCtx} {R : DK} : dCntB δo δe Γ R = δo Γ fun x Γ1 => onLd x fun ds => δe Γ1 fun y Γ2 => ∃ (k : Bool) (bs : List Bool), y = .d (.bool k) ∧ ds = bs.map PyData.bool ∧ R (.d (.int ((bs.count k : Nat) : Int))) Γ2 := rfl
theorem countP_bl (bs : List Bool) (k : Bool) : ((bs.map V.bl).countP fun z => eqV z (.bl k)) = bs.count k := by
  rw [List.countP_map]
  rfl
theorem pd_lcountB (hbase : attributeBase o "count" X.env (eval o X.env) = eval o X.env := by rfl)
    (hfew : ((backTo pos (starEach [e] X.env)).all (fun x => !x.1) && (backToKw pos (keywordEach [] X.env)).all (fun x => x.1.isSome) && decide (([e] : List Expr).length + ([] : List Keyword).length + (if ([] : List Keyword).isEmpty then 0 else 1) < 30)) = true := by rfl)
    (hline : (apos.endLine == pos.line) = true := by rfl) (hs : starEach [e] X.env = (false, eval e X.env) :: starEach [] X.env := by rfl) (hplain : (backTo pos (starEach [] X.env)).any (·.1) = false := by rfl) (h1 : PD X o δo) (h2 : PD X e δe) : PD X (.Call (.Attribute o "count" apos) [e] [] pos) (dCntB δo δe) := match h1, h2 with
  | ⟨_, ho, so⟩, ⟨_, he, se⟩ => ⟨_, pe_bm PySem.F.plainAttrs_list PySem.F.slot_list_count PySem.F.type_list_count mt_lcountF ho (pa_cons he pa_nil hs) hbase hfew hline hs hplain, fun B M Γ σ H H0 Q R k q ok => so B M Γ σ H H0 _ _ k q fun v x Γ1 H1 H01 ⟨ds, ex, h1⟩ s1 k1 r1 => by
      subst ex
      obtain ⟨p, vs, rfl, hp, dv⟩ := dp_list_inv r1
      refine ⟨.inl ⟨rfl, vs, k1.sub.seq hp⟩, se B M Γ1 σ H1 H01 _ _ k1 h1 fun u y Γ2 H2 H02 ⟨kk, bs, ey, ed, h2⟩ s2 k2 r2 => ?_⟩
      subst ey ed
      cases dpAll_bools dv
      refine ⟨p, bs.map V.bl, .bl kk, rfl, by rw [dp_bool_inv r2], (s2.trans k2.sub).seq hp, rfl, flat_bls bs, ?_⟩
      rw [countP_bl]
      exact ok _ _ Γ2 H2 H02 h2 (s1.trans s2) k2 (.int _)⟩
def dLIxB (δo δe : DE) : DE := fun Γ R => δo Γ fun x Γ1 => onLd x fun ds => δe Γ1 fun y Γ2 => ∃ (k : Bool) (bs : List Bool) (j : Nat), y = .d (.bool k) ∧ ds = bs.map PyData.bool ∧ bs[j]? = some k ∧ (∀ m, m < j → bs[m]? ≠ some k) ∧ R (.d (.int (j : Nat))) Γ2
theorem u_lixB {Γ : DCtx} {R : DK} : dLIxB δo δe Γ R = δo Γ fun x Γ1 => onLd x fun ds => δe Γ1 fun y Γ2 => ∃ (k : Bool) (bs : List Bool) (j : Nat), y = .d (.bool k) ∧ ds = bs.map PyData.bool ∧ bs[j]? = some k ∧ (∀ m, m < j → bs[m]? ≠ some k) ∧ R (.d (.int (j : Nat))) Γ2 := rfl
theorem pd_lindexB (hbase : attributeBase o "index" X.env (eval o X.env) = eval o X.env := by rfl)
    (hfew : ((backTo pos (starEach [e] X.env)).all (fun x => !x.1) && (backToKw pos (keywordEach [] X.env)).all (fun x => x.1.isSome) && decide (([e] : List Expr).length + ([] : List Keyword).length + (if ([] : List Keyword).isEmpty then 0 else 1) < 30)) = true := by rfl)
    (hline : (apos.endLine == pos.line) = true := by rfl) (hs : starEach [e] X.env = (false, eval e X.env) :: starEach [] X.env := by rfl) (hplain : (backTo pos (starEach [] X.env)).any (·.1) = false := by rfl) (h1 : PD X o δo) (h2 : PD X e δe) : PD X (.Call (.Attribute o "index" apos) [e] [] pos) (dLIxB δo δe) := match h1, h2 with
  | ⟨_, ho, so⟩, ⟨_, he, se⟩ => ⟨_, pe_bm PySem.F.plainAttrs_list PySem.F.slot_list_index PySem.F.type_list_index mt_index ho (pa_cons he pa_nil hs) hbase hfew hline hs hplain, fun B M Γ σ H H0 Q R k q ok => so B M Γ σ H H0 _ _ k q fun v x Γ1 H1 H01 ⟨ds, ex, h1⟩ s1 k1 r1 => by
      subst ex
      obtain ⟨p, vs, rfl, hp, dv⟩ := dp_list_inv r1
      refine ⟨.inl ⟨rfl, vs, k1.sub.seq hp⟩, se B M Γ1 σ H1 H01 _ _ k1 h1 fun u y Γ2 H2 H02 ⟨kk, bs, j, ey, ed, hj, hm, h2⟩ s2 k2 r2 => ?_⟩
      subst ey ed
      cases dpAll_bools dv
      refine ⟨p, _, .bl kk, j, .bl kk, rfl, by rw [dp_bool_inv r2], (s2.trans k2.sub).seq hp, rfl, flat_bls bs, by rw [List.getElem?_map, hj]; rfl, by simp [eqV], fun m z hlt hz => ?_, ok _ _ Γ2 H2 H02 h2 (s1.trans s2) k2 (.int _)⟩
      rw [List.getElem?_map] at hz
      obtain ⟨b', e1, e2⟩ := Option.map_eq_some_iff.mp hz
      subst e2
      have : b' ≠ kk := fun z => hm m hlt (by rw [e1, z])
      simpa [eqV] using this⟩
/-! ### text.split(", ") -/
def spW (S w : List Nat) : List (List Nat) := spl S 0 [] w
def dSplit (S : List Nat) (δ : DE) : DE := fun Γ R => δ Γ fun x Γ1 => onS x fun w => w.length ≤ 100000 ∧ R (.d (.list ((spW S w).map fun v => PyData.str (T v)))) Γ1
theorem u_split {S : List Nat} {δ : DE} {Γ : DCtx} {R : DK} : dSplit S δ Γ R = δ Γ fun x Γ1 => onS x fun w => w.length ≤ 100000 ∧ R (.d (.list ((spW S w).map fun v => PyData.str (T v)))) Γ1 := rfl
theorem split_T {m : Str} (hm : tl m ≠ []) (hk : m.cps.all (· < 256) = true) (w : List Nat) : Txt.split (T w) m = (spW (tl m) w).map fun v => T v := by
  refine map_tl_inj ?_
  rw [split_spl _ m hm (kind_ok hk), List.map_map]
  have e : (tl ∘ fun v => T v) = id := funext fun v => by simp [tl, T]
  rw [e, List.map_id]
  unfold spW
  congr 1
theorem vals_T (l : List (List Nat)) : (l.map fun v => T v).map V.str = l.map fun v => V.str (T v) := by rw [List.map_map]; rfl
theorem dpAll_T {K : PySem.W.Frag} {H : Hp} : ∀ l : List (List Nat), DpAll K H (l.map fun v => V.str (T v)) (l.map fun v => PyData.str (T v))
  | [] => .nil
  | v :: l => .cons (.str _) (dpAll_T l)
theorem pd_split {m : Str} {jj : Nat} {mp : Pos} (hm : tl m ≠ []) (hk : m.cps.all (· < 256) = true) (hs : starEach [.Constant (.str m) jj mp] X.env = [(false, eval (.Constant (.str m) jj mp) X.env)] := by rfl) (hbase : attributeBase o "split" X.env (eval o X.env) = eval o X.env := by rfl) (hline : (apos.endLine == pos.line) = true := by rfl) (h1 : PD X o δo) :
    PD X (.Call (.Attribute o "split" apos) [.Constant (.str m) jj mp] [] pos) (dSplit (tl m) δo) := match h1 with
  | ⟨_, ho, so⟩ => ⟨_, pe_split ho pe_str hs hbase hline, fun B M Γ σ H H0 Q R k q ok => so B M Γ σ H H0 _ _ k q fun v x Γ1 H1 H01 ⟨w, ex, hw, h1⟩ s1 k1 r1 => by
      subst ex
      have ml : (m.length == 0) = false := by
        cases e : (m.length == 0) with
        | false => rfl
        | true =>
          refine absurd ?_ hm
          have : m.cps.size = 0 := beq_iff_eq.mp e
          simpa [tl] using this
      refine ⟨⟨_, dp_str_inv r1⟩, T w, m, dp_str_inv r1, rfl, ml, ?_, fun p hp => ?_⟩
      · show (T w).cps.size + 2 ≤ sizeLine
        rw [sizeLine_eq]
        simp [T]
        omega
      · rw [split_T hm hk, vals_T]
        obtain ⟨k2, s2⟩ := k1.laid (o := .lst ((spW (tl m) w).map fun v => V.str (T v))) hp
        exact ok _ _ Γ1 _ _ h1 (s1.trans s2) k2 (Dp.lst (.inl (.inl upd_same)) (dpAll_T _))⟩
end
end DL

set_option Elab.async false
set_option linter.all false
set_option maxRecDepth 100000
set_option maxHeartbeats 4000000
set_option autoImplicit true
namespace DL
open PySem PySem.Spec PyProof.Rows L2
/-! ### the program's exception classes -/
structure Cs where
  word : Addr
  list : Addr
  number : Addr
  text : Addr
  one : Addr
  already : Addr
  there : Addr
  many : Addr
  doubtful : Addr
  undo : Addr
  slip : Addr
def Cs.ten (c : Cs) : List Addr := [c.word, c.list, c.number, c.text, c.one, c.already, c.there, c.many, c.doubtful, c.undo]
def clsB (K : PySem.W.Frag) (C : Addr) : Bool :=
  PySem.W.excIn K C [.type "ValueError", .type "Exception", .type "BaseException", .type "object"] "ValueError.__new__" && (PySem.W.keepIn K (.ref C) && (decide (PySem.W.subIn K (.ref C) (.type "BaseException") = some true) && (decide (PySem.W.typeIn K (.ref C) = some (.type "type")) &&
  (decide (PySem.W.findIn K (.ref C) "__getattribute__" = some (some (.builtin "BaseException.__getattribute__"))) && (decide (PySem.W.findIn K (.ref C) "__getattr__" = some none) && (PySem.W.hasDictIn K C && (decide (PySem.W.findIn K (.ref C) "__class__" = some (some (.builtin "object.__class__"))) &&
  (decide (PySem.W.specialIn K (.builtin "object.__class__") "__get__" = some (some (.builtin "getset_descriptor.__get__"))) && (decide (PySem.W.takesIn K (.builtin "object.__class__") = some true) && decide (PySem.W.mroIn K C (.type "object") = some true))))))))))
def oneB (K : PySem.W.Frag) (c : Cs) (C : Addr) : Bool := clsB K C && (decide (PySem.W.kitOne K (.ref C) (.type "ValueError") = some true) && (decide (PySem.W.exmOne K (.ref C) (.ref c.slip) = some true) && c.ten.all fun E => decide (PySem.W.kitOne K (.ref C) (.ref E) = some (decide (C = E)))))
def csB (K : PySem.W.Frag) (c : Cs) : Bool := clsB K c.slip && (c.ten.all (oneB K c) && decide c.ten.Nodup)
structure CsOk (K : PySem.W.Frag) (mg : Str → Option Value) (c : Cs) : Prop where
  ok : csB K c = true
  word : mg "InvalidWord" = some (.ref c.word)
  list : mg "InvalidList" = some (.ref c.list)
  number : mg "InvalidNumber" = some (.ref c.number)
  text : mg "InvalidText" = some (.ref c.text)
  one : mg "OneWord" = some (.ref c.one)
  already : mg "AlreadyThere" = some (.ref c.already)
  there : mg "NotThere" = some (.ref c.there)
  many : mg "TooMany" = some (.ref c.many)
  doubtful : mg "Doubtful" = some (.ref c.doubtful)
  undo : mg "NothingToUndo" = some (.ref c.undo)
  slip : mg "SlipError" = some (.ref c.slip)
section
variable {K : PySem.W.Frag} {mg : Str → Option Value} {c : Cs}
theorem clsB_x {x : Str} {C : Addr} (h : clsB K C = true) (g : mg x = some (.ref C)) : ClsX K mg x C := by
  unfold clsB at h
  simp only [Bool.and_eq_true, decide_eq_true_eq] at h
  exact ⟨h.1, g, h.2.1, h.2.2.1, h.2.2.2.1⟩
theorem clsB_e {C : Addr} (h : clsB K C = true) : ExcC K C := by
  unfold clsB at h
  simp only [Bool.and_eq_true, decide_eq_true_eq] at h
  exact ⟨h.2.2.2.2.1, h.2.2.2.2.2.1, h.2.2.1, h.2.2.2.2.2.2.1, h.2.2.2.2.2.2.2.1, h.2.2.2.2.2.2.2.2.1, h.2.2.2.2.2.2.2.2.2.1, h.2.2.2.2.2.2.2.2.2.2⟩
theorem CsOk.each (k : CsOk K mg c) {C : Addr} (h : C ∈ c.ten) : oneB K c C = true := by
  have h1 := k.ok
  unfold csB at h1
  simp only [Bool.and_eq_true] at h1
  exact List.all_eq_true.mp h1.2.1 C h
theorem CsOk.cls (k : CsOk K mg c) {C : Addr} (h : C ∈ c.ten) {x : Str} (g : mg x = some (.ref C)) : ClsX K mg x C := by
  have h1 := k.each h
  unfold oneB at h1
  simp only [Bool.and_eq_true] at h1
  exact clsB_x h1.1 g
theorem CsOk.exc (k : CsOk K mg c) {C : Addr} (h : C ∈ c.ten) : ExcC K C := by
  have h1 := k.each h
  unfold oneB at h1
  simp only [Bool.and_eq_true] at h1
  exact clsB_e h1.1
theorem CsOk.val (k : CsOk K mg c) {C : Addr} (h : C ∈ c.ten) : PySem.W.kitOne K (.ref C) (.type "ValueError") = some true := by
  have h1 := k.each h
  unfold oneB at h1
  simp only [Bool.and_eq_true, decide_eq_true_eq] at h1
  exact h1.2.1
theorem CsOk.got (k : CsOk K mg c) {C : Addr} (h : C ∈ c.ten) : PySem.W.exmOne K (.ref C) (.ref c.slip) = some true := by
  have h1 := k.each h
  unfold oneB at h1
  simp only [Bool.and_eq_true, decide_eq_true_eq] at h1
  exact h1.2.2.1
theorem CsOk.kit (k : CsOk K mg c) {C E : Addr} (h : C ∈ c.ten) (g : E ∈ c.ten) : PySem.W.kitOne K (.ref C) (.ref E) = some (decide (C = E)) := by
  have h1 := k.each h
  unfold oneB at h1
  simp only [Bool.and_eq_true, decide_eq_true_eq] at h1
  exact of_decide_eq_true (List.all_eq_true.mp h1.2.2.2 E g)
theorem CsOk.nd (k : CsOk K mg c) : c.ten.Nodup := by
  have h1 := k.ok
  unfold csB at h1
  simp only [Bool.and_eq_true, decide_eq_true_eq] at h1
  exact h1.2.2
/-- which of the ten it is -/
def Cs.at (c : Cs) (C : Addr) : Nat := c.ten.idxOf C
end
end DL

set_option Elab.async false
set_option linter.all false
set_option maxRecDepth 100000
set_option maxHeartbeats 4000000
set_option autoImplicit true
namespace DL
open PySem PySem.Spec PyProof.Rows L2 TL
section
variable {nx : DCtx → Prop} {rt : D → DCtx → Prop} {ex : Addr → DCtx → Prop} {Γ : DCtx} {β γ : DSX} {δ δa δb : DEX} {τ : DT} {R : DK} {Z : Addr → DCtx → Prop}
theorem u_xSeq : xSeq β γ nx rt ex Γ = β (fun Γ1 => γ nx rt ex Γ1) rt ex Γ := rfl
theorem u_xIf : xIf τ β γ nx rt ex Γ = τ Γ fun b Γ1 => if b = true then β nx rt ex Γ1 else γ nx rt ex Γ1 := rfl
theorem u_xNext : xNext nx rt ex Γ = nx Γ := rfl
theorem u_xRaise {C : Addr} : xRaise C nx rt ex Γ = ex C Γ := rfl
theorem u_xDrop : xDrop δ nx rt ex Γ = δ Γ (fun _ Γ1 => nx Γ1) ex := rfl
theorem u_xRet : xRet δ nx rt ex Γ = δ Γ (fun x Γ1 => onD x fun d => rt d Γ1) ex := rfl
theorem u_xOf {b : DS} : xOf b nx rt ex Γ = b { nx := nx, rt := rt } Γ := rfl
theorem u_eCall {n : Nat} {F : FX} {α : DA} : eCall n F α Γ R Z = α Γ fun xs Γ1 => outsK xs fun ds => ds.length = n ∧ F ds (fun d => R (.d d) Γ1) (fun C => Z C Γ1) := rfl
theorem u_eIf : eIf τ δa δb Γ R Z = τ Γ fun b Γ1 => if b = true then δa Γ1 R Z else δb Γ1 R Z := rfl
theorem tl_sep : tl (Str.ofString ", ") = [44, 32] := by decide
theorem u_isNx_d {d : D} : dIsNx (.d d) (.d .none) Γ R = R (.d (.bool (decide (tyN d = "NoneType")))) Γ := by
  refine propext ⟨fun h => ?_, fun h => .inl ⟨d, rfl, rfl, h⟩⟩
  rcases h with ⟨d', e, _, h⟩ | ⟨_, _, _, e, _⟩
  · cases e
    exact h
  · cases e
theorem u_isNx_o {j : Nat} : dIsNx (.o j) (.d .none) Γ R = ∃ q C, Γ[j]? = some (some (DCell.own q (.exc q C))) ∧ R (.d (.bool false)) Γ := by
  refine propext ⟨fun h => ?_, fun ⟨q, C, h1, h2⟩ => .inr ⟨j, q, C, rfl, h1, rfl, h2⟩⟩
  rcases h with ⟨d', e, _, h⟩ | ⟨j', q, C, e, h1, _, h2⟩
  · cases e
  · cases e
    exact ⟨q, C, h1, h2⟩
end
end DL

set_option Elab.async false
set_option linter.all false
set_option autoImplicit false
/-! the table with all exchanged letters, not the last ones alone -/
namespace SW
variable {α : Type} [DecidableEq α]
theorem rev_at {a : List α} {i k : Nat} {y : α} (hi : i ≤ a.length) (hk : k < i) (e : a[k]? = some y) : ∃ p, (a.take i).reverse = p ++ y :: (a.take k).reverse ∧ p.length = i - k - 1 := by
  refine ⟨((a.take i).drop (k + 1)).reverse, ?_, by simp; omega⟩
  have h1 : a.take i = (a.take i).take k ++ (a.take i).drop k := (List.take_append_drop k _).symm
  have h2 : (a.take i).take k = a.take k := by rw [List.take_take, Nat.min_eq_left (by omega)]
  have h3 : (a.take i).drop k = y :: (a.take i).drop (k + 1) := by
    have hlt : k < (a.take i).length := by rw [List.length_take]; omega
    rw [List.drop_eq_getElem_cons hlt]
    congr 1
    rw [List.getElem_take]
    exact (List.getElem?_eq_some_iff.mp e).2
  conv => lhs; rw [h1, h2, h3]
  simp
theorem tab_exc {a b : List α} {i j k m : Nat} {x y : α} (hx : a[i]? = some x) (hy : b[j]? = some y) (hk : k < i) (hm : m < j) (ek : a[k]? = some y) (em : b[m]? = some x) : tab a b (i + 1) (j + 1) ≤ tab a b k m + (i - k) + (j - m) - 1 := by
  have hi : i < a.length := (List.getElem?_eq_some_iff.mp hx).1
  have hj : j < b.length := (List.getElem?_eq_some_iff.mp hy).1
  simp only [tab_rev]
  rw [take_rev hx, take_rev hy]
  obtain ⟨p, ep, lp⟩ := rev_at (by omega) hk ek
  obtain ⟨q, eq, lq⟩ := rev_at (by omega) hm em
  rw [ep, eq]
  have := dist_exc_le (x := x) (y := y) (p := p) (q := q) (u := (a.take k).reverse) (v := (b.take m).reverse)
  omega
theorem at_rev {a : List α} {i : Nat} {y : α} {p u : List α} (hi : i ≤ a.length) (h : (a.take i).reverse = p ++ y :: u) : u = (a.take u.length).reverse ∧ u.length < i ∧ a[u.length]? = some y ∧ p.length = i - u.length - 1 := by
  have h1 : a.take i = u.reverse ++ y :: p.reverse := by
    have := congrArg List.reverse h
    simpa using this
  have hl : u.length + p.length + 1 = i := by
    have := congrArg List.length h1
    simp at this
    omega
  have h2 : u.reverse = a.take u.length := by
    have : (a.take i).take u.length = u.reverse := by rw [h1, List.take_append_of_le_length (by rw [List.length_reverse]; exact Nat.le_refl _), List.take_of_length_le (by rw [List.length_reverse]; exact Nat.le_refl _)]
    rw [← this, List.take_take, Nat.min_eq_left (by omega)]
  refine ⟨by rw [← h2, List.reverse_reverse], by omega, ?_, by omega⟩
  have : (a.take i)[u.length]? = some y := by
    rw [h1, List.getElem?_append_right (by simp)]
    simp
  rw [List.getElem?_take] at this
  split at this
  · exact this
  · cases this
noncomputable def base3 (a b : List α) (i j : Nat) (x y : α) : Nat := min (tab a b i j + if x = y then 0 else 1) (min (tab a b i (j + 1) + 1) (tab a b (i + 1) j + 1))
theorem tab_base {a b : List α} {i j : Nat} {x y : α} (hx : a[i]? = some x) (hy : b[j]? = some y) : tab a b (i + 1) (j + 1) ≤ base3 a b i j x y := by
  unfold base3
  simp only [tab_rev]
  rw [take_rev hx, take_rev hy]
  obtain ⟨s1, s2, s3⟩ := dist_step_le (x := x) (y := y) (u := (a.take i).reverse) (v := (b.take j).reverse)
  generalize (if x = y then 0 else 1) = e at *
  omega
theorem tab_cases {a b : List α} {i j : Nat} {x y : α} (hx : a[i]? = some x) (hy : b[j]? = some y) : base3 a b i j x y ≤ tab a b (i + 1) (j + 1) ∨ ∃ k m, k < i ∧ m < j ∧ a[k]? = some y ∧ b[m]? = some x ∧ tab a b (i + 1) (j + 1) = tab a b k m + (i - k) + (j - m) - 1 := by
  have hi : i < a.length := (List.getElem?_eq_some_iff.mp hx).1
  have hj : j < b.length := (List.getElem?_eq_some_iff.mp hy).1
  unfold base3
  simp only [tab_rev]
  rw [take_rev hx, take_rev hy]
  rcases dist_cons_cases (x := x) (y := y) (u := (a.take i).reverse) (v := (b.take j).reverse) with h | h | h | ⟨p, q, u, v, e1, e2, h⟩
  · exact .inl (by omega)
  · exact .inl (by omega)
  · exact .inl (by omega)
  · obtain ⟨a1, a2, a3, a4⟩ := at_rev (by omega) e1
    obtain ⟨b1, b2, b3, b4⟩ := at_rev (by omega) e2
    refine .inr ⟨u.length, v.length, a2, b2, a3, b3, ?_⟩
    rw [h, ← a1, ← b1]
    omega
end SW

set_option Elab.async false
set_option linter.all false
set_option maxRecDepth 100000
set_option maxHeartbeats 4000000
set_option linter.unusedVariables false
set_option autoImplicit true
namespace SWk
open PySem PySem.Spec PyProof.Rows L2 DL
open SW
def Word (w : Wd) : Prop := w.length ≤ 8 ∧ LetAll w
def areL (v : D) (lo hi : Int) : Bool := match v with
  | .str z => decide (lo ≤ (z.cps.toList.length : Int)) && (decide ((z.cps.toList.length : Int) ≤ hi) && z.cps.toList.all isLet)
  | _ => false
theorem areL_T (w : Wd) (lo hi : Int) : areL (.str (T w)) lo hi = (decide (lo ≤ (w.length : Int)) && (decide ((w.length : Int) ≤ hi) && w.all isLet)) := rfl
def F_are_letters : List D → (D → Prop) → Prop := fun ds Q => ∃ v lo hi, ds = [v, .int lo, .int hi] ∧ (∀ z, v = .str z → z.cps.toList.length ≤ 100000) ∧ Q (.bool (areL v lo hi))
theorem mono_are_letters : MonoD F_are_letters := fun ds P P' h ⟨v, lo, hi, e, hz, q⟩ => ⟨v, lo, hi, e, hz, h _ q⟩
def F_check_word : List D → (D → Prop) → Prop := fun ds Q => ∃ w, ds = [sD w] ∧ Word w ∧ Q .none
theorem mono_check_word : MonoD F_check_word := fun ds P P' h ⟨w, e, hw, q⟩ => ⟨w, e, hw, h _ q⟩
def F_check_both : List D → (D → Prop) → Prop := fun ds Q => ∃ a b, ds = [sD a, sD b] ∧ Word a ∧ Word b ∧ Q .none
theorem mono_check_both : MonoD F_check_both := fun ds P P' h ⟨a, b, e, ha, hb, q⟩ => ⟨a, b, e, ha, hb, h _ q⟩
def F_after_slip : List D → (D → Prop) → Prop := fun ds Q => ∃ w, ds = [sD w] ∧ w.length ≤ 1000 ∧ LetAll w ∧ ∀ l, Nx w l → Q (.list (l.map sD))
theorem mono_after_slip : MonoD F_after_slip := fun ds P P' h ⟨w, e, hl, hw, q⟩ => ⟨w, e, hl, hw, fun l hn => h _ (q l hn)⟩
def F_is_slip : List D → (D → Prop) → Prop := fun ds Q => ∃ a b, ds = [sD a, sD b] ∧ a.length ≤ 1000 ∧ b.length ≤ 1000 ∧ LetAll a ∧ ∀ r : Bool, (r = true ↔ Slip L a b) → Q (.bool r)
theorem mono_is_slip : MonoD F_is_slip := fun ds P P' h ⟨a, b, e, h1, h2, h3, q⟩ => ⟨a, b, e, h1, h2, h3, fun r hr => h _ (q r hr)⟩
/-- a dict of texts -/
def encK (ks : List Wd) : List (Key × D) := ks.map fun x => (Sum.inr (T x), PyData.bool true)
theorem encK_put (ks : List Wd) (x : Wd) : putG (encK ks) (Sum.inr (T x) : Key) (PyData.bool true) = encK (addK ks x) := by
  have ha : ((encK ks).any fun kv => decide (kv.1 = (Sum.inr (T x) : Key))) = decide (x ∈ ks) := by
    unfold encK
    induction ks with
    | nil => rfl
    | cons y ks ih =>
      rw [List.map_cons, List.any_cons, ih]
      by_cases e : y = x
      · subst e; simp
      · have n1 : ¬ (Sum.inr (T y) : Key) = Sum.inr (T x) := fun z => e (T_inj.mp (Sum.inr.inj z))
        have n2 : ¬ x = y := fun z => e z.symm
        simp [n1, n2]
  unfold putG
  rw [ha]
  unfold addK
  by_cases hx : x ∈ ks
  · rw [if_pos (decide_eq_true hx), if_pos hx]
    unfold encK
    rw [List.map_map]
    apply List.map_congr_left
    intro y _
    show (if (Sum.inr (T y) : Key) = Sum.inr (T x) then _ else _) = _
    split <;> rfl
  · rw [if_neg (by simp [hx]), if_neg hx]
    unfold encK
    rw [List.map_append]
    rfl
theorem sort_texts (l : List Wd) : sortD (l.map sD) = (srt l).map sD := by
  have e := PySem.W.dataLe_str (β := Wd) (fun w => T w)
  have := PySem.W.sort_maps (r := PySem.W.dataLe false (fun w : Wd => PyData.str (T w))) (s := PySem.W.dataLe false id) (l := l) sD (fun _ _ _ _ => rfl)
  rw [e] at this
  exact this.symm
theorem alike_texts (l : List Wd) : PySem.W.AllAlike (l.map sD) := by
  intro d hd d' hd'
  obtain ⟨a, _, rfl⟩ := List.mem_map.mp hd
  obtain ⟨b, _, rfl⟩ := List.mem_map.mp hd'
  rfl
theorem sortable_texts (l : List Wd) : PySem.W.Sortable (l.map sD) := .inr fun d hd => by
  obtain ⟨a, _, rfl⟩ := List.mem_map.mp hd
  exact ⟨fun e => (nomatch e), fun xs e => (nomatch e)⟩
theorem depth_texts (l : List Wd) : ∀ d ∈ l.map sD, d.depth ≤ 60 := fun d hd => by
  obtain ⟨a, _, rfl⟩ := List.mem_map.mp hd
  show PyData.depth (.str _) ≤ 60
  simp [PyData.depth]

/-! ### drawing -/
def iD (ns : List Int) : List D := ns.map PyData.int
/-- what town holds: a count of at most N, and as many cells as the script -/
def Town (ns : List Int) (N : Nat) (ts : List D) : Prop := ∃ (n : Int) (cs : List Int), ts = PyData.int n :: iD cs ∧ cs.length = ns.length ∧ 0 ≤ n ∧ n ≤ N
theorem Town.mono {ns : List Int} {N N' : Nat} {ts : List D} (h : Town ns N ts) (k : N ≤ N') : Town ns N' ts := let ⟨n, cs, a, b, c, d⟩ := h; ⟨n, cs, a, b, c, by omega⟩
def F__law_town : List D → (List D → Prop) → Prop := fun ds Q => ∃ ns, ds = [.list (iD ns)] ∧ ns.length ≤ 63 ∧ ∀ ts, Town ns 0 ts → Q ts
theorem mono__law_town : MonoN F__law_town := fun ds P P' h ⟨ns, e, hl, q⟩ => ⟨ns, e, hl, fun ts ht => h _ (q ts ht)⟩
def F__law_draw : List D → List D → (D → List D → Prop) → Prop := fun ts ds Q => ∃ ns N lim, ds = [.list (iD ns), .int lim] ∧ ns.length ≤ 63 ∧ Town ns N ts ∧ N ≤ 1000000000 ∧ 0 < lim ∧ lim ≤ 1000000000 ∧ ∀ r ts', 0 ≤ r → r < lim → Town ns (N + 1) ts' → Q (.int r) ts'
theorem mono__law_draw : MonoT F__law_draw := fun ts ds P P' h ⟨ns, N, lim, e, h1, h2, h3, h4, h5, q⟩ => ⟨ns, N, lim, e, h1, h2, h3, h4, h5, fun r ts' a b c => h _ _ (q r ts' a b c)⟩
def F__law_pick : List D → List D → (D → List D → Prop) → Prop := fun ts ds Q => ∃ ns N c cs, ds = [.list (iD ns), c] ∧ (c = .list cs ∨ c = .tuple cs) ∧ ns.length ≤ 63 ∧ Town ns N ts ∧ N ≤ 1000000000 ∧ cs ≠ [] ∧ cs.length ≤ 1000000 ∧ ∀ d ts', d ∈ cs → Town ns (N + 1) ts' → Q d ts'
theorem mono__law_pick : MonoT F__law_pick := fun ts ds P P' h ⟨ns, N, c, cs, e, h0, h1, h2, h3, h4, h5, q⟩ => ⟨ns, N, c, cs, e, h0, h1, h2, h3, h4, h5, fun d ts' a b => h _ _ (q d ts' a b)⟩
def F__law_letters : List D → List D → (D → List D → Prop) → Prop := fun ts ds Q => ∃ ns N m, ds = [.list (iD ns), .int ((m : Nat) : Int)] ∧ m ≤ 1000 ∧ ns.length ≤ 63 ∧ Town ns N ts ∧ N + m ≤ 100000000 ∧ ∀ x ts', x.length = m → LetAll x → Town ns (N + 1 + m) ts' → Q (sD x) ts'
theorem mono__law_letters : MonoT F__law_letters := fun ts ds P P' h ⟨ns, N, m, e, h0, h1, h2, h3, q⟩ => ⟨ns, N, m, e, h0, h1, h2, h3, fun d ts' a b c => h _ _ (q d ts' a b c)⟩
def F__law_typed : List D → List D → (D → List D → Prop) → Prop := fun ts ds Q => ∃ ns N m, ds = [.list (iD ns), .int ((m : Nat) : Int)] ∧ m ≤ 999 ∧ ns.length ≤ 63 ∧ Town ns N ts ∧ N + m ≤ 50000000 ∧ ∀ x ts', x.length ≤ m → LetAll x → Town ns (N + 2 + m) ts' → Q (sD x) ts'
theorem mono__law_typed : MonoT F__law_typed := fun ts ds P P' h ⟨ns, N, m, e, h0, h1, h2, h3, q⟩ => ⟨ns, N, m, e, h0, h1, h2, h3, fun d ts' a b c => h _ _ (q d ts' a b c)⟩
def F__law_slip : List D → List D → (D → List D → Prop) → Prop := fun ts ds Q => ∃ ns N v, ds = [.list (iD ns), sD v] ∧ v.length ≤ 1000 ∧ LetAll v ∧ ns.length ≤ 63 ∧ Town ns N ts ∧ N ≤ 50000000 ∧ ∀ x ts', (x = v ∨ Slip L v x) → Town ns (N + 4) ts' → Q (sD x) ts'
theorem mono__law_slip : MonoT F__law_slip := fun ts ds P P' h ⟨ns, N, v, e, h0, h1, h2, h3, h4, q⟩ => ⟨ns, N, v, e, h0, h1, h2, h3, h4, fun d ts' a b => h _ _ (q d ts' a b)⟩
theorem atI_cons0 {α : Type} {x : α} {l : List α} : atI (x :: l) 0 = some x := atI_nat (j := 0) rfl
theorem shaped_ints (ns : List Int) : SeqAt.shaped (.list (iD ns)) = true := by
  have h1 : ∀ ns : List Int, PyData.canLayAll0 (iD ns) = true := fun ns => by
    induction ns with
    | nil => rfl
    | cons n ns ih => show (PyData.canLay0 (.int n) && PyData.canLayAll0 (iD ns)) = true; rw [ih]; rfl
  have h2 : ∀ ns : List Int, PyData.depthAll (iD ns) ≤ 1 := fun ns => by
    induction ns with
    | nil => simp [iD, PyData.depthAll]
    | cons n ns ih =>
      have e : PyData.depthAll (iD (n :: ns)) = max (PyData.depth (.int n)) (PyData.depthAll (iD ns)) := by simp [iD, PyData.depthAll]
      rw [e]; simp [PyData.depth]; omega
  unfold SeqAt.shaped
  have e1 : PyData.canLay0 (.list (iD ns)) = true := by
    show PyData.canLayAll0 (iD ns) = true
    exact h1 ns
  rw [e1]
  have := h2 ns
  simp [PyData.depth]
  omega
theorem ixN_n {n j : Nat} (hj : j < n) : ixN n (j : Int) = some j := by
  unfold ixN
  rw [if_pos (by omega), if_pos (by omega)]
  rfl
theorem joinW_ones : ∀ x : List Nat, joinW [] (x.map fun c => [c]) = x
  | [] => rfl
  | [_] => rfl
  | a :: b :: r => by
    have := joinW_ones (b :: r)
    show [a] ++ ([] ++ joinW [] ((b :: r).map fun c => [c])) = _
    rw [this]
    rfl
theorem sum_ones : ∀ x : List Nat, ((x.map fun c => [c]).map List.length).sum = x.length
  | [] => rfl
  | a :: r => by
    have := sum_ones r
    simp at this ⊢
    omega

/-! ### the table -/
noncomputable def rowI (a b : Wd) (i : Nat) : List Int := (List.range (b.length + 1)).map fun j => (tab a b i j : Int)
noncomputable def rowsI (a b : Wd) : List (List Int) := (List.range (a.length + 1)).map fun i => rowI a b i
noncomputable def rowsD (a b : Wd) : D := .list ((rowsI a b).map fun r => .list (iD r))
def F_table_for : List D → (D → Prop) → Prop := fun ds Q => ∃ a b, ds = [sD a, sD b] ∧ a.length ≤ 1000 ∧ b.length ≤ 1000 ∧ Q (rowsD a b)
theorem mono_table_for : MonoD F_table_for := fun ds P P' h ⟨a, b, e, h1, h2, q⟩ => ⟨a, b, e, h1, h2, h _ q⟩
/-- what is filled in up to row i, column j -/
def Fil (a b : Wd) (rows : List (List Int)) (i j : Nat) : Prop := ∀ i' j', (i' < i ∧ j' ≤ b.length) ∨ (i' = i ∧ j' < j) → ∃ r, rows[i']? = some r ∧ r[j']? = some (tab a b i' j' : Int)
def Siz (a b : Wd) (rows : List (List Int)) : Prop := rows.length = a.length + 1 ∧ ∀ r ∈ rows, r.length = b.length + 1
theorem Fil.put {a b : Wd} {rows : List (List Int)} {i j : Nat} {r : List Int} (h : Fil a b rows i j) (e : rows[i]? = some r) (hj : j < r.length) : Fil a b (rows.set i (r.set j (tab a b i j : Int))) i (j + 1) := by
  have hi := (List.getElem?_eq_some_iff.mp e).1
  intro i' j' hh
  by_cases hi' : i' = i
  · subst hi'
    refine ⟨_, List.getElem?_set_self hi, ?_⟩
    by_cases hj' : j' = j
    · subst hj'
      exact List.getElem?_set_self hj
    · rw [List.getElem?_set_ne (Ne.symm hj')]
      obtain ⟨r', e1, e2⟩ := h i' j' (.inr ⟨rfl, by omega⟩)
      rw [e] at e1; cases e1
      exact e2
  · rw [List.getElem?_set_ne (Ne.symm hi')]
    exact h i' j' (.inl (by omega))
theorem Siz.put {a b : Wd} {rows : List (List Int)} {i j : Nat} {r : List Int} {x : Int} (h : Siz a b rows) (e : rows[i]? = some r) : Siz a b (rows.set i (r.set j x)) := by
  refine ⟨by rw [List.length_set]; exact h.1, fun r' hr => ?_⟩
  rcases List.mem_or_eq_of_mem_set hr with h1 | h1
  · exact h.2 r' h1
  · rw [h1, List.length_set]; exact h.2 r (List.mem_of_getElem? e)
theorem Fil.all {a b : Wd} {rows : List (List Int)} (h : Fil a b rows (a.length + 1) 0) (s : Siz a b rows) : rows = rowsI a b := by
  apply List.ext_getElem?
  intro i
  unfold rowsI
  by_cases hi : i < a.length + 1
  · rw [List.getElem?_map, List.getElem?_range hi]
    obtain ⟨r, e1, _⟩ := h i 0 (.inl ⟨hi, by omega⟩)
    rw [e1]
    have hl := s.2 r (List.mem_of_getElem? e1)
    show some r = some (rowI a b i)
    congr 1
    apply List.ext_getElem?
    intro j
    unfold rowI
    by_cases hj : j < b.length + 1
    · rw [List.getElem?_map, List.getElem?_range hj]
      obtain ⟨r', e2, e3⟩ := h i j (.inl ⟨hi, by omega⟩)
      rw [e1] at e2; cases e2
      exact e3
    · rw [List.getElem?_eq_none (by omega), List.getElem?_eq_none (by simp; omega)]
  · rw [List.getElem?_eq_none (by have := s.1; omega), List.getElem?_eq_none (by simp; omega)]
/-- the dict of last places -/
def LastD (a : Wd) (i : Nat) (kvs : List (Key × V)) : Prop := kvs.length ≤ i ∧ ∀ c, valV kvs (Sum.inr (T [c]) : Key) = if lastOcc c (a.take (i - 1)) = 0 then none else some (.int (lastOcc c (a.take (i - 1)) : Int))
theorem valV_put (kvs : List (Key × V)) (k k' : Key) (v : V) : valV (putK kvs k v) k' = if k = k' then some v else valV kvs k' := by
  unfold putK valV
  by_cases h : (kvs.any fun kv => decide (kv.1 = k)) = true
  · rw [if_pos h]
    induction kvs with
    | nil => simp at h
    | cons kv r ih =>
      by_cases e : kv.1 = k
      · by_cases e' : k = k'
        · simp [List.find?_cons, e, e']
        · have : ¬ kv.1 = k' := fun z => e' (e.symm.trans z)
          rw [if_neg e']
          simp only [List.map_cons, e, if_true, List.find?_cons, e', decide_false, this]
          clear ih h
          induction r with
          | nil => rfl
          | cons x r ih =>
            by_cases ex : x.1 = k
            · have : ¬ x.1 = k' := fun z => e' (ex.symm.trans z)
              simp only [List.map_cons, ex, if_true, List.find?_cons, e', decide_false, this]
              exact ih
            · simp only [List.map_cons, ex, if_false, List.find?_cons]
              split
              · rfl
              · exact ih
      · have h' : (r.any fun kv => decide (kv.1 = k)) = true := by simpa [e] using h
        simp only [List.map_cons, e, if_false, List.find?_cons]
        split
        · rename_i e2
          have e2 : kv.1 = k' := of_decide_eq_true e2
          have : ¬ k = k' := fun z => e (e2.trans z.symm)
          rw [if_neg this]
        · exact ih h'
  · rw [if_neg h, List.find?_append]
    by_cases e' : k = k'
    · subst e'
      have : kvs.find? (fun kv => decide (kv.1 = k)) = none := by
        rw [List.find?_eq_none]
        intro x hx z
        exact h (List.any_eq_true.mpr ⟨x, hx, z⟩)
      rw [this]; simp
    · rw [if_neg e']
      simp [List.find?_cons, e']
theorem putK_len (kvs : List (Key × V)) (k : Key) (v : V) : (putK kvs k v).length ≤ kvs.length + 1 := by
  unfold putK
  split
  · simp
  · simp
theorem LastD.put {a : Wd} {i : Nat} {kvs : List (Key × V)} {x : Nat} (h : LastD a (i + 1) kvs) (e : a[i]? = some x) : LastD a (i + 2) (putK kvs (Sum.inr (T [x])) (.int ((i + 1 : Nat) : Int))) := by
  refine ⟨Nat.le_trans (putK_len _ _ _) (by have := h.1; omega), fun c => ?_⟩
  rw [valV_put]
  have e1 : a.take (i + 2 - 1) = a.take i ++ [x] := by
    show a.take (i + 1) = _
    rw [List.take_succ, e]; rfl
  have hi := (List.getElem?_eq_some_iff.mp e).1
  rw [e1, lastOcc_snoc]
  by_cases ec : x = c
  · subst ec
    have hl : (a.take i).length = i := by rw [List.length_take]; omega
    rw [if_pos rfl, if_pos rfl, hl, if_neg (by omega)]
  · have : ¬ (Sum.inr (T [x]) : Key) = Sum.inr (T [c]) := fun z => ec (by have := T_inj.mp (Sum.inr.inj z); simpa using this)
    rw [if_neg this, if_neg ec]
    exact h.2 c

theorem dpAll_ints {K : PySem.W.Frag} {H : Hp} : ∀ r : List Int, DpAll K H (r.map V.int) (iD r)
  | [] => .nil
  | x :: r => .cons (.int x) (dpAll_ints r)
theorem dpAll_rows {K : PySem.W.Frag} {H : Hp} : ∀ (qs : List Addr) (rows : List (List Int)), rows.length = qs.length → (∀ (k : Nat) q r, qs[k]? = some q → rows[k]? = some r → Dp K H (.ref q) (.list (iD r))) → DpAll K H (qs.map V.ref) (rows.map fun r => .list (iD r))
  | [], [], _, _ => .nil
  | q :: qs, r :: rows, hl, h => .cons (h 0 q r rfl rfl) (dpAll_rows qs rows (by simpa using hl) fun k q' r' e1 e2 => h (k + 1) q' r' (by simpa using e1) (by simpa using e2))
  | [], _ :: _, hl, _ => by simp at hl
  | _ :: _, [], hl, _ => by simp at hl

/-! ### counting -/
def F_count_slips : List D → (D → Prop) → Prop := fun ds Q => ∃ a b, ds = [sD a, sD b] ∧ a.length ≤ 1000 ∧ b.length ≤ 1000 ∧ Q (.int (dist a b : Int))
theorem mono_count_slips : MonoD F_count_slips := fun ds P P' h ⟨a, b, e, h1, h2, q⟩ => ⟨a, b, e, h1, h2, h _ q⟩
def F_slips : List D → (D → Prop) → Prop := fun ds Q => ∃ a b, ds = [sD a, sD b] ∧ Word a ∧ Word b ∧ Q (.int (dist a b : Int))
theorem mono_slips : MonoD F_slips := fun ds P P' h ⟨a, b, e, h1, h2, q⟩ => ⟨a, b, e, h1, h2, h _ q⟩
def hamD (a b : Wd) : D := if a.length = b.length then .int (ham a b : Int) else .none
def F_changes : List D → (D → Prop) → Prop := fun ds Q => ∃ a b, ds = [sD a, sD b] ∧ Word a ∧ Word b ∧ Q (hamD a b)
theorem mono_changes : MonoD F_changes := fun ds P P' h ⟨a, b, e, h1, h2, q⟩ => ⟨a, b, e, h1, h2, h _ q⟩
def F_without_exchanges : List D → (D → Prop) → Prop := fun ds Q => ∃ a b, ds = [sD a, sD b] ∧ Word a ∧ Word b ∧ Q (.int (lev a b : Int))
theorem mono_without_exchanges : MonoD F_without_exchanges := fun ds P P' h ⟨a, b, e, h1, h2, q⟩ => ⟨a, b, e, h1, h2, h _ q⟩
def F_common_part : List D → (D → Prop) → Prop := fun ds Q => ∃ a b, ds = [sD a, sD b] ∧ Word a ∧ Word b ∧ Q (.int (lcs a b : Int))
theorem mono_common_part : MonoD F_common_part := fun ds P P' h ⟨a, b, e, h1, h2, q⟩ => ⟨a, b, e, h1, h2, h _ q⟩
/-- a plain table: its values V -/
def Plain (a b : Wd) (p : Nat) (V : Nat → Nat → Nat) : Prop := (∀ j, j ≤ b.length → V 0 j = j) ∧ (∀ i, i ≤ a.length → V i 0 = i) ∧ ∀ i j x y, a[i]? = some x → b[j]? = some y → V (i + 1) (j + 1) = min (V i j + if x = y then 0 else p) (min (V i (j + 1) + 1) (V (i + 1) j + 1))
def F__law_plain : List D → (D → Prop) → Prop := fun ds Q => ∃ a b p V, ds = [sD a, sD b, .int ((p : Nat) : Int)] ∧ a.length ≤ 500 ∧ b.length ≤ 500 ∧ Plain a b p V ∧ Q (.int (V a.length b.length : Int))
theorem mono__law_plain : MonoD F__law_plain := fun ds P P' h ⟨a, b, p, V, e, h1, h2, h3, q⟩ => ⟨a, b, p, V, e, h1, h2, h3, h _ q⟩
theorem plain_lev (a b : Wd) : Plain a b 1 (levT a b) := ⟨levT_zero_l a b, levT_zero_r a b, fun i j x y hx hy => by
  rw [levT_step hx hy]
  generalize (if x = y then 0 else 1) = e
  omega⟩
theorem plain_ind (a b : Wd) : Plain a b 2 (indT a b) := ⟨fun j _ => by unfold indT; rw [lcsT_zero_l]; omega, fun i _ => by unfold indT; rw [lcsT_zero_r]; omega, fun i j x y hx hy => indT_step hx hy⟩
theorem atI_last {α : Type} {l : List α} {x : α} {n : Nat} (h : l.length = n + 1) (e : l[n]? = some x) : atI l (-1) = some x := by
  unfold atI ixN
  rw [if_neg (by omega), if_pos (by omega)]
  show l[((-1 : Int) + (l.length : Int)).toNat]? = some x
  rw [show ((-1 : Int) + (l.length : Int)).toNat = n by omega]
  exact e

theorem for_enum {γ : DG} {β : DS} {D₀ : DEnds} {Γ1 : DCtx} (w : List Nat) (W : Nat → DCtx → Prop) (h0 : W 0 Γ1) (hs : ∀ (i : Nat) c Γ2, w[i]? = some c → W i Γ2 → γ (.tuple [.int ((i : Nat) : Int), .str (T [c])]) Γ2 fun Γ3 => β { D₀ with nx := W (i + 1), ct := W (i + 1), bk := D₀.nx } Γ3)
    (hd : ∀ Γ2, W w.length Γ2 → D₀.nx Γ2) : sForB γ β D₀ (enumD (w.map fun c => .str (T [c]))) Γ1 := by
  refine ⟨W, h0, fun i d Γ2 hd w' => ?_, fun Γ2 w' => hd Γ2 (by simpa [enumD] using w')⟩
  unfold enumD at hd
  rw [List.getElem?_mapIdx, List.getElem?_map] at hd
  cases hx : w[i]? with
  | none => rw [hx] at hd; cases hd
  | some c =>
    rw [hx] at hd
    cases hd
    exact hs i c Γ2 hx w'
/-- the first n values of a row -/
def rowN (V : Nat → Nat) (n : Nat) : List D := (List.range n).map fun j => .int ((V j : Nat) : Int)
theorem rowN_at {V : Nat → Nat} {n j : Nat} (h : j < n) : atI (rowN V n) ((j : Nat) : Int) = some (.int ((V j : Nat) : Int)) := by
  refine atI_nat ?_
  unfold rowN
  rw [List.getElem?_map, List.getElem?_range h]
  rfl
theorem rowN_last {V : Nat → Nat} {n : Nat} : atI (rowN V (n + 1)) (-1) = some (.int ((V n : Nat) : Int)) := by
  refine atI_last (n := n) (by simp [rowN]) ?_
  unfold rowN
  rw [List.getElem?_map, List.getElem?_range (by omega)]
  rfl
theorem rowN_succ {V : Nat → Nat} {n : Nat} : rowN V n ++ [.int ((V n : Nat) : Int)] = rowN V (n + 1) := by
  unfold rowN
  rw [List.range_succ, List.map_append]
  rfl
theorem rowN_len {V : Nat → Nat} {n : Nat} : (rowN V n).length = n := by simp [rowN]

/-! ### a table in a dict -/
theorem valG_put {κ α : Type} [DecidableEq κ] (kvs : List (κ × α)) (k k' : κ) (v : α) : valG (putG kvs k v) k' = if k = k' then some v else valG kvs k' := by
  unfold putG valG
  by_cases h : (kvs.any fun kv => decide (kv.1 = k)) = true
  · rw [if_pos h]
    have far : ∀ r : List (κ × α), ¬ k = k' → ((r.map fun kv => if kv.1 = k then (kv.1, v) else kv).find? fun kv => decide (kv.1 = k')).map (·.2) = (r.find? fun kv => decide (kv.1 = k')).map (·.2) := fun r e' => by
      induction r with
      | nil => rfl
      | cons x r ih =>
        by_cases ex : x.1 = k
        · have : ¬ x.1 = k' := fun z => e' (ex.symm.trans z)
          simp only [List.map_cons, ex, if_true, List.find?_cons, e', decide_false, this]
          exact ih
        · simp only [List.map_cons, ex, if_false, List.find?_cons]
          split
          · rfl
          · exact ih
    by_cases e' : k = k'
    · rw [if_pos e']
      subst e'
      clear far
      induction kvs with
      | nil => simp at h
      | cons kv r ih =>
        by_cases e : kv.1 = k
        · simp [List.find?_cons, e]
        · have h' : (r.any fun kv => decide (kv.1 = k)) = true := by simpa [e] using h
          simp only [List.map_cons, e, if_false, List.find?_cons, decide_false]
          exact ih h'
    · rw [if_neg e']; exact far kvs e'
  · rw [if_neg h, List.find?_append]
    by_cases e' : k = k'
    · subst e'
      have : kvs.find? (fun kv => decide (kv.1 = k)) = none := by
        rw [List.find?_eq_none]
        intro x hx z
        exact h (List.any_eq_true.mpr ⟨x, hx, z⟩)
      rw [this]; simp
    · rw [if_neg e']
      simp [List.find?_cons, e']
theorem putG_len {κ α : Type} [DecidableEq κ] (kvs : List (κ × α)) (k : κ) (v : α) : (putG kvs k v).length ≤ kvs.length + 1 := by
  unfold putG
  split
  · simp
  · simp
def kk (i j : Nat) : List Key := [Sum.inl ((i : Nat) : Int), Sum.inl ((j : Nat) : Int)]
theorem kk_inj {i j i' j' : Nat} : kk i j = kk i' j' ↔ i = i' ∧ j = j' := by
  unfold kk
  simp only [List.cons.injEq, Sum.inl.injEq, and_true]
  omega
/-- filled in up to row i, column j; at most c entries -/
def Kt (V : Nat → Nat → Nat) (B : Nat) (kvs : List (List Key × D)) (i j c : Nat) : Prop := (∀ i' j', (i' < i ∧ j' ≤ B) ∨ (i' = i ∧ j' < j) → valG kvs (kk i' j') = some (.int ((V i' j' : Nat) : Int))) ∧ kvs.length ≤ c
theorem Kt.put {V : Nat → Nat → Nat} {B i j c : Nat} {kvs : List (List Key × D)} (h : Kt V B kvs i j c) (d : D) : Kt V B (putG kvs (kk i j) d) i j (c + 1) := by
  refine ⟨fun i' j' hh => ?_, Nat.le_trans (putG_len _ _ _) (by have := h.2; omega)⟩
  rw [valG_put, if_neg (fun z => by have := kk_inj.mp z; omega)]
  exact h.1 i' j' hh
theorem Kt.fill {V : Nat → Nat → Nat} {B i j c : Nat} {kvs : List (List Key × D)} (h : Kt V B kvs i j c) : Kt V B (putG kvs (kk i j) (.int ((V i j : Nat) : Int))) i (j + 1) (c + 1) := by
  refine ⟨fun i' j' hh => ?_, Nat.le_trans (putG_len _ _ _) (by have := h.2; omega)⟩
  rw [valG_put]
  by_cases e : kk i j = kk i' j'
  · obtain ⟨e1, e2⟩ := kk_inj.mp e
    subst e1 e2
    rw [if_pos e]
  · rw [if_neg e]
    refine h.1 i' j' ?_
    have : ¬ (i = i' ∧ j = j') := fun z => e (kk_inj.mpr z)
    omega
theorem Kt.row {V : Nat → Nat → Nat} {B i c : Nat} {kvs : List (List Key × D)} (h : Kt V B kvs i (B + 1) c) : Kt V B kvs (i + 1) 0 c := ⟨fun i' j' hh => h.1 i' j' (by omega), h.2⟩
theorem Kt.mono {V : Nat → Nat → Nat} {B i j c c' : Nat} {kvs : List (List Key × D)} (h : Kt V B kvs i j c) (k : c ≤ c') : Kt V B kvs i j c' := ⟨h.1, Nat.le_trans h.2 k⟩

/-! ### the law -/
def F_law : List D → (D → Prop) → Prop := fun ds Q => ∃ ns, ds = [.list (iD ns)] ∧ ns.length ≤ 63 ∧ Q (.bool true)
theorem mono_law : MonoD F_law := fun ds P P' h ⟨ns, e, h1, q⟩ => ⟨ns, e, h1, h _ q⟩

/-! ### renaming letters -/
def fN (n : Nat) : Nat := if n = 97 then 99 else if n = 98 then 97 else if n = 99 then 100 else if n = 100 then 98 else n
def gN (n : Nat) : Nat := if n = 99 then 97 else if n = 97 then 98 else if n = 100 then 99 else if n = 98 then 100 else n
theorem gfN (n : Nat) : gN (fN n) = n := by
  unfold fN gN
  repeat (first | (split <;> try omega) | omega)
theorem let_cases {k : Nat} (h : L k) : k = 97 ∨ k = 98 ∨ k = 99 ∨ k = 100 := by
  have h : isLet k = true := h
  unfold isLet at h
  simp at h
  omega
theorem fN_let {k : Nat} (h : L k) : L (fN k) := by
  rcases let_cases h with rfl | rfl | rfl | rfl
  · exact (show isLet 99 = true by decide)
  · exact (show isLet 97 = true by decide)
  · exact (show isLet 100 = true by decide)
  · exact (show isLet 98 = true by decide)
theorem names_at {k : Nat} (h : L k) : valG (dispD [([97], [99]), ([98], [97]), ([99], [100]), ([100], [98])]) (Sum.inr (T [k]) : Key) = some (.str (T [fN k])) := by
  rcases let_cases h with rfl | rfl | rfl | rfl <;> rfl
theorem word_of (w : Wd) (h1 : w.length ≤ 8) (h2 : w.all isLet = true) : Word w := ⟨h1, letAll_all.mp h2⟩
theorem txs_ones (x : Wd) : (x.map fun c => (PyData.str (T [c]) : D)) = (x.map fun c => [c]).map sD := by rw [List.map_map]; rfl

/-! ### lists of words -/
def WL (ws : List Wd) : Prop := 1 ≤ ws.length ∧ ws.length ≤ 8 ∧ (∀ w ∈ ws, 1 ≤ w.length ∧ w.length ≤ 6 ∧ LetAll w) ∧ ws.Pairwise (· < ·)
def F_is_between : List D → (D → Prop) → Prop := fun ds Q => ∃ v lo hi : Int, ds = [.int v, .int lo, .int hi] ∧ Q (.bool (decide (lo ≤ v ∧ v ≤ hi)))
theorem mono_is_between : MonoD F_is_between := fun ds P P' h ⟨a, b, c, e, q⟩ => ⟨a, b, c, e, h _ q⟩
def F_check_number : List D → (D → Prop) → Prop := fun ds Q => ∃ v lo hi : Int, ds = [.int v, .int lo, .int hi] ∧ lo ≤ v ∧ v ≤ hi ∧ Q .none
theorem mono_check_number : MonoD F_check_number := fun ds P P' h ⟨a, b, c, e, h1, h2, q⟩ => ⟨a, b, c, e, h1, h2, h _ q⟩
def F_is_list : List D → (D → Prop) → Prop := fun ds Q => ∃ ws, ds = [.tuple (ws.map sD)] ∧ WL ws ∧ Q (.bool true)
theorem mono_is_list : MonoD F_is_list := fun ds P P' h ⟨a, e, h1, q⟩ => ⟨a, e, h1, h _ q⟩
def F_check_list : List D → (D → Prop) → Prop := fun ds Q => ∃ ws, ds = [.tuple (ws.map sD)] ∧ WL ws ∧ Q .none
theorem mono_check_list : MonoD F_check_list := fun ds P P' h ⟨a, e, h1, q⟩ => ⟨a, e, h1, h _ q⟩
def F_check_two : List D → (D → Prop) → Prop := fun ds Q => ∃ ws t, ds = [.tuple (ws.map sD), sD t] ∧ WL ws ∧ Word t ∧ Q .none
theorem mono_check_two : MonoD F_check_two := fun ds P P' h ⟨a, b, e, h1, h2, q⟩ => ⟨a, b, e, h1, h2, h _ q⟩
/-- the fewest slips -/
noncomputable def leastW (ws : List Wd) (t : Wd) : Nat := ((ws.map fun w => dist w t).min?).getD 0
theorem leastW_spec {ws : List Wd} {t : Wd} (h : ws ≠ []) : (∃ w ∈ ws, dist w t = leastW ws t) ∧ ∀ w ∈ ws, leastW ws t ≤ dist w t := by
  unfold leastW
  cases e : (ws.map fun w => dist w t).min? with
  | none =>
    rw [List.min?_eq_none_iff] at e
    exact absurd (List.map_eq_nil_iff.mp e) h
  | some m =>
    rw [List.min?_eq_some_iff] at e
    obtain ⟨h1, h2⟩ := e
    obtain ⟨w, hw, ew⟩ := List.mem_map.mp h1
    exact ⟨⟨w, hw, ew⟩, fun w hw => h2 _ (List.mem_map.mpr ⟨w, hw, rfl⟩)⟩
noncomputable def meantW (ws : List Wd) (t : Wd) : List Wd := ws.filter fun w => decide (dist w t = leastW ws t)
def F_found_meant : List D → (D → Prop) → Prop := fun ds Q => ∃ ws t, ds = [.tuple (ws.map sD), sD t] ∧ ws ≠ [] ∧ ws.length ≤ 1000 ∧ (∀ w ∈ ws, w.length ≤ 1000) ∧ t.length ≤ 1000 ∧ Q (.tuple ((meantW ws t).map sD))
theorem mono_found_meant : MonoD F_found_meant := fun ds P P' h ⟨a, b, e, h1, h2, h3, h4, q⟩ => ⟨a, b, e, h1, h2, h3, h4, h _ q⟩
def F_meant : List D → (D → Prop) → Prop := fun ds Q => ∃ ws t, ds = [.tuple (ws.map sD), sD t] ∧ WL ws ∧ Word t ∧ Q (.tuple ((meantW ws t).map sD))
theorem mono_meant : MonoD F_meant := fun ds P P' h ⟨a, b, e, h1, h2, q⟩ => ⟨a, b, e, h1, h2, h _ q⟩
def F_least_slips : List D → (D → Prop) → Prop := fun ds Q => ∃ ws t, ds = [.tuple (ws.map sD), sD t] ∧ WL ws ∧ Word t ∧ Q (.int (leastW ws t : Int))
theorem mono_least_slips : MonoD F_least_slips := fun ds P P' h ⟨a, b, e, h1, h2, q⟩ => ⟨a, b, e, h1, h2, h _ q⟩
def onlyD : List Wd → D
  | [w] => sD w
  | _ => .none
def F_only_meant : List D → (D → Prop) → Prop := fun ds Q => ∃ ws t, ds = [.tuple (ws.map sD), sD t] ∧ WL ws ∧ Word t ∧ Q (onlyD (meantW ws t))
theorem mono_only_meant : MonoD F_only_meant := fun ds P P' h ⟨a, b, e, h1, h2, q⟩ => ⟨a, b, e, h1, h2, h _ q⟩

/-- drawn lists: at most `many` words of at most `most` letters, ascending -/
def F__law_list : List D → List D → (D → List D → Prop) → Prop := fun ts ds Q => ∃ ns N many most, ds = [.list (iD ns), .int ((many : Nat) : Int), .int ((most : Nat) : Int)] ∧ 1 ≤ many ∧ many ≤ 100 ∧ 1 ≤ most ∧ most ≤ 100 ∧ ns.length ≤ 63 ∧ Town ns N ts ∧ N ≤ 1000000 ∧
  ∀ ws ts', ws ≠ [] → ws.length ≤ many → (∀ w ∈ ws, 1 ≤ w.length ∧ w.length ≤ most ∧ LetAll w) → ws.Pairwise (· < ·) → Town ns (N + 100000) ts' → Q (.tuple (ws.map sD)) ts'
theorem mono__law_list : MonoT F__law_list := fun ts ds P P' h ⟨ns, N, m1, m2, e, h1, h2, h3, h4, h5, h6, h7, q⟩ => ⟨ns, N, m1, m2, e, h1, h2, h3, h4, h5, h6, h7, fun ws ts' a b c d e => h _ _ (q ws ts' a b c d e)⟩
theorem town_plain {ns : List Int} {N : Nat} {ts : List D} (h : Town ns N ts) : ∀ x ∈ ts, plainD x = true := by
  obtain ⟨n, cs, rfl, _, _, _⟩ := h
  intro x hx
  rcases List.mem_cons.mp hx with rfl | hx
  · rfl
  · obtain ⟨c, _, rfl⟩ := List.mem_map.mp hx
    rfl

/-! ### all strings of a size -/
def strsW : Nat → List Wd
  | 0 => [[]]
  | n + 1 => (strsW n).flatMap fun t => [97, 98, 99, 100].map fun c => t ++ [c]
theorem strsW_len : ∀ n, (strsW n).length = 4 ^ n
  | 0 => rfl
  | n + 1 => by
    unfold strsW
    rw [List.length_flatMap]
    simp only [List.length_map, List.length_cons, List.length_nil]
    rw [List.map_const', List.sum_replicate_nat, strsW_len n, Nat.pow_succ]
theorem strsW_mem : ∀ n, ∀ t ∈ strsW n, t.length = n ∧ LetAll t
  | 0, t, h => by
    have : t = [] := by simpa [strsW] using h
    subst this
    exact ⟨rfl, fun c hc => by cases hc⟩
  | n + 1, t, h => by
    unfold strsW at h
    obtain ⟨u, hu, h⟩ := List.mem_flatMap.mp h
    obtain ⟨c, hc, rfl⟩ := List.mem_map.mp h
    obtain ⟨h1, h2⟩ := strsW_mem n u hu
    refine ⟨by simp [h1], fun k hk => ?_⟩
    rcases List.mem_append.mp hk with hk | hk
    · exact h2 k hk
    · rw [List.mem_singleton.mp hk]
      simp only [List.mem_cons, List.not_mem_nil, or_false] at hc
      rcases hc with rfl | rfl | rfl | rfl
      · exact (by decide : isLet 97 = true)
      · exact (by decide : isLet 98 = true)
      · exact (by decide : isLet 99 = true)
      · exact (by decide : isLet 100 = true)
def F_strings_of : List D → (D → Prop) → Prop := fun ds Q => ∃ n : Nat, ds = [.int (n : Int)] ∧ n ≤ 6 ∧ Q (.list ((strsW n).map sD))
theorem mono_strings_of : MonoD F_strings_of := fun ds P P' h ⟨a, e, h1, q⟩ => ⟨a, e, h1, h _ q⟩
/-- where a typed word is counted -/
noncomputable def shareAt (ws : List Wd) (t : Wd) : Nat := match meantW ws t with
  | [w] => ws.idxOf w
  | _ => ws.length
noncomputable def sharesW (ws : List Wd) (ts : List Wd) : List Nat := (List.range (ws.length + 1)).map fun i => (ts.filter fun t => decide (shareAt ws t = i)).length
def F_shares : List D → (D → Prop) → Prop := fun ds Q => ∃ ws, ∃ n : Nat, ds = [.tuple (ws.map sD), .int (n : Int)] ∧ WL ws ∧ n ≤ 4 ∧ Q (.tuple ((sharesW ws (strsW n)).map fun k : Nat => .int (k : Int)))
theorem mono_shares : MonoD F_shares := fun ds P P' h ⟨a, b, e, h1, h2, q⟩ => ⟨a, b, e, h1, h2, h _ q⟩
theorem idx_first {w : Wd} : ∀ {ws : List Wd}, w ∈ ws → ws[ws.idxOf w]? = some w ∧ ∀ m, m < ws.idxOf w → ws[m]? ≠ some w
  | a :: ws, h => by
    by_cases e : a = w
    · subst e
      rw [List.idxOf_cons_self]
      exact ⟨rfl, fun m hm => by omega⟩
    · have hw : w ∈ ws := by
        rcases List.mem_cons.mp h with h | h
        · exact absurd h.symm e
        · exact h
      rw [List.idxOf_cons, show (a == w) = false by simp [e], cond_false]
      obtain ⟨h1, h2⟩ := idx_first hw
      refine ⟨by simpa using h1, fun m hm => ?_⟩
      cases m with
      | zero => simpa using e
      | succ m => simpa using h2 m (by omega)
theorem shareAt_le (ws : List Wd) (t : Wd) : shareAt ws t ≤ ws.length := by
  unfold shareAt
  split
  · exact List.idxOf_le_length
  · exact Nat.le_refl _
def encN (l : List Nat) : List D := l.map fun k : Nat => .int (k : Int)
theorem sharesW_len (ws ts : List Wd) : (sharesW ws ts).length = ws.length + 1 := by simp [sharesW]
theorem sharesW_at {ws ts : List Wd} {i : Nat} (h : i < ws.length + 1) : (sharesW ws ts)[i]? = some (ts.filter fun t => decide (shareAt ws t = i)).length := by
  unfold sharesW
  rw [List.getElem?_map, List.getElem?_range h]
  rfl
theorem sharesW_snoc (ws ts : List Wd) (t : Wd) {x : Nat} (hx : (sharesW ws ts)[shareAt ws t]? = some x) : sharesW ws (ts ++ [t]) = (sharesW ws ts).set (shareAt ws t) (x + 1) := by
  apply List.ext_getElem?
  intro i
  by_cases hi : i < ws.length + 1
  · rw [sharesW_at hi, List.filter_append, List.length_append]
    by_cases e : shareAt ws t = i
    · subst e
      rw [List.getElem?_set_self (by rw [sharesW_len]; exact hi)]
      rw [sharesW_at hi] at hx
      have hx := Option.some.inj hx
      simp [hx]
    · rw [List.getElem?_set_ne e, sharesW_at hi]
      simp [e]
  · rw [List.getElem?_eq_none (by rw [sharesW_len]; omega), List.getElem?_eq_none (by rw [List.length_set, sharesW_len]; omega)]
theorem sharesW_nil (ws : List Wd) : encN (sharesW ws []) = List.replicate (ws.length + 1) (PyData.int 0) := by
  unfold encN sharesW
  rw [List.map_map, List.eq_replicate_iff]
  refine ⟨by simp, fun b hb => ?_⟩
  obtain ⟨i, _, rfl⟩ := List.mem_map.mp hb
  rfl
theorem meantW_ne {ws : List Wd} {t : Wd} (h : ws ≠ []) : meantW ws t ≠ [] := by
  obtain ⟨⟨w, hw, e⟩, _⟩ := leastW_spec (t := t) h
  intro z
  have : w ∈ meantW ws t := List.mem_filter.mpr ⟨hw, decide_eq_true e⟩
  rw [z] at this
  cases this
theorem shareAt_one {ws : List Wd} {t w : Wd} (h : meantW ws t = [w]) : w ∈ ws ∧ shareAt ws t = ws.idxOf w := by
  refine ⟨?_, by unfold shareAt; rw [h]⟩
  have : w ∈ meantW ws t := by rw [h]; simp
  exact (List.mem_filter.mp this).1
theorem shareAt_many {ws : List Wd} {t : Wd} (h : (meantW ws t).length ≠ 1) : shareAt ws t = ws.length := by
  unfold shareAt
  split
  · rename_i w e
    rw [e] at h
    exact absurd rfl h
  · rfl
theorem WL.ne {ws : List Wd} (h : WL ws) : ws ≠ [] := fun e => by subst e; exact absurd h.1 (by simp)
theorem encN_set {l : List Nat} {j x : Nat} : (encN l).set j (PyData.int ((x : Nat) : Int)) = encN (l.set j x) := by
  unfold encN
  rw [List.map_set]
end SWk

set_option Elab.async false
set_option linter.all false
set_option maxRecDepth 100000
set_option maxHeartbeats 4000000
set_option autoImplicit true
namespace SWk
open PySem PySem.Spec PyProof.Rows L2 DL
open SW
/-! ### == of data -/
structure OkD (d : D) (n : Nat) : Prop where
  can : d.canLay0 = true
  dep : d.depth ≤ n
theorem OkD.shaped {d : D} {n : Nat} (h : OkD d n) (hn : n ≤ 64 := by omega) : SeqAt.shaped d = true := by
  unfold SeqAt.shaped
  rw [h.can, decide_eq_true (Nat.le_trans h.dep hn)]
  rfl
theorem okD_none {n : Nat} : OkD .none n := ⟨rfl, by simp [PyData.depth]⟩
theorem okD_int {i : Int} {n : Nat} : OkD (.int i) n := ⟨rfl, by simp [PyData.depth]⟩
theorem okD_bool {b : Bool} {n : Nat} : OkD (.bool b) n := ⟨rfl, by simp [PyData.depth]⟩
theorem okD_strc {w : Wd} {n : Nat} (h : ∀ c ∈ w, c < 0x110000) : OkD (.str (T w)) n := by
  refine ⟨?_, by simp [PyData.depth]⟩
  show PyData.strOk (T w) = true
  unfold PyData.strOk T
  simpa using h
theorem let_lt {c : Nat} (h : L c) : c < 0x110000 := by
  have := L_iff.mp h
  simp only [List.mem_cons, List.not_mem_nil, or_false] at this
  omega
theorem okD_str {w : Wd} {n : Nat} (h : LetAll w) : OkD (.str (T w)) n := okD_strc fun c hc => let_lt (h c hc)
theorem canAll {ds : List D} (h : ∀ d ∈ ds, d.canLay0 = true) : PyData.canLayAll0 ds = true := by
  induction ds with
  | nil => rfl
  | cons d ds ih =>
    show (PyData.canLay0 d && PyData.canLayAll0 ds) = true
    rw [h d (by simp), ih fun x hx => h x (by simp [hx])]
    rfl
theorem depAll {ds : List D} {n : Nat} (h : ∀ d ∈ ds, d.depth ≤ n) : PyData.depthAll ds ≤ n := by
  induction ds with
  | nil => simp [PyData.depthAll]
  | cons d ds ih =>
    have h1 := h d (by simp)
    have h2 := ih fun x hx => h x (by simp [hx])
    simp only [PyData.depthAll]
    omega
theorem okD_tup {ds : List D} {n : Nat} (h : ∀ d ∈ ds, OkD d n) : OkD (.tuple ds) (n + 1) := ⟨by
  show PyData.canLayAll0 ds = true
  exact canAll fun d hd => (h d hd).can, by
  have := depAll fun d hd => (h d hd).dep
  simp only [PyData.depth]; omega⟩
theorem okD_lst {ds : List D} {n : Nat} (h : ∀ d ∈ ds, OkD d n) : OkD (.list ds) (n + 1) := ⟨by
  show PyData.canLayAll0 ds = true
  exact canAll fun d hd => (h d hd).can, by
  have := depAll fun d hd => (h d hd).dep
  simp only [PyData.depth]; omega⟩
theorem OkD.mono {d : D} {n m : Nat} (h : OkD d n) (k : n ≤ m) : OkD d m := ⟨h.can, Nat.le_trans h.dep k⟩
theorem okD_txT {ws : List Wd} (h : ∀ w ∈ ws, LetAll w) : OkD (.tuple (ws.map sD)) 1 := okD_tup fun d hd => by
  obtain ⟨w, hw, rfl⟩ := List.mem_map.mp hd
  exact okD_str (h w hw)
theorem okD_txL {ws : List Wd} (h : ∀ w ∈ ws, LetAll w) : OkD (.list (ws.map sD)) 1 := okD_lst fun d hd => by
  obtain ⟨w, hw, rfl⟩ := List.mem_map.mp hd
  exact okD_str (h w hw)
mutual
theorem eqv_self : ∀ (d : D), d.canLay0 = true → PyData.eqv d d = true
  | .none, _ => rfl
  | .bool b, _ => by simp [PyData.eqv]
  | .int i, _ => by simp [PyData.eqv]
  | .str x, _ => by simp [PyData.eqv]
  | .list ds, h => by simp only [PyData.eqv]; exact eqvAll_self ds h
  | .tuple ds, h => by simp only [PyData.eqv]; exact eqvAll_self ds h
  | .dict _, h => by cases h
theorem eqvAll_self : ∀ (ds : List D), PyData.canLayAll0 ds = true → PyData.eqvAll ds ds = true
  | [], _ => by simp [PyData.eqvAll]
  | d :: ds, h => by
    have h : (PyData.canLay0 d && PyData.canLayAll0 ds) = true := h
    rw [Bool.and_eq_true] at h
    simp only [PyData.eqvAll]
    rw [eqv_self d h.1, eqvAll_self ds h.2]
    rfl
end
theorem OkD.eqv {d : D} {n : Nat} (h : OkD d n) : PyData.eqv d d = true := eqv_self d h.can
theorem eqvAll_txs : ∀ a b : List Wd, PyData.eqvAll (a.map sD) (b.map sD) = decide (a = b)
  | [], [] => by simp [PyData.eqvAll]
  | [], _ :: _ => by simp [PyData.eqvAll]
  | _ :: _, [] => by simp [PyData.eqvAll]
  | x :: a, y :: b => by
    simp only [List.map_cons, PyData.eqvAll, eqvAll_txs a b]
    have : PyData.eqv (sD x) (sD y) = decide (x = y) := by
      unfold sD
      simp only [PyData.eqv]
      by_cases h : x = y
      · subst h; simp
      · rw [decide_eq_false h, beq_eq_false_iff_ne]
        exact fun z => h (T_inj.mp z)
    rw [this]
    by_cases h1 : x = y <;> by_cases h2 : a = b <;> simp [h1, h2]
theorem eqv_txT (a b : List Wd) : PyData.eqv (.tuple (a.map sD)) (.tuple (b.map sD)) = decide (a = b) := by simp only [PyData.eqv]; exact eqvAll_txs a b
theorem eqv_txL (a b : List Wd) : PyData.eqv (.list (a.map sD)) (.list (b.map sD)) = decide (a = b) := by simp only [PyData.eqv]; exact eqvAll_txs a b
theorem eqv_tx0 (a : List Wd) : PyData.eqv (.tuple (a.map sD)) (.tuple []) = decide (a = []) := eqv_txT a []
theorem eqv_txL0 (a : List Wd) : PyData.eqv (.list (a.map sD)) (.list []) = decide (a = []) := eqv_txL a []
theorem eqv_txT1 (a : List Wd) (w : Wd) : PyData.eqv (.tuple (a.map sD)) (.tuple [.str (T w)]) = decide (a = [w]) := eqv_txT a [w]
/-! ### which words are meant -/
theorem asc_nodup {ws : List Wd} (h : ws.Pairwise (· < ·)) : ws.Nodup := h.imp fun hab e => by subst e; exact wlt_irrefl _ hab
theorem leastW_eq {ws : List Wd} {t : Wd} {n : Nat} (h1 : ∃ w ∈ ws, dist w t = n) (h2 : ∀ w ∈ ws, n ≤ dist w t) : leastW ws t = n := by
  obtain ⟨w, hw, e⟩ := h1
  have hne : ws ≠ [] := fun z => by subst z; cases hw
  obtain ⟨⟨w', hw', e'⟩, hl⟩ := leastW_spec (t := t) hne
  have a := hl w hw
  have b := h2 w' hw'
  omega
theorem least_self {ws : List Wd} {w : Wd} (h : w ∈ ws) : leastW ws w = 0 := leastW_eq ⟨w, h, dist_self w⟩ fun _ _ => Nat.zero_le _
theorem meant_self {ws : List Wd} {w : Wd} (h : w ∈ ws) (hn : ws.Nodup) : meantW ws w = [w] := by
  unfold meantW
  rw [least_self h]
  have e : (ws.filter fun v => decide (dist v w = 0)) = ws.filter fun v => v == w := by
    apply List.filter_congr
    intro v _
    by_cases e : v = w
    · subst e; simp [dist_self]
    · have : dist v w ≠ 0 := fun z => e (dist_zero.mp z)
      simp [this, e]
  rw [e, List.filter_beq, hn.count, if_pos h]
  rfl
theorem meant_one (w t : Wd) : meantW [w] t = [w] := by
  have e : leastW [w] t = dist w t := leastW_eq ⟨w, by simp, rfl⟩ (by simp)
  unfold meantW
  rw [e]
  simp
theorem least_none {ws : List Wd} {t : Wd} (h : ws ≠ []) : (ws.filter fun w => decide (dist w t < leastW ws t)) = [] := by
  rw [List.filter_eq_nil_iff]
  intro w hw z
  have := (leastW_spec (t := t) h).2 w hw
  have := of_decide_eq_true z
  omega
theorem least_rest {ws rest : List Wd} {t : Wd} (hs : ∀ w ∈ rest, w ∈ ws) (h : rest ≠ []) : leastW ws t ≤ leastW rest t := by
  obtain ⟨⟨w, hw, e⟩, _⟩ := leastW_spec (t := t) h
  have hne : ws ≠ [] := fun z => by subst z; exact absurd (hs w hw) (by simp)
  rw [← e]
  exact (leastW_spec (t := t) hne).2 w (hs w hw)
def neW (x w : Wd) : Bool := !decide (w = x)
theorem neW_iff {x w : Wd} : neW x w = true ↔ w ≠ x := by unfold neW; simp
/-- without one word -/
theorem meant_rest {ws : List Wd} {t x : Wd} (h : (meantW ws t).filter (neW x) ≠ []) : meantW (ws.filter (neW x)) t = (meantW ws t).filter (neW x) := by
  obtain ⟨v, hv⟩ := List.exists_mem_of_ne_nil _ h
  obtain ⟨hv1, hv2⟩ := List.mem_filter.mp hv
  obtain ⟨hv3, hv4⟩ := List.mem_filter.mp hv1
  have hne : ws ≠ [] := fun z => by subst z; cases hv3
  have hl : leastW (ws.filter (neW x)) t = leastW ws t := leastW_eq ⟨v, List.mem_filter.mpr ⟨hv3, hv2⟩, of_decide_eq_true hv4⟩ fun w hw => (leastW_spec (t := t) hne).2 w (List.mem_filter.mp hw).1
  unfold meantW
  rw [hl, List.filter_filter, List.filter_filter]
  apply List.filter_congr
  intro w _
  exact Bool.and_comm _ _
theorem filter_ne_self {l : List Wd} {x : Wd} (h : x ∉ l) : l.filter (neW x) = l := by
  rw [List.filter_eq_self]
  intro w hw
  exact neW_iff.mpr fun e => h (by rw [← e]; exact hw)
theorem asc_filter {ws : List Wd} (f : Wd → Bool) (h : ws.Pairwise (· < ·)) : (ws.filter f).Pairwise (· < ·) := h.filter f
/-- one word more -/
theorem least_more {ws : List Wd} {t o : Wd} {more : List Wd} (hm : ∀ w, w ∈ more ↔ w ∈ ws ∨ w = o) (h : ws ≠ []) : leastW more t = min (leastW ws t) (dist o t) := by
  obtain ⟨⟨w, hw, e⟩, hl⟩ := leastW_spec (t := t) h
  refine leastW_eq ?_ fun v hv => ?_
  · by_cases hd : leastW ws t ≤ dist o t
    · exact ⟨w, (hm w).mpr (.inl hw), by omega⟩
    · exact ⟨o, (hm o).mpr (.inr rfl), by omega⟩
  · rcases (hm v).mp hv with h1 | rfl
    · have := hl v h1; omega
    · omega
theorem meant_mem {ws : List Wd} {t w : Wd} : w ∈ meantW ws t ↔ w ∈ ws ∧ dist w t = leastW ws t := by
  unfold meantW
  rw [List.mem_filter, decide_eq_true_iff]
theorem meant_asc {ws : List Wd} {t : Wd} (h : ws.Pairwise (· < ·)) : (meantW ws t).Pairwise (· < ·) := asc_filter _ h
theorem meant_more {ws : List Wd} {t o : Wd} {more : List Wd} (hm : ∀ w, w ∈ more ↔ w ∈ ws ∨ w = o) (h : ws ≠ []) (ha : ws.Pairwise (· < ·)) (hb : more.Pairwise (· < ·)) (ho : o ∉ ws) :
    meantW more t = if leastW ws t < dist o t then meantW ws t else if dist o t < leastW ws t then [o] else srt (meantW ws t ++ [o]) := by
  have hl := least_more (t := t) hm h
  have h2 := (leastW_spec (t := t) h).2
  split
  · refine asc_unique (meant_asc hb) (meant_asc ha) fun w => ?_
    rw [meant_mem, meant_mem, hm, hl]
    constructor
    · rintro ⟨h1 | rfl, e⟩
      · exact ⟨h1, by omega⟩
      · omega
    · rintro ⟨h1, e⟩
      exact ⟨.inl h1, by omega⟩
  · split
    · refine asc_unique (meant_asc hb) (by simp) fun w => ?_
      rw [meant_mem, hm, hl, List.mem_singleton]
      constructor
      · rintro ⟨h1 | rfl, e⟩
        · have := h2 w h1; omega
        · rfl
      · rintro rfl
        exact ⟨.inr rfl, by omega⟩
    · refine asc_unique (meant_asc hb) (srt_asc ?_) fun w => ?_
      · rw [List.nodup_append]
        refine ⟨asc_nodup (meant_asc ha), by simp, fun u hu v hv e => ?_⟩
        rw [List.mem_singleton.mp hv] at e
        subst e
        exact ho (meant_mem.mp hu).1
      · rw [meant_mem, srt_mem, List.mem_append, meant_mem, List.mem_singleton, hm, hl]
        constructor
        · rintro ⟨h1 | rfl, e⟩
          · exact .inl ⟨h1, by omega⟩
          · exact .inr rfl
        · rintro (⟨h1, e⟩ | rfl)
          · exact ⟨.inl h1, by omega⟩
          · exact ⟨.inr rfl, by omega⟩
/-! ### shares add up -/
theorem sum_count (n : Nat) (f : Wd → Nat) : ∀ ts : List Wd, (∀ t ∈ ts, f t < n) → ((List.range n).map fun i => (ts.filter fun t => decide (f t = i)).length).sum = ts.length
  | [], _ => by
    have : ((List.range n).map fun i => ((([] : List Wd).filter fun t => decide (f t = i)).length)) = (List.range n).map fun _ => 0 := rfl
    rw [this, List.map_const', List.sum_replicate_nat]
    simp
  | t :: ts, h => by
    have ih := sum_count n f ts fun x hx => h x (by simp [hx])
    have ht := h t (by simp)
    have key : ∀ m, ((List.range m).map fun i => ((t :: ts).filter fun t => decide (f t = i)).length).sum = ((List.range m).map fun i => (ts.filter fun t => decide (f t = i)).length).sum + if f t < m then 1 else 0 := fun m => by
      induction m with
      | zero => simp
      | succ m im =>
        rw [List.range_succ, List.map_append, List.map_append, List.sum_append, List.sum_append, im]
        simp only [List.map_cons, List.map_nil, List.sum_cons, List.sum_nil, List.filter_cons]
        by_cases e : f t = m
        · rw [if_pos (decide_eq_true e), if_neg (by omega), if_pos (by omega), List.length_cons]; omega
        · rw [decide_eq_false e]
          simp only [Bool.false_eq_true, if_false]
          by_cases e2 : f t < m
          · rw [if_pos e2, if_pos (by omega)]; omega
          · rw [if_neg e2, if_neg (by omega)]; omega
    rw [key, ih, if_pos ht, List.length_cons]
theorem shares_sum (ws ts : List Wd) : (sharesW ws ts).sum = ts.length := sum_count _ _ _ fun t _ => by have := shareAt_le ws t; omega
theorem sum_cast : ∀ l : List Nat, (l.map fun k : Nat => (k : Int)).sum = ((l.sum : Nat) : Int)
  | [] => rfl
  | a :: l => by simp only [List.map_cons, List.sum_cons]; rw [sum_cast l]; omega
theorem shares_one (w : Wd) (ts : List Wd) : sharesW [w] ts = [ts.length, 0] := by
  have e : ∀ t, shareAt [w] t = 0 := fun t => by
    unfold shareAt
    rw [meant_one]
    simp
  unfold sharesW
  show [_, _] = _
  simp [e]
theorem WL.asc {ws : List Wd} (h : WL ws) : ws.Pairwise (· < ·) := h.2.2.2
theorem WL.lets {ws : List Wd} (h : WL ws) : ∀ w ∈ ws, LetAll w := fun w hw => (h.2.2.1 w hw).2.2
theorem WL.word {ws : List Wd} (h : WL ws) {w : Wd} (hw : w ∈ ws) : Word w := ⟨by have := (h.2.2.1 w hw).2.1; omega, h.lets w hw⟩
theorem WL.one {ws : List Wd} (h : WL ws) {w : Wd} (hw : w ∈ ws) : WL [w] := ⟨by simp, by simp, by simpa using h.2.2.1 w hw, by simp⟩
theorem WL.filt {ws : List Wd} (h : WL ws) (f : Wd → Bool) (hn : ws.filter f ≠ []) : WL (ws.filter f) := ⟨List.length_pos_iff.mpr hn, Nat.le_trans (List.length_filter_le _ _) h.2.1, fun w hw => h.2.2.1 w (List.mem_filter.mp hw).1, asc_filter f h.asc⟩
theorem WL.more {ws : List Wd} {o : Wd} (h : WL ws) (hl : ws.length ≤ 7) (h1 : 1 ≤ o.length) (h6 : o.length ≤ 6) (hL : LetAll o) (ho : o ∉ ws) : WL (srt (ws ++ [o])) := by
  have hlen : (srt (ws ++ [o])).length = ws.length + 1 := by
    unfold srt
    rw [List.length_mergeSort, List.length_append]; rfl
  refine ⟨by omega, by omega, fun w hw => ?_, srt_asc ?_⟩
  · rcases List.mem_append.mp (srt_mem.mp hw) with h2 | h2
    · exact h.2.2.1 w h2
    · rw [List.mem_singleton.mp h2]; exact ⟨h1, h6, hL⟩
  · rw [List.nodup_append]
    refine ⟨asc_nodup h.asc, by simp, fun u hu v hv e => ?_⟩
    rw [List.mem_singleton.mp hv] at e
    subst e
    exact ho hu
theorem meant_lets {ws : List Wd} {t : Wd} (h : ∀ w ∈ ws, LetAll w) : ∀ w ∈ meantW ws t, LetAll w := fun w hw => h w (meant_mem.mp hw).1
theorem meant_len (ws : List Wd) (t : Wd) : (meantW ws t).length ≤ ws.length := List.length_filter_le _ _
def KTb (K : PySem.W.Frag) : Bool := K.all fun p => match p.2.cls with
  | .type t => !(t == "tuple") || p.2.dict.isNone
  | _ => true
theorem KTb_ok {K : PySem.W.Frag} (h : KTb K = true) : ∀ a o, K.lookup a = some o → o.cls = .type "tuple" → o.dict = none := by
  intro a o e c
  have hm : (a, o) ∈ K := by
    clear h
    induction K with
    | nil => cases e
    | cons p r ih =>
      obtain ⟨b, x⟩ := p
      rw [List.lookup_cons] at e
      by_cases hab : a = b
      · subst hab
        simp at e
        subst e
        simp
      · have : (a == b) = false := by simpa using hab
        rw [this] at e
        exact List.mem_cons_of_mem _ (ih e)
  have := List.all_eq_true.mp h _ hm
  simp only [c] at this
  simpa using this
theorem law_in {K : PySem.W.Frag} {H : Hp} {a : Addr} {ns : List Int} (hK : KTb K = true) (hl : ns.length ≤ 63) (hO : Only H) (hS : SqL K H a (ns.map V.int)) : spD K 1 F_law [.ref a] H (fun v _ => v = .bl true) fun _ _ _ => False :=
  ⟨H, [.list (iD ns)], Same.refl _, ⟨KTb_ok hK, fun b u e => by
    rcases hO b with z | ⟨o, xs, z⟩
    · rw [z] at e; cases e
    · rw [z] at e; cases e; trivial⟩, .cons (Dp.lst hS (dpAll_ints ns)) .nil, rfl, ns, rfl, hl, fun v H' M' _ _ _ _ _ d => dp_bool_inv d⟩
theorem onlyD_one (w : Wd) : onlyD [w] = sD w := rfl
end SWk

set_option Elab.async false
set_option linter.all false
set_option maxRecDepth 100000
set_option maxHeartbeats 4000000
set_option autoImplicit true
namespace SWk
open PySem PySem.Spec PyProof.Rows L2 DL
open SW
theorem only_skip {ms : List Wd} {A B : Prop} (hl : ∀ w ∈ ms, LetAll w) (h : B) : (if decide (((ms.map sD).length : Int) = 1) = true then ∃ d, atI (ms.map sD) 0 = some d ∧ SeqAt.shaped (onlyD ms) = true ∧ SeqAt.shaped d = true ∧ (if (!PyData.eqv (onlyD ms) d) = true then A else B) else SeqAt.shaped (onlyD ms) = true ∧ SeqAt.shaped .none = true ∧ (if (!PyData.eqv (onlyD ms) .none) = true then A else B)) := by
  match ms, hl with
  | [], _ => exact ⟨by decide, by decide, h⟩
  | [w], hl =>
    have ok2 : OkD (.str (T w)) 0 := okD_str (hl w (by simp))
    refine ite2 (fun _ => ⟨sD w, atI_nat (j := 0) rfl, ok2.shaped, ok2.shaped, ?_⟩) fun z => absurd (by rfl) z
    rw [show PyData.eqv (onlyD [w]) (sD w) = true from ok2.eqv]
    exact h
  | u :: v :: r, _ =>
    refine ite2 (fun z => ?_) fun _ => ⟨(okD_none (n := 0)).shaped, (okD_none (n := 0)).shaped, h⟩
    have := of_decide_eq_true z
    simp at this
    omega
theorem okTup0 : OkD (.tuple []) 1 := okD_tup (by simp)
theorem okLst0 : OkD (.list []) 1 := okD_lst (by simp)

/-! ### the known table -/
def F__law_table : List D → (D → Prop) → Prop := fun ds Q => ∃ a b, ds = [sD a, sD b] ∧ a.length ≤ 500 ∧ b.length ≤ 500 ∧ Q (.int (dist a b : Int))
theorem mono__law_table : MonoD F__law_table := fun ds P P' h ⟨a, b, e, h1, h2, q⟩ => ⟨a, b, e, h1, h2, h _ q⟩
/-- what is known of best while letters between exchanged ones are looked for: rows below n, and in row n columns below r -/
def Best (a b : Wd) (i j : Nat) (x y : Nat) (n r v : Nat) : Prop := tab a b (i + 1) (j + 1) ≤ v ∧ v ≤ base3 a b i j x y ∧ ∀ k m, k < i → m < j → (k < n ∨ (k = n ∧ m < r)) → a[k]? = some y → b[m]? = some x → v ≤ tab a b k m + (i - k) + (j - m) - 1
theorem Best.start {a b : Wd} {i j x y : Nat} (hx : a[i]? = some x) (hy : b[j]? = some y) : Best a b i j x y 0 0 (base3 a b i j x y) := ⟨tab_base hx hy, Nat.le_refl _, fun k m _ _ h => by omega⟩
theorem Best.row {a b : Wd} {i j x y n v : Nat} (h : Best a b i j x y n j v) : Best a b i j x y (n + 1) 0 v := ⟨h.1, h.2.1, fun k m hk hm hh e1 e2 => h.2.2 k m hk hm (by omega) e1 e2⟩
theorem Best.skip {a b : Wd} {i j x y n r v : Nat} (h : Best a b i j x y n r v) (hn : ¬ (a[n]? = some y ∧ b[r]? = some x)) : Best a b i j x y n (r + 1) v := ⟨h.1, h.2.1, fun k m hk hm hh e1 e2 => by
  by_cases e : k = n ∧ m = r
  · obtain ⟨rfl, rfl⟩ := e
    exact absurd ⟨e1, e2⟩ hn
  · exact h.2.2 k m hk hm (by omega) e1 e2⟩
theorem Best.take {a b : Wd} {i j x y n r v : Nat} (hx : a[i]? = some x) (hy : b[j]? = some y) (h : Best a b i j x y n r v) (hn : n < i) (hr : r < j) (e1 : a[n]? = some y) (e2 : b[r]? = some x) : Best a b i j x y n (r + 1) (min v (tab a b n r + (i - n) + (j - r) - 1)) := by
  have ht := tab_exc hx hy hn hr e1 e2
  refine ⟨by have := h.1; omega, by have := h.2.1; omega, fun k m hk hm hh f1 f2 => ?_⟩
  by_cases e : k = n ∧ m = r
  · obtain ⟨rfl, rfl⟩ := e
    omega
  · have := h.2.2 k m hk hm (by omega) f1 f2
    omega
theorem Best.fin {a b : Wd} {i j x y v : Nat} (hx : a[i]? = some x) (hy : b[j]? = some y) (h : Best a b i j x y i 0 v) : v = tab a b (i + 1) (j + 1) := by
  rcases tab_cases hx hy with h1 | ⟨k, m, hk, hm, e1, e2, h1⟩
  · have := h.1; have := h.2.1; omega
  · have := h.2.2 k m hk hm (by omega) e1 e2
    have := h.1
    omega
def F__law_meant : List D → (D → Prop) → Prop := fun ds Q => ∃ ws t, ds = [.tuple (ws.map sD), sD t] ∧ ws ≠ [] ∧ ws.length ≤ 100 ∧ (∀ w ∈ ws, w.length ≤ 100) ∧ t.length ≤ 100 ∧ Q (.tuple ((meantW ws t).map sD))
theorem mono__law_meant : MonoD F__law_meant := fun ds P P' h ⟨a, b, e, h1, h2, h3, h4, q⟩ => ⟨a, b, e, h1, h2, h3, h4, h _ q⟩
/-! ### doubtful words -/
noncomputable def doubtW (ws : List Wd) (n : Nat) : List Wd := (strsW n).filter fun t => decide (1 < (meantW ws t).length)
def F_found_doubtful : List D → (D → Prop) → Prop := fun ds Q => ∃ ws, ∃ n : Nat, ds = [.tuple (ws.map sD), .int (n : Int)] ∧ WL ws ∧ n ≤ 4 ∧ Q (.list ((doubtW ws n).map sD))
theorem mono_found_doubtful : MonoD F_found_doubtful := fun ds P P' h ⟨a, b, e, h1, h2, q⟩ => ⟨a, b, e, h1, h2, h _ q⟩
def F_doubtful : List D → (D → Prop) → Prop := fun ds Q => ∃ ws, ∃ n : Nat, ds = [.tuple (ws.map sD), .int (n : Int)] ∧ WL ws ∧ n ≤ 4 ∧ Q (.tuple ((doubtW ws n).map sD))
theorem mono_doubtful : MonoD F_doubtful := fun ds P P' h ⟨a, b, e, h1, h2, q⟩ => ⟨a, b, e, h1, h2, h _ q⟩
def headD : List Wd → D
  | [] => .none
  | w :: _ => sD w
/-- the doubtful words of at most n letters, the shorter ones first -/
noncomputable def doubtTo (ws : List Wd) (n : Nat) : List Wd := (List.range (n + 1)).flatMap (doubtW ws)
def F_first_doubtful : List D → (D → Prop) → Prop := fun ds Q => ∃ ws, ∃ n : Nat, ds = [.tuple (ws.map sD), .int (n : Int)] ∧ WL ws ∧ n ≤ 4 ∧ Q (headD (doubtTo ws n))
theorem mono_first_doubtful : MonoD F_first_doubtful := fun ds P P' h ⟨a, b, e, h1, h2, q⟩ => ⟨a, b, e, h1, h2, h _ q⟩
theorem doubtTo_succ (ws : List Wd) (n : Nat) : doubtTo ws (n + 1) = doubtTo ws n ++ doubtW ws (n + 1) := by
  unfold doubtTo
  rw [List.range_succ, List.flatMap_append]
  simp
theorem slip1 {v x : Wd} (h : x = v ∨ Slip L v x) (hl : LetAll v) : LetAll x ∧ x.length ≤ v.length + 1 := by
  rcases h with rfl | h
  · exact ⟨hl, by omega⟩
  · exact ⟨h.letters hl, by have := h.len; omega⟩
theorem zero_mem {ws : List Wd} {t : Wd} (h : ws ≠ []) : leastW ws t = 0 ↔ t ∈ ws := by
  constructor
  · intro e
    obtain ⟨⟨w, hw, ew⟩, _⟩ := leastW_spec (t := t) h
    rw [e] at ew
    rw [← dist_zero.mp ew]; exact hw
  · exact least_self
theorem doubtW_lets (ws : List Wd) (n : Nat) : ∀ t ∈ doubtW ws n, LetAll t := fun t ht => (strsW_mem n t (List.mem_filter.mp ht).1).2
theorem headD_ok {l : List Wd} (h : ∀ t ∈ l, LetAll t) : OkD (headD l) 0 := by
  cases l with
  | nil => exact okD_none
  | cons a l => exact okD_str (h a (by simp))
/-- each with one letter more -/
def nextW (l : List Wd) : List Wd := l.flatMap fun t => [97, 98, 99, 100].map fun c => t ++ [c]
theorem nextW_strs (n : Nat) : nextW (strsW n) = strsW (n + 1) := rfl
theorem nextW_snoc (l : List Wd) (t : Wd) : nextW (l ++ [t]) = nextW l ++ [97, 98, 99, 100].map fun c => t ++ [c] := by
  unfold nextW
  rw [List.flatMap_append, List.flatMap_cons, List.flatMap_nil, List.append_nil]
theorem nextW_len (l : List Wd) : (nextW l).length = 4 * l.length := by
  induction l with
  | nil => rfl
  | cons a l ih =>
    have : nextW (a :: l) = ([97, 98, 99, 100].map fun c => a ++ [c]) ++ nextW l := by unfold nextW; rw [List.flatMap_cons]
    rw [this, List.length_append, ih]
    simp only [List.length_map, List.length_cons, List.length_nil]
    omega
theorem first_at {ws : List Wd} {n i j : Nat} {t : Wd} (hi : i ≤ n) (h1 : (List.range i).flatMap (doubtW ws) = []) (h2 : ((strsW i).take j).filter (fun t => decide (1 < (meantW ws t).length)) = []) (ht : (strsW i)[j]? = some t) (hd : 1 < (meantW ws t).length) : headD (doubtTo ws n) = sD t := by
  obtain ⟨k, rfl⟩ : ∃ k, n = i + k := ⟨n - i, by omega⟩
  have e : doubtW ws i = t :: ((strsW i).drop (j + 1)).filter (fun t => decide (1 < (meantW ws t).length)) := by
    unfold doubtW
    conv => lhs; rw [← List.take_append_drop j (strsW i)]
    rw [List.filter_append, h2, List.nil_append]
    have hj := (List.getElem?_eq_some_iff.mp ht).1
    rw [List.drop_eq_getElem_cons hj, (List.getElem?_eq_some_iff.mp ht).2, List.filter_cons, if_pos (decide_eq_true hd)]
  unfold doubtTo
  rw [show i + k + 1 = i + (k + 1) by omega, List.range_add, List.flatMap_append, h1, List.nil_append, List.range_succ_eq_map, List.map_cons, List.flatMap_cons, Nat.add_zero, e]
  rfl
end SWk

set_option Elab.async false
set_option linter.all false
set_option maxRecDepth 100000
set_option maxHeartbeats 4000000
set_option autoImplicit true
namespace SWk
open PySem PySem.Spec PyProof.Rows L2 DL
open SW
/-! ### things that are ordered as their data are -/
structure DOrd (α : Type) where
  enc : α → D
  lt : α → α → Bool
  eq : ∀ a b, PyData.eqv (enc a) (enc b) = true ↔ a = b
  ord : ∀ a b, PySem.W.dataLt (enc a) (enc b) = lt a b
  alike : ∀ a b, PySem.W.alike (enc a) (enc b) = true
  irr : ∀ a, lt a a = false
  tri : ∀ a b, lt a b = false → lt b a = false → a = b
  trans : ∀ a b c, lt a b = true → lt b c = true → lt a c = true
namespace DOrd
variable {α β γ : Type}
def leastOf (O : DOrd α) (a : α) (l : List α) : α := l.foldl (fun x y => if O.lt y x = true then y else x) a
theorem minD_enc (O : DOrd α) : ∀ (l : List α) (a : α), PySem.W.minD (O.enc a) (l.map O.enc) = O.enc (O.leastOf a l)
  | [], _ => rfl
  | y :: l, a => by
    show PySem.W.minD (if PySem.W.dataLt (O.enc y) (O.enc a) = true then O.enc y else O.enc a) (l.map O.enc) = O.enc (O.leastOf (if O.lt y a = true then y else a) l)
    rw [O.ord]
    split
    · exact minD_enc O l y
    · exact minD_enc O l a
theorem not_lt_trans (O : DOrd α) {a b c : α} (h1 : O.lt b a = false) (h2 : O.lt c b = false) : O.lt c a = false := by
  cases e : O.lt c a with
  | false => rfl
  | true =>
    exfalso
    cases e1 : O.lt a b with
    | true => exact absurd (O.trans _ _ _ e e1) (by rw [h2]; decide)
    | false =>
      have := O.tri a b e1 h1
      subst this
      rw [h2] at e; cases e
theorem leastOf_spec (O : DOrd α) : ∀ (l : List α) (a : α), O.leastOf a l ∈ a :: l ∧ ∀ x ∈ a :: l, O.lt x (O.leastOf a l) = false
  | [], a => ⟨by simp [leastOf], fun x hx => by
    have : x = a := by simpa using hx
    subst this
    exact O.irr x⟩
  | y :: l, a => by
    show O.leastOf (if O.lt y a = true then y else a) l ∈ _ ∧ ∀ x ∈ a :: y :: l, O.lt x (O.leastOf (if O.lt y a = true then y else a) l) = false
    by_cases h : O.lt y a = true
    · rw [if_pos h]
      obtain ⟨h1, h2⟩ := leastOf_spec O l y
      refine ⟨List.mem_cons_of_mem _ h1, fun x hx => ?_⟩
      rcases List.mem_cons.mp hx with rfl | hx
      · have hay : O.lt x y = false := by
          cases e : O.lt x y with
          | false => rfl
          | true => exact absurd (O.trans _ _ _ h e) (by rw [O.irr]; decide)
        exact O.not_lt_trans (h2 y (by simp)) hay
      · exact h2 x hx
    · rw [if_neg h]
      obtain ⟨h1, h2⟩ := leastOf_spec O l a
      refine ⟨?_, fun x hx => ?_⟩
      · rcases List.mem_cons.mp h1 with e | e
        · rw [e]; simp
        · simp [e]
      · rcases List.mem_cons.mp hx with rfl | hx
        · exact h2 x (by simp)
        · rcases List.mem_cons.mp hx with rfl | hx
          · exact O.not_lt_trans (h2 a (by simp)) (by simpa using h)
          · exact h2 x (by simp [hx])
def le (O : DOrd α) (a b : α) : Bool := !O.lt b a
def sort (O : DOrd α) (l : List α) : List α := l.mergeSort O.le
theorem sortD_enc (O : DOrd α) (l : List α) : sortD (l.map O.enc) = (O.sort l).map O.enc := by
  have := PySem.W.sort_maps (r := PySem.W.dataLe false O.enc) (s := PySem.W.dataLe false id) (l := l) O.enc (fun _ _ _ _ => rfl)
  rw [show PySem.W.dataLe false O.enc = O.le by
    funext a b
    show (!PySem.W.dataLt (O.enc b) (O.enc a)) = _
    rw [O.ord]; rfl] at this
  exact this.symm
theorem le_trans (O : DOrd α) (a b c : α) (h : O.le a b = true) (k : O.le b c = true) : O.le a c = true := by
  unfold le at *
  have h : O.lt b a = false := by simpa using h
  have k : O.lt c b = false := by simpa using k
  rw [O.not_lt_trans h k]; rfl
theorem le_total (O : DOrd α) (a b : α) : (O.le a b || O.le b a) = true := by
  unfold le
  cases e : O.lt b a with
  | false => rfl
  | true =>
    cases e2 : O.lt a b with
    | false => rfl
    | true => exact absurd (O.trans _ _ _ e e2) (by rw [O.irr]; decide)
theorem sort_pair (O : DOrd α) (l : List α) : (O.sort l).Pairwise fun a b => O.lt b a = false := by
  have := List.pairwise_mergeSort (le := O.le) O.le_trans O.le_total l
  exact this.imp fun h => by unfold le at h; simpa using h
theorem sort_mem (O : DOrd α) {l : List α} {x : α} : x ∈ O.sort l ↔ x ∈ l := List.mem_mergeSort
theorem sort_len (O : DOrd α) (l : List α) : (O.sort l).length = l.length := List.length_mergeSort ..
theorem sort_head (O : DOrd α) {l r : List α} {m : α} (h : O.sort l = m :: r) : m ∈ l ∧ ∀ x ∈ l, O.lt x m = false := by
  refine ⟨O.sort_mem.mp (by rw [h]; simp), fun x hx => ?_⟩
  have hx := O.sort_mem.mpr hx
  have hp := O.sort_pair l
  rw [h] at hx hp
  rcases List.mem_cons.mp hx with rfl | hx
  · exact O.irr x
  · exact (List.pairwise_cons.mp hp).1 x hx
theorem least_uniq (O : DOrd α) {l : List α} {a b : α} (ha : a ∈ l) (hb : b ∈ l) (h1 : ∀ x ∈ l, O.lt x a = false) (h2 : ∀ x ∈ l, O.lt x b = false) : a = b := O.tri a b (h2 a ha) (h1 b hb)
theorem allAlike (O : DOrd α) (l : List α) : PySem.W.AllAlike (l.map O.enc) := PySem.W.AllAlike.of O.alike
/-- an ascending list is its own sort -/
theorem sort_uniq (O : DOrd α) : ∀ {l m : List α}, l.Pairwise (fun a b => O.lt a b = true) → m.Pairwise (fun a b => O.lt a b = true) → (∀ x, x ∈ l ↔ x ∈ m) → l = m
  | [], [], _, _, _ => rfl
  | [], y :: _, _, _, h => absurd ((h y).mpr (by simp)) (by simp)
  | x :: _, [], _, _, h => absurd ((h x).mp (by simp)) (by simp)
  | x :: l, y :: m, hl, hm, h => by
    have hl' := List.pairwise_cons.mp hl
    have hm' := List.pairwise_cons.mp hm
    have exy : x = y := by
      rcases List.mem_cons.mp ((h x).mp (by simp)) with e | e
      · exact e
      · rcases List.mem_cons.mp ((h y).mpr (by simp)) with e' | e'
        · exact e'.symm
        · exact absurd (O.trans _ _ _ (hm'.1 x e) (hl'.1 y e')) (by rw [O.irr]; decide)
    subst exy
    congr 1
    refine sort_uniq O hl'.2 hm'.2 fun z => ?_
    constructor
    · intro hz
      rcases List.mem_cons.mp ((h z).mp (by simp [hz])) with e | e
      · subst e; exact absurd (hl'.1 z hz) (by rw [O.irr]; decide)
      · exact e
    · intro hz
      rcases List.mem_cons.mp ((h z).mpr (by simp [hz])) with e | e
      · subst e; exact absurd (hm'.1 z hz) (by rw [O.irr]; decide)
      · exact e
theorem sort_asc (O : DOrd α) {l : List α} (h : l.Nodup) : (O.sort l).Pairwise fun a b => O.lt a b = true := by
  have hp := O.sort_pair l
  have hn : (O.sort l).Nodup := (List.mergeSort_perm l O.le).nodup_iff.mpr h
  have := hp.and hn
  refine this.imp fun {a b} ⟨h1, h2⟩ => ?_
  cases e : O.lt a b with
  | true => rfl
  | false => exact absurd (O.tri a b e h1) h2
/-! numbers, words, pairs, triples -/
def nat : DOrd Nat where
  enc n := .int (n : Int)
  lt a b := decide (a < b)
  eq a b := by simp only [PyData.eqv, beq_iff_eq]; omega
  ord a b := by
    show PySem.W.dataLt (.int _) (.int _) = _
    rw [PySem.W.dataLt_int]
    by_cases h : a < b
    · rw [decide_eq_true h, decide_eq_true (by omega)]
    · rw [decide_eq_false h, decide_eq_false (by omega)]
  alike a b := by simp [PySem.W.alike]
  irr a := by simp
  tri a b h1 h2 := by simp at h1 h2; omega
  trans a b c h1 h2 := by simp at h1 h2 ⊢; omega
theorem wlt_total {a b : Wd} (h1 : ¬ a < b) (h2 : ¬ b < a) : a = b := List.le_antisymm h2 h1
theorem eqv_sD (x y : Wd) : PyData.eqv (sD x) (sD y) = true ↔ x = y := by
  unfold sD
  simp only [PyData.eqv, beq_iff_eq]
  exact T_inj
def wd : DOrd Wd where
  enc w := sD w
  lt a b := decide (a < b)
  eq := eqv_sD
  ord a b := by
    show PySem.W.dataLt (.str _) (.str _) = _
    rw [PySem.W.dataLt_str]
    show decide (a < b) = _
    rfl
  alike a b := by simp [PySem.W.alike, sD]
  irr a := by simp [wlt_irrefl]
  tri a b h1 h2 := by simp only [decide_eq_false_iff_not] at h1 h2; exact wlt_total h1 h2
  trans a b c h1 h2 := by simp only [decide_eq_true_eq] at h1 h2 ⊢; exact wlt_trans h1 h2
def ltP (A : DOrd α) (f : Bool) (a b : α) (r : Bool) : Bool := if PyData.eqv (A.enc a) (A.enc b) = true then r else A.lt a b
def pair (A : DOrd α) (B : DOrd β) : DOrd (α × β) where
  enc p := .tuple [A.enc p.1, B.enc p.2]
  lt p q := A.lt p.1 q.1 || (PyData.eqv (A.enc p.1) (A.enc q.1) && B.lt p.2 q.2)
  eq p q := by
    simp only [PyData.eqv, PyData.eqvAll, Bool.and_eq_true, and_true]
    rw [A.eq, B.eq]
    exact ⟨fun ⟨h1, h2⟩ => Prod.ext h1 h2, fun h => by subst h; exact ⟨rfl, rfl⟩⟩
  ord p q := by
    rw [PySem.W.dataLt_pair (A.alike _ _) (B.alike _ _), A.ord, B.ord]
    by_cases h : PyData.eqv (A.enc p.1) (A.enc q.1) = true
    · rw [if_pos h, h]
      have e := (A.eq _ _).mp h
      rw [e, A.irr]
      by_cases h2 : PyData.eqv (B.enc p.2) (B.enc q.2) = true
      · rw [if_pos h2]
        have e2 := (B.eq _ _).mp h2
        rw [e2, B.irr]; rfl
      · rw [if_neg h2]; simp
    · rw [if_neg h, show PyData.eqv (A.enc p.1) (A.enc q.1) = false by simpa using h]
      simp
  alike p q := by simp [PySem.W.alike, PySem.W.alikeAll, A.alike, B.alike]
  irr p := by rw [A.irr, B.irr]; simp
  tri p q h1 h2 := by
    simp only [Bool.or_eq_false_iff, Bool.and_eq_false_iff] at h1 h2
    have e := A.tri _ _ h1.1 h2.1
    have he : PyData.eqv (A.enc p.1) (A.enc q.1) = true := (A.eq _ _).mpr e
    have he2 : PyData.eqv (A.enc q.1) (A.enc p.1) = true := (A.eq _ _).mpr e.symm
    rw [he] at h1; rw [he2] at h2
    refine Prod.ext e (B.tri _ _ ?_ ?_)
    · rcases h1.2 with h | h
      · cases h
      · exact h
    · rcases h2.2 with h | h
      · cases h
      · exact h
  trans p q r h1 h2 := by
    simp only [Bool.or_eq_true, Bool.and_eq_true] at h1 h2 ⊢
    rcases h1 with h1 | ⟨e1, h1⟩
    · rcases h2 with h2 | ⟨e2, h2⟩
      · exact .inl (A.trans _ _ _ h1 h2)
      · rw [(A.eq _ _).mp e2] at h1; exact .inl h1
    · have e1 := (A.eq _ _).mp e1
      rcases h2 with h2 | ⟨e2, h2⟩
      · rw [← e1] at h2; exact .inl h2
      · have e2 := (A.eq _ _).mp e2
        exact .inr ⟨(A.eq _ _).mpr (e1.trans e2), B.trans _ _ _ h1 h2⟩
def triple (A : DOrd α) (B : DOrd β) (C : DOrd γ) : DOrd (α × β × γ) where
  enc p := .tuple [A.enc p.1, B.enc p.2.1, C.enc p.2.2]
  lt p q := (pair A (pair B C)).lt p q
  eq p q := by
    simp only [PyData.eqv, PyData.eqvAll, Bool.and_eq_true, and_true]
    rw [A.eq, B.eq, C.eq]
    exact ⟨fun ⟨h1, h2, h3⟩ => Prod.ext h1 (Prod.ext h2 h3), fun h => by subst h; exact ⟨rfl, rfl, rfl⟩⟩
  ord p q := by
    rw [← (pair A (pair B C)).ord]
    show PySem.W.dataLt (.tuple _) (.tuple _) = PySem.W.dataLt (.tuple [A.enc p.1, .tuple [B.enc p.2.1, C.enc p.2.2]]) (.tuple [A.enc q.1, .tuple [B.enc q.2.1, C.enc q.2.2]])
    rw [PySem.W.dataLt_tuple, PySem.W.dataLt_tuple, PySem.W.dataLt_cons (A.alike _ _), PySem.W.dataLt_cons (A.alike _ _)]
    split
    · rw [PySem.W.dataLt_cons (x := .tuple [B.enc p.2.1, C.enc p.2.2]) (by simp [PySem.W.alike, PySem.W.alikeAll, B.alike, C.alike])]
      have e0 : PyProof.Rows.lexLt itemOrd (PySem.W.keyToksAll []) (PySem.W.keyToksAll []) = false := lex_irrefl _
      rw [e0]
      split
      · rename_i h
        have e := ((pair B C).eq p.2 q.2).mp h
        rw [e]
        exact lex_irrefl _
      · rw [PySem.W.dataLt_tuple]
    · rfl
  alike p q := by simp [PySem.W.alike, PySem.W.alikeAll, A.alike, B.alike, C.alike]
  irr p := (pair A (pair B C)).irr p
  tri p q := (pair A (pair B C)).tri p q
  trans p q r := (pair A (pair B C)).trans p q r
end DOrd
end SWk

set_option Elab.async false
set_option linter.all false
set_option maxRecDepth 100000
set_option maxHeartbeats 4000000
set_option autoImplicit true
namespace SWk
open PySem PySem.Spec PyProof.Rows L2 DL
open SW
/-! ### pairs of words -/
abbrev P3 := Nat × Wd × Wd
def O3 : DOrd P3 := .triple .nat .wd .wd
theorem O3_enc (p : P3) : O3.enc p = .tuple [.int (p.1 : Int), sD p.2.1, sD p.2.2] := rfl
noncomputable def pairsL : List Wd → List P3
  | [] => []
  | w :: r => (r.map fun v => (dist w v, w, v)) ++ pairsL r
theorem pairsL_len : ∀ ws : List Wd, (pairsL ws).length ≤ ws.length * ws.length
  | [] => by simp [pairsL]
  | w :: r => by
    have := pairsL_len r
    simp only [pairsL, List.length_append, List.length_map, List.length_cons]
    rw [Nat.mul_add, Nat.add_mul]
    omega
theorem pairsL_mem : ∀ {ws : List Wd} {p : P3}, p ∈ pairsL ws ↔ ∃ i j : Nat, i < j ∧ ∃ a b, ws[i]? = some a ∧ ws[j]? = some b ∧ p = (dist a b, a, b)
  | [], p => by simp [pairsL]
  | w :: r, p => by
    rw [pairsL, List.mem_append, pairsL_mem (ws := r)]
    constructor
    · rintro (h | ⟨i, j, hij, a, b, ha, hb, e⟩)
      · obtain ⟨v, hv, rfl⟩ := List.mem_map.mp h
        obtain ⟨j, hj⟩ := List.mem_iff_getElem?.mp hv
        exact ⟨0, j + 1, by omega, w, v, rfl, by simpa using hj, rfl⟩
      · exact ⟨i + 1, j + 1, by omega, a, b, by simpa using ha, by simpa using hb, e⟩
    · rintro ⟨i, j, hij, a, b, ha, hb, e⟩
      cases j with
      | zero => omega
      | succ j =>
        cases i with
        | zero =>
          simp at ha hb
          subst ha
          exact .inl (List.mem_map.mpr ⟨b, List.mem_of_getElem? hb, e.symm⟩)
        | succ i =>
          simp at ha hb
          exact .inr ⟨i, j, by omega, a, b, ha, hb, e⟩
theorem pairsL_ne {ws : List Wd} (h : 2 ≤ ws.length) : pairsL ws ≠ [] := by
  intro e
  have : (dist ws[0] ws[1], ws[0], ws[1]) ∈ pairsL ws := pairsL_mem.mpr ⟨0, 1, by omega, ws[0], ws[1], List.getElem?_eq_getElem _, List.getElem?_eq_getElem _, rfl⟩
  rw [e] at this
  cases this
/-- the first of the nearest pairs -/
noncomputable def lpW (ws : List Wd) : P3 := ((O3.sort (pairsL ws)).head?).getD (0, [], [])
theorem lpW_head {ws : List Wd} (h : 2 ≤ ws.length) : ∃ r, O3.sort (pairsL ws) = lpW ws :: r := by
  unfold lpW
  cases e : O3.sort (pairsL ws) with
  | nil =>
    have := O3.sort_len (pairsL ws)
    rw [e] at this
    exact absurd (List.eq_nil_of_length_eq_zero this.symm) (pairsL_ne h)
  | cons a r => exact ⟨r, rfl⟩
theorem lpW_mem {ws : List Wd} (h : 2 ≤ ws.length) : lpW ws ∈ pairsL ws ∧ ∀ q ∈ pairsL ws, O3.lt q (lpW ws) = false := by
  obtain ⟨r, e⟩ := lpW_head h
  exact O3.sort_head e
theorem lt_fst {p q : P3} (h : O3.lt q p = false) : p.1 ≤ q.1 := by
  have h : (decide (q.1 < p.1) || (PyData.eqv (DOrd.nat.enc q.1) (DOrd.nat.enc p.1) && (DOrd.pair .wd .wd).lt q.2 p.2)) = false := h
  rw [Bool.or_eq_false_iff] at h
  have := of_decide_eq_false h.1
  omega
theorem asc_lt {ws : List Wd} (h : ws.Pairwise (· < ·)) {i j : Nat} {a b : Wd} (hij : i < j) (ha : ws[i]? = some a) (hb : ws[j]? = some b) : a < b := by
  obtain ⟨h1, rfl⟩ := List.getElem?_eq_some_iff.mp ha
  obtain ⟨h2, rfl⟩ := List.getElem?_eq_some_iff.mp hb
  exact List.pairwise_iff_getElem.mp h i j h1 h2 hij
/-- what the nearest pair is -/
theorem lpW_spec {ws : List Wd} (h : 2 ≤ ws.length) (hp : ws.Pairwise (· < ·)) : ∃ a b, lpW ws = (dist a b, a, b) ∧ a ∈ ws ∧ b ∈ ws ∧ a < b ∧ ∀ u ∈ ws, ∀ v ∈ ws, u ≠ v → dist a b ≤ dist u v := by
  obtain ⟨h1, h2⟩ := lpW_mem h
  obtain ⟨i, j, hij, a, b, ha, hb, e⟩ := pairsL_mem.mp h1
  refine ⟨a, b, e, List.mem_of_getElem? ha, List.mem_of_getElem? hb, asc_lt hp hij ha hb, fun u hu v hv huv => ?_⟩
  have key : ∀ {i j : Nat} {u v : Wd}, i < j → ws[i]? = some u → ws[j]? = some v → dist a b ≤ dist u v := fun {i j u v} hij hu hv => by
    have := lt_fst (h2 (dist u v, u, v) (pairsL_mem.mpr ⟨i, j, hij, u, v, hu, hv, rfl⟩))
    rw [e] at this
    exact this
  obtain ⟨i, hi⟩ := List.mem_iff_getElem?.mp hu
  obtain ⟨j, hj⟩ := List.mem_iff_getElem?.mp hv
  rcases Nat.lt_trichotomy i j with h | h | h
  · exact key h hi hj
  · subst h; rw [hi] at hj; exact absurd (Option.some.inj hj) huv
  · rw [dist_symm u v]; exact key h hj hi
noncomputable def mendW (ws : List Wd) : Nat := ((lpW ws).1 - 1) / 2
theorem lpW_pos {ws : List Wd} (h : 2 ≤ ws.length) (hp : ws.Pairwise (· < ·)) : 1 ≤ (lpW ws).1 := by
  obtain ⟨a, b, e, _, _, hab, _⟩ := lpW_spec h hp
  rw [e]
  show 1 ≤ dist a b
  rcases Nat.eq_zero_or_pos (dist a b) with z | z
  · have := dist_zero.mp z
    subst this
    exact absurd hab (wlt_irrefl a)
  · exact z
def F_pairs_of : List D → (D → Prop) → Prop := fun ds Q => ∃ ws, ds = [.tuple (ws.map sD)] ∧ ws.length ≤ 100 ∧ (∀ w ∈ ws, w.length ≤ 100) ∧ Q (.list ((O3.sort (pairsL ws)).map O3.enc))
theorem mono_pairs_of : MonoD F_pairs_of := fun ds P P' h ⟨a, e, h1, h2, q⟩ => ⟨a, e, h1, h2, h _ q⟩
def F_check_several : List D → (D → Prop) → Prop := fun ds Q => ∃ ws, ds = [.tuple (ws.map sD)] ∧ WL ws ∧ 2 ≤ ws.length ∧ Q .none
theorem mono_check_several : MonoD F_check_several := fun ds P P' h ⟨a, e, h1, h2, q⟩ => ⟨a, e, h1, h2, h _ q⟩
def F_found_mended : List D → (D → Prop) → Prop := fun ds Q => ∃ ws, ds = [.tuple (ws.map sD)] ∧ WL ws ∧ 2 ≤ ws.length ∧ Q (.int (mendW ws : Int))
theorem mono_found_mended : MonoD F_found_mended := fun ds P P' h ⟨a, e, h1, h2, q⟩ => ⟨a, e, h1, h2, h _ q⟩
def F_mended : List D → (D → Prop) → Prop := F_found_mended
theorem mono_mended : MonoD F_mended := mono_found_mended
def F_noticed : List D → (D → Prop) → Prop := fun ds Q => ∃ ws, ds = [.tuple (ws.map sD)] ∧ WL ws ∧ 2 ≤ ws.length ∧ Q (.int (((lpW ws).1 : Int) - 1))
theorem mono_noticed : MonoD F_noticed := fun ds P P' h ⟨a, e, h1, h2, q⟩ => ⟨a, e, h1, h2, h _ q⟩
def F_closest : List D → (D → Prop) → Prop := fun ds Q => ∃ ws, ds = [.tuple (ws.map sD)] ∧ WL ws ∧ 2 ≤ ws.length ∧ Q (.tuple [sD (lpW ws).2.1, sD (lpW ws).2.2])
theorem mono_closest : MonoD F_closest := fun ds P P' h ⟨a, e, h1, h2, q⟩ => ⟨a, e, h1, h2, h _ q⟩
theorem range_drop {β : Type} (ws : List Wd) (n : Nat) (f : Wd → β) : (List.range (ws.length - n)).map (fun k => f (ws.getD (n + k) [])) = (ws.drop n).map f := by
  apply List.ext_getElem?
  intro i
  rw [List.getElem?_map, List.getElem?_map, List.getElem?_drop]
  by_cases hi : i < ws.length - n
  · rw [List.getElem?_range hi, List.getElem?_eq_getElem (show n + i < ws.length by omega)]
    simp [List.getD, List.getElem?_eq_getElem (show n + i < ws.length by omega)]
  · rw [List.getElem?_eq_none (by simp; omega), List.getElem?_eq_none (by omega)]
    rfl
theorem dist_two_pos {ws : List Wd} (h : 2 ≤ ws.length) (hp : ws.Pairwise (· < ·)) {u v : Wd} (hu : u ∈ ws) (hv : v ∈ ws) (huv : u ≠ v) : (lpW ws).1 ≤ dist u v := by
  obtain ⟨a, b, e, _, _, _, hm⟩ := lpW_spec h hp
  rw [e]; exact hm u hu v hv huv
/-- what is mended -/
theorem meant_near {ws : List Wd} (h : 2 ≤ ws.length) (hp : ws.Pairwise (· < ·)) {w t : Wd} (hw : w ∈ ws) (hd : dist w t ≤ mendW ws) : meantW ws t = [w] := by
  have h1 := lpW_pos h hp
  have far : ∀ v ∈ ws, v ≠ w → dist w t < dist v t := fun v hv hvw => by
    have a := dist_two_pos h hp hv hw hvw
    have b := dist_tri v t w
    rw [dist_symm t w] at b
    unfold mendW at hd
    omega
  have hl : leastW ws t = dist w t := leastW_eq ⟨w, hw, rfl⟩ fun v hv => by
    by_cases e : v = w
    · subst e; exact Nat.le_refl _
    · exact Nat.le_of_lt (far v hv e)
  refine asc_unique (meant_asc hp) (by simp) fun v => ?_
  rw [meant_mem, hl, List.mem_singleton]
  constructor
  · rintro ⟨hv, e⟩
    by_cases z : v = w
    · exact z
    · have := far v hv z; omega
  · rintro rfl
    exact ⟨hw, rfl⟩
theorem noticed_near {ws : List Wd} (h : 2 ≤ ws.length) (hp : ws.Pairwise (· < ·)) {w t : Wd} (hw : w ∈ ws) (ht : t ∈ ws) (hd : dist w t + 1 ≤ (lpW ws).1) : t = w := by
  by_cases e : w = t
  · exact e.symm
  · have := dist_two_pos h hp hw ht e
    omega
theorem min_rows {ws : List Wd} (h : 2 ≤ ws.length) : ∃ q r, pairsL ws = q :: r ∧ O3.leastOf q r = lpW ws := by
  cases e : pairsL ws with
  | nil => exact absurd e (pairsL_ne h)
  | cons q r =>
    refine ⟨q, r, rfl, ?_⟩
    obtain ⟨h1, h2⟩ := O3.leastOf_spec r q
    obtain ⟨h3, h4⟩ := lpW_mem h
    rw [e] at h3 h4
    exact O3.least_uniq h1 h3 h2 h4
theorem alikeAll_enc {α : Type} (O : DOrd α) (l : List α) (hn : ∀ a, O.enc a ≠ .none) : PySem.W.AlikeAll (l.map O.enc) := by
  refine ⟨fun x hx y hy => ?_, fun x hx => ?_⟩
  · obtain ⟨a, _, rfl⟩ := List.mem_map.mp hx
    obtain ⟨b, _, rfl⟩ := List.mem_map.mp hy
    exact O.alike a b
  · obtain ⟨a, _, rfl⟩ := List.mem_map.mp hx
    exact hn a
theorem cut1 (a b c : D) : cut [a, b, c] (some 1) none = [b, c] := by rw [cut_from _ _ (by decide)]; rfl
/-- a second word, where there is only one -/
theorem WL.two {w : Wd} (h1 : 1 ≤ w.length) (h5 : w.length ≤ 5) (hl : LetAll w) : WL (srt [w, w.drop 1 ++ [100, 99]]) ∧ (srt [w, w.drop 1 ++ [100, 99]]).length = 2 := by
  have hlen : (srt [w, w.drop 1 ++ [100, 99]]).length = 2 := by unfold srt; rw [List.length_mergeSort]; rfl
  have hdl : (w.drop 1 ++ [100, 99]).length = w.length + 1 := by simp; omega
  refine ⟨⟨by omega, by omega, fun v hv => ?_, srt_asc ?_⟩, hlen⟩
  · have hv := srt_mem.mp hv
    simp only [List.mem_cons, List.not_mem_nil, or_false] at hv
    rcases hv with rfl | rfl
    · exact ⟨h1, by omega, hl⟩
    · refine ⟨by omega, by omega, fun c hc => ?_⟩
      rcases List.mem_append.mp hc with hc | hc
      · exact hl c (List.mem_of_mem_drop hc)
      · simp only [List.mem_cons, List.not_mem_nil, or_false] at hc
        rcases hc with rfl | rfl
        · exact (by decide : isLet 100 = true)
        · exact (by decide : isLet 99 = true)
  · rw [List.nodup_cons]
    refine ⟨fun z => ?_, by simp⟩
    have z := List.mem_singleton.mp z
    have := congrArg List.length z
    omega
/-! ### how many strings one slip leads to -/
theorem nodup_le {α : Type} [BEq α] [LawfulBEq α] : ∀ {l m : List α}, l.Nodup → (∀ x ∈ l, x ∈ m) → l.length ≤ m.length
  | [], _, _, _ => Nat.zero_le _
  | a :: l, m, hn, hs => by
    obtain ⟨h1, h2⟩ := List.nodup_cons.mp hn
    have ha := hs a (by simp)
    have := nodup_le (m := m.erase a) h2 fun x hx => (List.mem_erase_of_ne (fun e => h1 (by rw [← e]; exact hx))).mpr (hs x (by simp [hx]))
    rw [List.length_erase_of_mem ha] at this
    have hp : 0 < m.length := List.length_pos_of_mem ha
    simp only [List.length_cons]
    omega
def candsAt (w : Wd) (i : Nat) : List Wd := ([97, 98, 99, 100].map fun c => w.take i ++ c :: w.drop i) ++ (([97, 98, 99, 100].map fun c => w.take i ++ c :: w.drop (i + 1)) ++ ([w.take i ++ w.drop (i + 1)] ++ [w.take i ++ w.getD (i + 1) 0 :: w.getD i 0 :: w.drop (i + 2)]))
theorem cands_len (w : Wd) (i : Nat) : (candsAt w i).length = 10 := rfl
theorem cd_cands {w x : Wd} {i : Nat} (h : Cd w i x) : x ∈ candsAt w i := by
  unfold candsAt
  simp only [List.mem_append]
  rcases h with ⟨c, hc, rfl⟩ | ⟨hi, c, hc, rfl⟩ | ⟨hi, rfl⟩ | ⟨a, b, ha, hb, rfl⟩
  · exact .inl (List.mem_map.mpr ⟨c, L_iff.mp hc, rfl⟩)
  · exact .inr (.inl (List.mem_map.mpr ⟨c, L_iff.mp hc, rfl⟩))
  · exact .inr (.inr (.inl (by simp)))
  · exact .inr (.inr (.inr (by simp [List.getD, ha, hb])))
theorem nx_len {w : Wd} {l : List Wd} (h : Nx w l) : l.length ≤ 10 * (w.length + 1) := by
  have : l.length ≤ ((List.range (w.length + 1)).flatMap (candsAt w)).length := nodup_le (asc_nodup h.2) fun x hx => by
    obtain ⟨i, hi, hc⟩ := slip_cd ((h.1 x).mp hx)
    exact List.mem_flatMap.mpr ⟨i, List.mem_range.mpr (by omega), cd_cands hc⟩
  rw [List.length_flatMap] at this
  simp only [cands_len] at this
  rw [List.map_const', List.sum_replicate_nat, List.length_range] at this
  omega
/-! ### ways -/
structure IsW (a b : Wd) (n : Nat) (row : List Wd) : Prop where
  len : row.length = n + 1
  first : row[0]? = some a
  toB : ∀ k x, row[k]? = some x → dist x b = n - k
  lets : ∀ x ∈ row, LetAll x ∧ x.length ≤ 20
  step : ∀ k x y, row[k]? = some x → row[k + 1]? = some y → Slip L x y
/-- the beginning of a way, m slips from its end -/
structure IsP (a b : Wd) (n m : Nat) (row : List Wd) : Prop where
  len : row.length + m = n + 1
  ne : row ≠ []
  first : row[0]? = some a
  toB : ∀ k x, row[k]? = some x → dist x b = n - k
  lets : ∀ x ∈ row, LetAll x ∧ x.length ≤ 20
  step : ∀ k x y, row[k]? = some x → row[k + 1]? = some y → Slip L x y
theorem IsP.fin {a b : Wd} {n : Nat} {row : List Wd} (h : IsP a b n 0 row) : IsW a b n row := ⟨by have := h.len; omega, h.first, h.toB, h.lets, h.step⟩
theorem IsP.snoc {a b x y : Wd} {n m : Nat} {row : List Wd} (h : IsP a b n (m + 1) row) (hx : row[row.length - 1]? = some x) (s : Slip L x y) (hy : dist y b = m) (hl : y.length ≤ 20) : IsP a b n m (row ++ [y]) := by
  have hn : 0 < row.length := List.length_pos_iff.mpr h.ne
  refine ⟨by have := h.len; simp; omega, by simp, by rw [List.getElem?_append_left hn]; exact h.first, fun k z hz => ?_, fun z hz => ?_, fun k u v hu hv => ?_⟩
  · by_cases hk : k < row.length
    · rw [List.getElem?_append_left hk] at hz; exact h.toB k z hz
    · rw [List.getElem?_append_right (by omega)] at hz
      have : k - row.length = 0 := by
        have := (List.getElem?_eq_some_iff.mp hz).1
        simp at this; omega
      rw [this] at hz
      simp at hz
      subst hz
      have := h.len
      omega
  · rcases List.mem_append.mp hz with hz | hz
    · exact h.lets z hz
    · rw [List.mem_singleton.mp hz]
      exact ⟨s.letters (h.lets x (List.mem_of_getElem? hx)).1, hl⟩
  · by_cases hk : k + 1 < row.length
    · rw [List.getElem?_append_left hk] at hv
      rw [List.getElem?_append_left (by omega)] at hu
      exact h.step k u v hu hv
    · have hlt := (List.getElem?_eq_some_iff.mp hv).1
      simp at hlt
      have e : k + 1 = row.length := by omega
      rw [List.getElem?_append_right (by omega), e] at hv
      rw [List.getElem?_append_left (by omega), show k = row.length - 1 by omega, hx] at hu
      simp at hv hu
      subst hv hu
      exact s
def F_way : List D → (D → Prop) → Prop := fun ds Q => ∃ a b, ds = [sD a, sD b] ∧ Word a ∧ Word b ∧ ∀ row, IsW a b (dist a b) row → Q (.tuple (row.map sD))
theorem mono_way : MonoD F_way := fun ds P P' h ⟨a, b, e, h1, h2, q⟩ => ⟨a, b, e, h1, h2, fun row hr => h _ (q row hr)⟩
theorem slip_toward {x b : Wd} {n : Nat} (hx : LetAll x) (hb : LetAll b) (h : dist x b = n + 1) : ∃ y, Slip L x y ∧ dist y b = n := by
  have hp := dist_path (P := L) x b hb
  rw [h] at hp
  cases hp with
  | step s p =>
    rename_i y
    refine ⟨y, s, ?_⟩
    have h1 := p.dist
    have h2 := dist_tri x y b
    have h3 := slip_dist s
    omega
theorem IsW.fromA {a b : Wd} {n : Nat} {row : List Wd} (h : IsW a b n row) (hn : n = dist a b) : ∀ k x, row[k]? = some x → dist a x = k := by
  have up : ∀ k x, row[k]? = some x → dist a x ≤ k := fun k => by
    induction k with
    | zero =>
      intro x hx
      rw [h.first] at hx
      cases hx
      rw [dist_self]; exact Nat.le_refl _
    | succ k ih =>
      intro x hx
      have hk : k + 1 < row.length := (List.getElem?_eq_some_iff.mp hx).1
      have hy : row[k]? = some (row[k]'(by omega)) := List.getElem?_eq_getElem _
      have h1 := ih _ hy
      have h2 := slip_dist (h.step k _ x hy hx)
      have h3 := dist_tri a (row[k]'(by omega)) x
      omega
  intro k x hx
  have h1 := up k x hx
  have h2 := h.toB k x hx
  have h3 := dist_tri a x b
  have hk : k < row.length := (List.getElem?_eq_some_iff.mp hx).1
  rw [h.len] at hk
  omega
def F_broken : List D → (D → Prop) → Prop := fun ds Q => ∃ ws, ds = [.tuple (ws.map sD)] ∧ WL ws ∧ 2 ≤ ws.length ∧ ∀ x, LetAll x → x.length ≤ 20 → dist (lpW ws).2.1 x = mendW ws + 1 → dist x (lpW ws).2.2 ≤ mendW ws + 1 → Q (.tuple [sD (lpW ws).2.1, sD x])
theorem mono_broken : MonoD F_broken := fun ds P P' h ⟨a, e, h1, h2, q⟩ => ⟨a, e, h1, h2, fun x a1 a2 a3 a4 => h _ (q x a1 a2 a3 a4)⟩
noncomputable def brokenB (ws : List Wd) : D → Bool
  | .tuple [.str z, .str y] => decide (z.cps.toList ∈ ws) && (y.cps.toList.all isLet && (decide (dist z.cps.toList y.cps.toList = mendW ws + 1) && !decide (meantW ws y.cps.toList = [z.cps.toList])))
  | _ => false
theorem brokenB_len {ws : List Wd} {ds : List D} (h : ds.length ≠ 2) : brokenB ws (.tuple ds) = false := by
  match ds, h with
  | [], _ => rfl
  | [_], _ => unfold brokenB; split <;> first | rfl | (rename_i e; simp at e)
  | [_, _], h => exact absurd rfl h
  | _ :: _ :: _ :: _, _ => unfold brokenB; split <;> first | rfl | (rename_i e; simp at e)
theorem brokenB_strs {ws : List Wd} {a b : D} (h : (isStrD a && isStrD b) = false) : brokenB ws (.tuple [a, b]) = false := by
  cases a <;> cases b <;> first | rfl | (simp [isStrD] at h)
theorem brokenB_T (ws : List Wd) (w t : Wd) : brokenB ws (.tuple [.str (T w), .str (T t)]) = (decide (w ∈ ws) && (t.all isLet && (decide (dist w t = mendW ws + 1) && !decide (meantW ws t = [w])))) := rfl
theorem isStr_ex {d : D} (h : isStrD d = true) : ∃ w, d = .str (T w) := by
  cases d with
  | str z => exact ⟨z.cps.toList, by rw [T_surj]⟩
  | _ => cases h
/-- texts within it of at most so many signs -/
def shortD (n : Nat) : D → Prop
  | .tuple ds => ∀ z, .str z ∈ ds → z.cps.toList.length ≤ n
  | _ => True
theorem broken_true {ws : List Wd} (h : 2 ≤ ws.length) (hw : WL ws) {x : Wd} (hl : LetAll x) (h1 : dist (lpW ws).2.1 x = mendW ws + 1) (h2 : dist x (lpW ws).2.2 ≤ mendW ws + 1) : brokenB ws (.tuple [.str (T (lpW ws).2.1), .str (T x)]) = true := by
  obtain ⟨a, b, e, ha, hb, hab, _⟩ := lpW_spec h hw.asc
  rw [e] at h1 h2 ⊢
  have h1 : dist a x = mendW ws + 1 := h1
  have h2 : dist x b ≤ mendW ws + 1 := h2
  show brokenB ws (.tuple [.str (T a), .str (T x)]) = true
  rw [brokenB_T, decide_eq_true ha, letAll_all.mpr hl, decide_eq_true h1]
  have hn : ¬ meantW ws x = [a] := fun z => by
    have hma : a ∈ meantW ws x := by rw [z]; simp
    have hl2 := (meant_mem.mp hma).2
    have hle := (leastW_spec (t := x) hw.ne).2 b hb
    rw [dist_symm x b] at h2
    have : b ∈ meantW ws x := meant_mem.mpr ⟨hb, by omega⟩
    rw [z, List.mem_singleton] at this
    subst this
    exact wlt_irrefl _ hab
  rw [decide_eq_false hn]
  rfl
def F_is_broken : List D → (D → Prop) → Prop := fun ds Q => ∃ ws v, ds = [.tuple (ws.map sD), v] ∧ WL ws ∧ 2 ≤ ws.length ∧ shortD 500 v ∧ (∀ l, v = .tuple l → l.length ≤ 1000) ∧ Q (.bool (brokenB ws v))
theorem mono_is_broken : MonoD F_is_broken := fun ds P P' h ⟨a, b, e, h1, h2, h3, h4, q⟩ => ⟨a, b, e, h1, h2, h3, h4, h _ q⟩
end SWk

set_option Elab.async false
set_option linter.all false
set_option maxRecDepth 100000
set_option maxHeartbeats 4000000
set_option autoImplicit true
namespace SWk
open PySem PySem.Spec PyProof.Rows L2 DL
open SW
/-! ### judging broken pairs -/
theorem count_dist (t : Wd) (n : Nat) : ∀ ws : List Wd, (ws.map fun v => ((dist v t : Nat) : Int)).count (n : Int) = (ws.filter fun v => decide (dist v t = n)).length
  | [] => rfl
  | v :: ws => by
    rw [List.map_cons, List.count_cons, count_dist t n ws, List.filter_cons]
    by_cases e : dist v t = n
    · rw [if_pos (by simp [e]), if_pos (decide_eq_true e)]; rfl
    · rw [if_neg (by simp; omega), if_neg (by simpa using e)]; rfl
theorem broken_due {ws : List Wd} (hw : WL ws) {w t : Wd} (hm : w ∈ ws) (ht : LetAll t) : brokenB ws (.tuple [.str (T w), .str (T t)]) = (decide (((dist w t : Nat) : Int) = ((mendW ws : Nat) : Int) + 1) && (decide (((leastW ws t : Nat) : Int) < ((dist w t : Nat) : Int)) || decide ((1 : Int) < (((ws.map fun v => ((dist v t : Nat) : Int)).count ((dist w t : Nat) : Int) : Nat) : Int)))) := by
  rw [brokenB_T, decide_eq_true hm, letAll_all.mpr ht, Bool.true_and, Bool.true_and]
  congr 1
  · by_cases e : dist w t = mendW ws + 1
    · rw [decide_eq_true e, decide_eq_true (by omega)]
    · rw [decide_eq_false e, decide_eq_false (by omega)]
  · rw [count_dist]
    have hle := (leastW_spec (t := t) hw.ne).2 w hm
    by_cases hlt : leastW ws t < dist w t
    · rw [decide_eq_true (show ((leastW ws t : Nat) : Int) < ((dist w t : Nat) : Int) by omega), Bool.true_or]
      have : ¬ meantW ws t = [w] := fun z => by
        have := (meant_mem.mp (show w ∈ meantW ws t by rw [z]; simp)).2
        omega
      rw [decide_eq_false this]; rfl
    · have e : dist w t = leastW ws t := by omega
      rw [decide_eq_false (show ¬ ((leastW ws t : Nat) : Int) < ((dist w t : Nat) : Int) by omega), Bool.false_or, e]
      show (!decide (meantW ws t = [w])) = decide ((1 : Int) < ((meantW ws t).length : Int))
      have hmw : w ∈ meantW ws t := meant_mem.mpr ⟨hm, e⟩
      by_cases h1 : (meantW ws t).length = 1
      · obtain ⟨v, ev⟩ := List.length_eq_one_iff.mp h1
        rw [ev] at hmw
        have := List.mem_singleton.mp hmw
        subst this
        rw [ev, decide_eq_true rfl]; rfl
      · have hp := List.length_pos_of_mem hmw
        rw [decide_eq_false (fun z => h1 (by rw [z]; rfl)), decide_eq_true (by omega)]; rfl
/-! ### known lists -/
def wlB (ws : List Wd) : Bool := decide (1 ≤ ws.length) && (decide (ws.length ≤ 8) && (ws.all (fun w => decide (1 ≤ w.length) && (decide (w.length ≤ 6) && w.all isLet)) && decide (ws.Pairwise (· < ·))))
theorem wl_of {ws : List Wd} (h : wlB ws = true) : WL ws := by
  unfold wlB at h
  simp only [Bool.and_eq_true, decide_eq_true_eq, List.all_eq_true] at h
  exact ⟨h.1, h.2.1, fun w hw => ⟨(h.2.2.1 w hw).1, (h.2.2.1 w hw).2.1, letAll_all.mp (List.all_eq_true.mpr (h.2.2.1 w hw).2.2)⟩, h.2.2.2⟩
def dF (u v : Wd) : Nat := distF (u.length + v.length) u v
theorem dF_eq (u v : Wd) : dist u v = dF u v := dist_known u v _ rfl
def pairsF : List Wd → List P3
  | [] => []
  | w :: r => (r.map fun v => (dF w v, w, v)) ++ pairsF r
theorem pairsF_eq : ∀ ws, pairsL ws = pairsF ws
  | [] => rfl
  | w :: r => by
    unfold pairsL pairsF
    rw [pairsF_eq r]
    congr 1
    apply List.map_congr_left
    intro v _
    rw [dF_eq]
theorem lp_known {ws : List Wd} (n : Nat) (h2 : 2 ≤ ws.length) (h : ((pairsF ws).any (fun p => decide (p.1 = n)) && (pairsF ws).all (fun p => decide (n ≤ p.1))) = true) : (lpW ws).1 = n := by
  rw [Bool.and_eq_true] at h
  obtain ⟨h1, h3⟩ := lpW_mem h2
  rw [pairsF_eq] at h1 h3
  obtain ⟨q, hq, e⟩ := List.any_eq_true.mp h.1
  have e := of_decide_eq_true e
  have a := lt_fst (h3 q hq)
  have b := of_decide_eq_true (List.all_eq_true.mp h.2 _ h1)
  omega
def leastF (ws : List Wd) (t : Wd) : Nat := ((ws.map fun w => dF w t).min?).getD 0
def meantF (ws : List Wd) (t : Wd) : List Wd := ws.filter fun w => decide (dF w t = leastF ws t)
theorem meantF_eq (ws : List Wd) (t : Wd) : meantW ws t = meantF ws t := by
  unfold meantW meantF leastW leastF
  simp only [dF_eq]
theorem leastF_eq (ws : List Wd) (t : Wd) : leastW ws t = leastF ws t := by
  unfold leastW leastF
  simp only [dF_eq]
def brokenF (ws : List Wd) (m : Nat) : D → Bool
  | .tuple [.str z, .str y] => decide (z.cps.toList ∈ ws) && (y.cps.toList.all isLet && (decide (dF z.cps.toList y.cps.toList = m + 1) && !decide (meantF ws y.cps.toList = [z.cps.toList])))
  | _ => false
theorem brokenF_eq {ws : List Wd} {m : Nat} (h : mendW ws = m) (v : D) : brokenB ws v = brokenF ws m v := by
  unfold brokenB brokenF
  split
  · rw [dF_eq, meantF_eq, h]
  · rename_i hx
    first
      | rfl
      | (split
         · rename_i z y
           exact absurd rfl (hx z y)
         · rfl)
def shortB : D → Bool
  | .tuple ds => decide (ds.length ≤ 1000) && ds.all fun d => match d with
    | .str z => decide (z.cps.toList.length ≤ 500)
    | _ => true
  | _ => true
theorem short_of {v : D} (h : shortB v = true) : shortD 500 v ∧ ∀ l, v = .tuple l → l.length ≤ 1000 := by
  cases v with
  | tuple ds =>
    unfold shortB at h
    rw [Bool.and_eq_true] at h
    refine ⟨fun z hz => ?_, fun l e => by cases e; exact of_decide_eq_true h.1⟩
    exact of_decide_eq_true (List.all_eq_true.mp h.2 _ hz)
  | _ => exact ⟨trivial, fun l e => nomatch e⟩
/-- a comprehension over data as it stands -/
theorem lc_useD {γ : DG} {τ : DT} {δ : DE} {vs : List Nat} {Γ1 : DCtx} {R : DOb → DCtx → Prop} {xs : List D} (f : D → Bool) (g : D → D) (hno : ∀ i ∈ vs, ∀ p o, Γ1[i]? ≠ some (some (DCell.own p o))) (hl : xs.length ≤ 1000000)
    (h3 : ∀ x ∈ xs, ∀ (acc : List D) (P : List D → DCtx → Prop), (f x = true → P (acc ++ [g x]) Γ1) → (f x = false → P acc Γ1) → γ x (wipeC Γ1 vs) fun Γ3 => τ Γ3 fun b Γ4 => if b = true then δ Γ4 fun y Γ5 => ∃ e, y = .d e ∧ P (acc ++ [e]) (restore Γ1 Γ5 vs) else P acc (restore Γ1 Γ4 vs))
    (hR : R (.lst ((xs.filter f).map g)) Γ1) : nLcB γ τ δ vs R xs Γ1 := by
  have := lc_useM xs (fun d => d) f g hno hl h3 hR
  rw [List.map_id''] at this
  · exact this
  · exact fun _ => rfl
end SWk

set_option Elab.async false
set_option linter.all false
set_option maxRecDepth 100000
set_option maxHeartbeats 4000000
set_option autoImplicit true
namespace SWk
open PySem PySem.Spec PyProof.Rows L2 DL
open SW
/-! ### rows of words, ordered -/
theorem rowLt_txs : ∀ xs ys : List Wd, PySem.W.rowLt (xs.map sD) (ys.map sD) = decide (xs < ys)
  | [], [] => by
    have e : PySem.W.rowLt [] [] = false := lex_irrefl _
    simp [e]
  | [], y :: ys => by
    have e : PySem.W.rowLt [] (sD y :: ys.map sD) = true := by
      unfold PySem.W.rowLt
      rw [PySem.W.toks_all_cons]
      simp only [PySem.W.keyToksAll]
      rw [lex_diff (O := itemOrd) (by simp)]
      rfl
    simpa using e
  | x :: xs, [] => by
    have e : PySem.W.rowLt (sD x :: xs.map sD) [] = false := by
      unfold PySem.W.rowLt
      rw [PySem.W.toks_all_cons]
      simp only [PySem.W.keyToksAll]
      rw [lex_diff (O := itemOrd) (by simp)]
      rfl
    simpa using e
  | x :: xs, y :: ys => by
    have e : PySem.W.rowLt (sD x :: xs.map sD) (sD y :: ys.map sD) = if x = y then PySem.W.rowLt (xs.map sD) (ys.map sD) else decide (x < y) := by
      unfold PySem.W.rowLt
      rw [PySem.W.dataLt_cons (x := sD x) (y := sD y) (DOrd.wd.alike x y), show PySem.W.dataLt (sD x) (sD y) = decide (x < y) from DOrd.wd.ord x y]
      by_cases h : x = y
      · rw [if_pos h, if_pos ((DOrd.eqv_sD x y).mpr h)]
      · rw [if_neg h, if_neg fun z => h ((DOrd.eqv_sD x y).mp z)]
    show PySem.W.rowLt (sD x :: xs.map sD) (sD y :: ys.map sD) = _
    rw [e]
    by_cases h : x = y
    · rw [if_pos h, rowLt_txs xs ys]
      simp [h, List.cons_lt_cons_iff]
    · rw [if_neg h]
      simp [h, List.cons_lt_cons_iff]
def DOrd.row : DOrd (List Wd) where
  enc l := .tuple (l.map sD)
  lt a b := decide (a < b)
  eq a b := by rw [eqv_txT]; exact decide_eq_true_iff
  ord a b := by
    rw [PySem.W.dataLt_tuple]
    exact rowLt_txs a b
  alike a b := by
    show PySem.W.alikeAll (a.map sD) (b.map sD) = true
    induction a generalizing b with
    | nil => simp [PySem.W.alikeAll]
    | cons x a ih =>
      cases b with
      | nil => simp [PySem.W.alikeAll]
      | cons y b =>
        show (PySem.W.alike (sD x) (sD y) && PySem.W.alikeAll (a.map sD) (b.map sD)) = true
        rw [ih b, show PySem.W.alike (sD x) (sD y) = true from DOrd.wd.alike x y]
        rfl
  irr a := by simp only [decide_eq_false_iff_not]; exact List.lt_irrefl a
  tri a b h1 h2 := by simp only [decide_eq_false_iff_not] at h1 h2; exact List.le_antisymm h2 h1
  trans a b c h1 h2 := by simp only [decide_eq_true_eq] at h1 h2 ⊢; exact List.lt_trans h1 h2
def OR : DOrd (Nat × List Wd) := .pair .nat .row
theorem OR_enc (p : Nat × List Wd) : OR.enc p = .tuple [.int (p.1 : Int), .tuple (p.2.map sD)] := rfl
/-! ### mending -/
noncomputable def mendsW : List Wd → Nat → Bool
  | [], _ => true
  | w :: r, m => (r.all fun v => decide (2 * m < dist w v)) && mendsW r m
theorem mends_iff {m : Nat} : ∀ {ws : List Wd}, mendsW ws m = true ↔ ∀ p ∈ pairsL ws, 2 * m < p.1
  | [] => by simp [mendsW, pairsL]
  | w :: r => by
    unfold mendsW pairsL
    rw [Bool.and_eq_true, mends_iff (ws := r), List.all_eq_true]
    constructor
    · rintro ⟨h1, h2⟩ p hp
      rcases List.mem_append.mp hp with hp | hp
      · obtain ⟨v, hv, rfl⟩ := List.mem_map.mp hp
        exact of_decide_eq_true (h1 v hv)
      · exact h2 p hp
    · intro h
      exact ⟨fun v hv => decide_eq_true (h (dist w v, w, v) (List.mem_append_left _ (List.mem_map.mpr ⟨v, hv, rfl⟩))), fun p hp => h p (List.mem_append_right _ hp)⟩
/-- by places, whatever the order -/
theorem mends_all {ws : List Wd} {m : Nat} (hn : ws.Nodup) : mendsW ws m = true ↔ ∀ u ∈ ws, ∀ v ∈ ws, u ≠ v → 2 * m < dist u v := by
  rw [mends_iff]
  constructor
  · intro h u hu v hv huv
    obtain ⟨i, hi⟩ := List.mem_iff_getElem?.mp hu
    obtain ⟨j, hj⟩ := List.mem_iff_getElem?.mp hv
    rcases Nat.lt_trichotomy i j with z | z | z
    · exact h _ (pairsL_mem.mpr ⟨i, j, z, u, v, hi, hj, rfl⟩)
    · subst z; rw [hi] at hj; exact absurd (Option.some.inj hj) huv
    · rw [dist_symm]; exact h _ (pairsL_mem.mpr ⟨j, i, z, v, u, hj, hi, rfl⟩)
  · intro h p hp
    obtain ⟨i, j, hij, a, b, ha, hb, rfl⟩ := pairsL_mem.mp hp
    refine h a (List.mem_of_getElem? ha) b (List.mem_of_getElem? hb) fun e => ?_
    subst e
    obtain ⟨h1, e1⟩ := List.getElem?_eq_some_iff.mp ha
    obtain ⟨h2, e2⟩ := List.getElem?_eq_some_iff.mp hb
    have := (List.pairwise_iff_getElem.mp hn) i j h1 h2 hij
    exact this (e1.trans e2.symm)
theorem mends_lp {ws : List Wd} {m : Nat} (h : 2 ≤ ws.length) (hp : ws.Pairwise (· < ·)) : mendsW ws m = true ↔ m ≤ mendW ws := by
  have h1 := lpW_pos h hp
  rw [mends_iff]
  obtain ⟨h3, h4⟩ := lpW_mem h
  constructor
  · intro hh
    have := hh _ h3
    unfold mendW
    omega
  · intro hm p hp
    have := lt_fst (h4 p hp)
    unfold mendW at hm
    omega
def F_does_mend : List D → (D → Prop) → Prop := fun ds Q => ∃ ws c, ∃ m : Nat, ds = [c, .int (m : Int)] ∧ (c = .list (ws.map sD) ∨ c = .tuple (ws.map sD)) ∧ ws.length ≤ 100 ∧ (∀ w ∈ ws, w.length ≤ 100) ∧ m ≤ 100 ∧ Q (.bool (mendsW ws m))
theorem mono_does_mend : MonoD F_does_mend := fun ds P P' h ⟨a, b, c, e, h1, h2, h3, h4, q⟩ => ⟨a, b, c, e, h1, h2, h3, h4, h _ q⟩
def F__law_mends : List D → (D → Prop) → Prop := F_does_mend
theorem mono__law_mends : MonoD F__law_mends := mono_does_mend
/-! ### all rows of words to leave out -/
def subsW : List Wd → List (List Wd) → List (List Wd)
  | [], f => f
  | w :: r, f => subsW r (f ++ f.map fun row => row ++ [w])
theorem subsW_snoc : ∀ (ws : List Wd) (w : Wd) (f : List (List Wd)), subsW (ws ++ [w]) f = subsW ws f ++ (subsW ws f).map fun row => row ++ [w]
  | [], w, f => rfl
  | v :: r, w, f => by
    show subsW (r ++ [w]) _ = _
    rw [subsW_snoc r w]
    rfl
theorem subsW_len : ∀ (ws : List Wd) (f : List (List Wd)), (subsW ws f).length = 2 ^ ws.length * f.length
  | [], f => by simp [subsW]
  | w :: r, f => by
    unfold subsW
    rw [subsW_len r, List.length_append, List.length_map, List.length_cons, Nat.pow_succ]
    rw [show f.length + f.length = 2 * f.length by omega, Nat.mul_assoc]
theorem subs_sub : ∀ (ws : List Wd) (f : List (List Wd)) (S : Wd → Prop), (∀ row ∈ f, ∀ v ∈ row, S v) → (∀ w ∈ ws, S w) → ∀ row ∈ subsW ws f, ∀ v ∈ row, S v
  | [], f, S, h1, _, row, hr => h1 row hr
  | w :: r, f, S, h1, h2, row, hr => by
    refine subs_sub r _ S (fun row hr v hv => ?_) (fun w hw => h2 w (by simp [hw])) row hr
    rcases List.mem_append.mp hr with hr | hr
    · exact h1 row hr v hv
    · obtain ⟨row', hr', rfl⟩ := List.mem_map.mp hr
      rcases List.mem_append.mp hv with hv | hv
      · exact h1 row' hr' v hv
      · rw [List.mem_singleton.mp hv]; exact h2 w (by simp)
theorem subs_keep : ∀ (ws : List Wd) (f : List (List Wd)) (row : List Wd), row ∈ f → row ∈ subsW ws f
  | [], _, _, h => h
  | w :: r, f, row, h => subs_keep r _ row (List.mem_append_left _ h)
theorem subs_all : ∀ (ws : List Wd) (f : List (List Wd)) (row : List Wd), row ∈ f → row ++ ws ∈ subsW ws f
  | [], f, row, h => by rw [List.append_nil]; exact h
  | w :: r, f, row, h => by
    have := subs_all r (f ++ f.map fun row => row ++ [w]) (row ++ [w]) (List.mem_append_right _ (List.mem_map.mpr ⟨row, h, rfl⟩))
    rw [List.append_assoc] at this
    exact this
theorem subs_len : ∀ (ws : List Wd) (f : List (List Wd)) (n : Nat), (∀ row ∈ f, row.length ≤ n) → ∀ row ∈ subsW ws f, row.length ≤ n + ws.length
  | [], f, n, h, row, hr => by simpa using h row hr
  | w :: r, f, n, h, row, hr => by
    have := subs_len r _ (n + 1) (fun row hr => by
      rcases List.mem_append.mp hr with hr | hr
      · have := h row hr; omega
      · obtain ⟨row', hr', rfl⟩ := List.mem_map.mp hr
        have := h row' hr'
        simp; omega) row hr
    simp only [List.length_cons]; omega
noncomputable def keyR (l : List (List Wd)) : List (Nat × List Wd) := l.map fun row => (row.length, row)
def F_tuples_of : List D → (D → Prop) → Prop := fun ds Q => ∃ ws, ds = [.tuple (ws.map sD)] ∧ ws.length ≤ 8 ∧ Q (.list ((OR.sort (keyR (subsW ws [[]]))).map fun p => .tuple (p.2.map sD)))
theorem mono_tuples_of : MonoD F_tuples_of := fun ds P P' h ⟨a, e, h1, q⟩ => ⟨a, e, h1, h _ q⟩
/-- what is left -/
def restW (ws row : List Wd) : List Wd := ws.filter fun w => !decide (w ∈ row)
/-- the first of the smallest rows without which so many slips are mended -/
def Leave (ws : List Wd) (m : Nat) (row : List Wd) : Prop := row ∈ subsW ws [[]] ∧ mendsW (restW ws row) m = true ∧ ∀ r ∈ subsW ws [[]], mendsW (restW ws r) m = true → OR.lt (r.length, r) (row.length, row) = false
theorem leave_uniq {ws : List Wd} {m : Nat} {a b : List Wd} (ha : Leave ws m a) (hb : Leave ws m b) : a = b := by
  have := OR.tri _ _ (hb.2.2 a ha.1 ha.2.1) (ha.2.2 b hb.1 hb.2.1)
  exact congrArg Prod.snd this
def F_to_leave_out : List D → (D → Prop) → Prop := fun ds Q => ∃ ws, ∃ m : Nat, ds = [.tuple (ws.map sD), .int (m : Int)] ∧ WL ws ∧ m ≤ 3 ∧ ∀ row, Leave ws m row → Q (.tuple (row.map sD))
theorem mono_to_leave_out : MonoD F_to_leave_out := fun ds P P' h ⟨a, b, e, h1, h2, q⟩ => ⟨a, b, e, h1, h2, fun r hr => h _ (q r hr)⟩
def F_may_add : List D → (D → Prop) → Prop := fun ds Q => ∃ ws t, ∃ m : Nat, ds = [.tuple (ws.map sD), sD t, .int (m : Int)] ∧ WL ws ∧ Word t ∧ m ≤ 3 ∧ t ∉ ws ∧ 1 ≤ t.length ∧ t.length ≤ 6 ∧ Q (.bool (mendsW (ws ++ [t]) m))
theorem mono_may_add : MonoD F_may_add := fun ds P P' h ⟨a, b, c, e, h1, h2, h3, h4, h5, h6, q⟩ => ⟨a, b, c, e, h1, h2, h3, h4, h5, h6, h _ q⟩
noncomputable def fitsW (ws : List Wd) (m : Nat) (t : Wd) : Bool := !decide (t ∈ ws) && ws.all fun w => decide (2 * m < dist t w)
/-- strings of 1 to n letters, the shorter ones first -/
def strsTo (n : Nat) : List Wd := (List.range n).flatMap fun i => strsW (i + 1)
noncomputable def addD (ws : List Wd) (m : Nat) : D := if mendsW ws m = true then headD ((strsTo 4).filter (fitsW ws m)) else .none
def F_first_addable : List D → (D → Prop) → Prop := fun ds Q => ∃ ws, ∃ m : Nat, ds = [.tuple (ws.map sD), .int (m : Int)] ∧ WL ws ∧ m ≤ 3 ∧ Q (addD ws m)
theorem mono_first_addable : MonoD F_first_addable := fun ds P P' h ⟨a, b, e, h1, h2, q⟩ => ⟨a, b, e, h1, h2, h _ q⟩
end SWk

set_option Elab.async false
set_option linter.all false
set_option maxRecDepth 100000
set_option maxHeartbeats 4000000
set_option autoImplicit true
namespace SWk
open PySem PySem.Spec PyProof.Rows L2 DL
open SW
theorem depthAll_txs (l : List Wd) : PyData.depthAll (l.map sD) ≤ 1 := by
  induction l with
  | nil => simp [PyData.depthAll]
  | cons x l ih =>
    show max (PyData.depth (sD x)) (PyData.depthAll (l.map sD)) ≤ 1
    have : (sD x).depth ≤ 1 := by simp [sD, PyData.depth]
    omega
theorem keyR_mem {p : Nat × List Wd} {l : List (List Wd)} : p ∈ keyR l ↔ p.2 ∈ l ∧ p.1 = p.2.length := by
  unfold keyR
  rw [List.mem_map]
  constructor
  · rintro ⟨r, hr, rfl⟩; exact ⟨hr, rfl⟩
  · rintro ⟨h1, h2⟩; exact ⟨p.2, h1, by rw [← h2]⟩
theorem rest_self (ws : List Wd) : restW ws ws = [] := by
  unfold restW
  rw [List.filter_eq_nil_iff]
  intro w hw
  simp [hw]
theorem restW_nil (ws : List Wd) : restW ws [] = ws := by
  unfold restW
  rw [List.filter_eq_self]
  intro w hw
  simp
/-- the first fit of the sorted rows -/
theorem leave_first {ws : List Wd} {m i : Nat} {p : Nat × List Wd} (hx : (OR.sort (keyR (subsW ws [[]])))[i]? = some p) (hb : ∀ j, j < i → ∀ q, (OR.sort (keyR (subsW ws [[]])))[j]? = some q → mendsW (restW ws q.2) m = false) (h : mendsW (restW ws p.2) m = true) : Leave ws m p.2 := by
  have hp := keyR_mem.mp (OR.sort_mem.mp (List.mem_of_getElem? hx))
  refine ⟨hp.1, h, fun r hr hm => ?_⟩
  have hk : (r.length, r) ∈ OR.sort (keyR (subsW ws [[]])) := OR.sort_mem.mpr (keyR_mem.mpr ⟨hr, rfl⟩)
  obtain ⟨k, hk⟩ := List.mem_iff_getElem?.mp hk
  have e : (p.2.length, p.2) = p := by rw [← hp.2]
  rw [e]
  rcases Nat.lt_trichotomy i k with z | z | z
  · obtain ⟨h1, e1⟩ := List.getElem?_eq_some_iff.mp hx
    obtain ⟨h2, e2⟩ := List.getElem?_eq_some_iff.mp hk
    have := (List.pairwise_iff_getElem.mp (OR.sort_pair (keyR (subsW ws [[]])))) i k h1 h2 z
    rw [e1, e2] at this
    exact this
  · subst z
    rw [hx] at hk
    cases hk
    exact OR.irr _
  · rw [hb k z _ hk] at hm
    cases hm
theorem leave_some {ws : List Wd} {m : Nat} (hb : ∀ j : Nat, ∀ q, (OR.sort (keyR (subsW ws [[]])))[j]? = some q → mendsW (restW ws q.2) m = false) : False := by
  have h1 : ws ∈ subsW ws [[]] := by
    have := subs_all ws [[]] [] (by simp)
    simpa using this
  have hk : (ws.length, ws) ∈ OR.sort (keyR (subsW ws [[]])) := OR.sort_mem.mpr (keyR_mem.mpr ⟨h1, rfl⟩)
  obtain ⟨k, hk⟩ := List.mem_iff_getElem?.mp hk
  have := hb k _ hk
  rw [show restW ws (ws.length, ws).2 = [] from rest_self ws] at this
  cases this
theorem OR_len {a b : List Wd} (h : OR.lt (a.length, a) (b.length, b) = false) : b.length ≤ a.length := by
  rcases Nat.lt_or_ge a.length b.length with z | z
  · exfalso
    have : OR.lt (a.length, a) (b.length, b) = true := by
      show (decide (a.length < b.length) || _) = true
      rw [decide_eq_true z]
      rfl
    rw [this] at h
    cases h
  · exact z
theorem nil_mem_subs (ws : List Wd) : [] ∈ subsW ws [[]] := subs_keep ws _ _ (by simp)
theorem mends_mono {ws : List Wd} {m n : Nat} (h : m ≤ n) (hm : mendsW ws n = true) : mendsW ws m = true := by
  rw [mends_iff] at *
  intro p hp
  have := hm p hp
  omega
theorem leave_nil {ws : List Wd} {m : Nat} {row : List Wd} (h : Leave ws m row) : row = [] ↔ mendsW ws m = true := by
  constructor
  · intro e
    have := h.2.1
    rw [e, restW_nil] at this
    exact this
  · intro hm
    have := OR_len (h.2.2 [] (nil_mem_subs ws) (by rw [restW_nil]; exact hm))
    exact List.eq_nil_of_length_eq_zero (by simpa using this)
theorem mends_zero {ws : List Wd} (h : ws.Pairwise (· < ·)) : mendsW ws 0 = true := by
  rw [mends_all (asc_nodup h)]
  intro u _ v _ huv
  have : dist u v ≠ 0 := fun e => huv (dist_zero.mp e)
  omega
theorem nodup_sub_len {α : Type} [DecidableEq α] : ∀ {l m : List α}, l.Nodup → (∀ x ∈ l, x ∈ m) → l.length ≤ m.length
  | [], _, _, _ => by simp
  | x :: l, m, hn, hs => by
    have hn := List.nodup_cons.mp hn
    have hx : x ∈ m := hs x (by simp)
    have := nodup_sub_len (l := l) (m := m.erase x) hn.2 fun y hy => by
      have hne : y ≠ x := fun e => hn.1 (e ▸ hy)
      exact (List.mem_erase_of_ne hne).mpr (hs y (by simp [hy]))
    rw [List.length_erase_of_mem hx] at this
    have : 0 < m.length := List.length_pos_of_mem hx
    simp only [List.length_cons]
    omega
theorem leave_rest {ws : List Wd} {m : Nat} {row : List Wd} (hne : ws ≠ []) (hp : ws.Pairwise (· < ·)) (h : Leave ws m row) : restW ws row ≠ [] := by
  intro e
  have hs : ∀ w ∈ ws, w ∈ row := fun w hw => by
    have := List.filter_eq_nil_iff.mp e w hw
    simpa using this
  have hn := asc_nodup hp
  have h1 : ws.length ≤ row.length := nodup_sub_len hn hs
  cases ws with
  | nil => exact hne rfl
  | cons w r =>
    have hr : r ∈ subsW (w :: r) [[]] := by
      exact subs_all r ([[]] ++ [[]].map fun row => row ++ [w]) [] (by simp)
    have hw : w ∉ r := (List.nodup_cons.mp hn).1
    have e1 : restW (w :: r) r = [w] := by
      unfold restW
      rw [List.filter_cons_of_pos (by simpa using hw)]
      rw [List.filter_eq_nil_iff.mpr]
      intro v hv
      simp [hv]
    have := OR_len (h.2.2 r hr (by rw [e1]; rfl))
    simp at h1
    omega
theorem leave_less {ws : List Wd} {m n : Nat} {a b : List Wd} (hmn : m ≤ n) (ha : Leave ws m a) (hb : Leave ws n b) : a.length ≤ b.length :=
  OR_len (ha.2.2 b hb.1 (mends_mono hmn hb.2.1))
noncomputable def fitsL (ws : List Wd) (m : Nat) : List (Nat × List Wd) := keyR ((subsW ws [[]]).filter fun row => mendsW (restW ws row) m)
theorem leave_least {ws : List Wd} {m : Nat} {p : Nat × List Wd} {l : List (Nat × List Wd)} (e : fitsL ws m = p :: l) : Leave ws m (OR.leastOf p l).2 := by
  obtain ⟨h1, h2⟩ := OR.leastOf_spec l p
  rw [← e] at h1 h2
  have h1 := keyR_mem.mp h1
  have h3 := List.mem_filter.mp h1.1
  refine ⟨h3.1, h3.2, fun r hr hm => ?_⟩
  have := h2 (r.length, r) (keyR_mem.mpr ⟨List.mem_filter.mpr ⟨hr, hm⟩, rfl⟩)
  rw [← h1.2]
  exact this
theorem fits_ne (ws : List Wd) (m : Nat) : fitsL ws m ≠ [] := by
  intro e
  have h1 : ws ∈ subsW ws [[]] := by
    have := subs_all ws [[]] [] (by simp)
    simpa using this
  have : (ws.length, ws) ∈ fitsL ws m := keyR_mem.mpr ⟨List.mem_filter.mpr ⟨h1, by rw [rest_self]; rfl⟩, rfl⟩
  rw [e] at this
  cases this
theorem map_nil_dec {α β : Type} (l : List α) (g : α → β) [Decidable (l.map g = [])] (h : (!decide (l.map g = [])) = true) : l ≠ [] := fun e => by subst e; simp at h
theorem map_nil_dec' {α β : Type} (l : List α) (g : α → β) [Decidable (l.map g = [])] (h : ¬ (!decide (l.map g = [])) = true) : l = [] := by
  cases l with
  | nil => rfl
  | cons a l => exact absurd (by simp) h
theorem eqv_nilL (l : List D) : PyData.eqv (.list l) (.list []) = decide (l = []) := by
  cases l with
  | nil => rfl
  | cons a l => rfl
theorem shaped_nil : SeqAt.shaped (PyData.list []) = true := shaped_ints []
theorem shaped_intsF {α : Type} (l : List α) (g : α → Int) : SeqAt.shaped (.list (l.map fun k => PyData.int (g k))) = true := by
  have := shaped_ints (l.map g)
  unfold iD at this
  rw [List.map_map] at this
  exact this
theorem mends_step {ws : List Wd} {m i : Nat} (hi : i < ws.length) : mendsW (ws.drop i) m = (decide (((List.range (ws.drop (i + 1)).length).filter fun k => decide (dist (ws.getD i []) (ws.getD (i + 1 + k) []) ≤ 2 * m)) = []) && mendsW (ws.drop (i + 1)) m) := by
  rw [List.drop_eq_getElem_cons hi]
  show (((ws.drop (i + 1)).all fun v => decide (2 * m < dist ws[i] v)) && mendsW (ws.drop (i + 1)) m) = _
  congr 1
  rw [Bool.eq_iff_iff, List.all_eq_true, decide_eq_true_eq, List.filter_eq_nil_iff]
  have e0 : ws.getD i [] = ws[i] := by simp [List.getD, hi]
  constructor
  · intro h k hk
    have hk := List.mem_range.mp hk
    rw [List.length_drop] at hk
    have e1 : ws.getD (i + 1 + k) [] = ws[i + 1 + k] := by
      have : i + 1 + k < ws.length := by omega
      simp [List.getD, this]
    have := of_decide_eq_true (h ws[i + 1 + k] (List.mem_drop_iff_getElem.mpr ⟨k, by omega, rfl⟩))
    rw [e0, e1]
    simp only [decide_eq_true_eq]
    omega
  · intro h v hv
    obtain ⟨k, hk, rfl⟩ := List.mem_drop_iff_getElem.mp hv
    have := h k (List.mem_range.mpr (by rw [List.length_drop]; omega))
    have e1 : ws.getD (i + 1 + k) [] = ws[i + 1 + k] := by
      have : i + 1 + k < ws.length := by omega
      simp [List.getD, this]
    rw [e0, e1] at this
    simp only [decide_eq_true_eq] at this ⊢
    omega
end SWk

set_option Elab.async false
set_option linter.all false
set_option maxRecDepth 100000
set_option maxHeartbeats 4000000
set_option autoImplicit true
namespace SWk
open PySem PySem.Spec PyProof.Rows L2 DL
open SW
theorem add_first {ws : List Wd} {m i j : Nat} {t : Wd} (hi : i < 4) (h1 : ∀ t ∈ strsTo i, fitsW ws m t = false) (h2 : ∀ t ∈ (strsW (i + 1)).take j, fitsW ws m t = false) (ht : (strsW (i + 1))[j]? = some t) (hf : fitsW ws m t = true) : headD ((strsTo 4).filter (fitsW ws m)) = sD t := by
  have e1 : ∃ r, strsTo 4 = strsTo i ++ (strsW (i + 1) ++ r) := by
    refine ⟨(List.range' (i + 1) (3 - i)).flatMap fun k => strsW (k + 1), ?_⟩
    unfold strsTo
    have : List.range 4 = List.range i ++ ([i] ++ List.range' (i + 1) (3 - i)) := by
      rcases Nat.lt_or_ge i 1 with z | z
      · have : i = 0 := by omega
        subst this; rfl
      rcases Nat.lt_or_ge i 2 with z | z
      · have : i = 1 := by omega
        subst this; rfl
      rcases Nat.lt_or_ge i 3 with z | z
      · have : i = 2 := by omega
        subst this; rfl
      · have : i = 3 := by omega
        subst this; rfl
    rw [this, List.flatMap_append, List.flatMap_append]
    simp
  obtain ⟨r, e1⟩ := e1
  have e2 : strsW (i + 1) = (strsW (i + 1)).take j ++ (t :: (strsW (i + 1)).drop (j + 1)) := by
    obtain ⟨hj, e⟩ := List.getElem?_eq_some_iff.mp ht
    rw [← e, ← List.drop_eq_getElem_cons hj, List.take_append_drop]
  rw [e1, e2, List.filter_append, List.filter_append, List.filter_append]
  rw [List.filter_eq_nil_iff.mpr fun t ht => by rw [h1 t ht]; simp]
  rw [List.filter_eq_nil_iff.mpr fun t ht => by rw [h2 t ht]; simp]
  rw [List.filter_cons_of_pos hf]
  rfl
theorem fits_mends {ws : List Wd} {m : Nat} {t : Wd} (ht : t ∉ ws) (hm : mendsW ws m = true) : mendsW (ws ++ [t]) m = fitsW ws m t := by
  have e : fitsW ws m t = ws.all fun w => decide (2 * m < dist t w) := by
    unfold fitsW
    rw [decide_eq_false ht]; rfl
  rw [e]
  clear e ht
  induction ws with
  | nil => rfl
  | cons w r ih =>
    have h : (r.all fun v => decide (2 * m < dist w v)) = true ∧ mendsW r m = true := by
      have : ((r.all fun v => decide (2 * m < dist w v)) && mendsW r m) = true := hm
      rw [Bool.and_eq_true] at this
      exact this
    show (((r ++ [t]).all fun v => decide (2 * m < dist w v)) && mendsW (r ++ [t]) m) = _
    rw [ih h.2, List.all_append, h.1, List.all_cons, List.all_cons, List.all_nil, Bool.true_and, Bool.and_true, dist_symm w t]
theorem strsTo_succ (n : Nat) : strsTo (n + 1) = strsTo n ++ strsW (n + 1) := by
  unfold strsTo
  rw [List.range_succ, List.flatMap_append]
  simp
theorem strsTo_mem {n : Nat} {t : Wd} (h : t ∈ strsTo n) : 1 ≤ t.length ∧ t.length ≤ n ∧ LetAll t := by
  unfold strsTo at h
  obtain ⟨i, hi, ht⟩ := List.mem_flatMap.mp h
  have hi := List.mem_range.mp hi
  obtain ⟨h1, h2⟩ := strsW_mem _ t ht
  exact ⟨by omega, by omega, h2⟩
theorem strsW_all : ∀ {t : Wd}, LetAll t → t ∈ strsW t.length := by
  intro t
  induction h : t.length generalizing t with
  | zero => intro _; rw [List.eq_nil_of_length_eq_zero h]; simp [strsW]
  | succ n ih =>
    intro hl
    have hne : t ≠ [] := fun e => by rw [e] at h; cases h
    have et := List.dropLast_concat_getLast hne
    have h1 : t.dropLast.length = n := by rw [List.length_dropLast]; omega
    have h2 := ih h1 fun c hc => hl c (List.dropLast_subset _ hc)
    have h3 := hl _ (List.getLast_mem hne)
    unfold strsW
    rw [List.mem_flatMap]
    refine ⟨t.dropLast, h2, ?_⟩
    rw [List.mem_map]
    refine ⟨t.getLast hne, ?_, et⟩
    exact L_iff.mp h3
theorem mends_srt {ws : List Wd} {m : Nat} (hn : ws.Nodup) : mendsW (srt ws) m = mendsW ws m := by
  have hn2 : (srt ws).Nodup := (List.mergeSort_perm ws fun a b : Wd => decide (a ≤ b)).nodup_iff.mpr hn
  rw [Bool.eq_iff_iff, mends_all hn2, mends_all hn]
  constructor
  · intro h u hu v hv
    exact h u (srt_mem.mpr hu) v (srt_mem.mpr hv)
  · intro h u hu v hv
    exact h u (srt_mem.mp hu) v (srt_mem.mp hv)
theorem min_fits {ws : List Wd} {m : Nat} {t : Wd} {z : Int} (hin : t ∉ ws) (h1 : z ∈ ws.map fun v => ((dist t v : Nat) : Int)) (h2 : ∀ y ∈ ws.map fun v => ((dist t v : Nat) : Int), z ≤ y) : fitsW ws m t = decide (2 * (m : Int) < z) := by
  unfold fitsW
  rw [decide_eq_false hin, Bool.not_false, Bool.true_and, Bool.eq_iff_iff, List.all_eq_true, decide_eq_true_eq]
  obtain ⟨v, hv, rfl⟩ := List.mem_map.mp h1
  constructor
  · intro h
    have := of_decide_eq_true (h v hv)
    omega
  · intro h w hw
    have := h2 _ (List.mem_map.mpr ⟨w, hw, rfl⟩)
    exact decide_eq_true (by omega)
end SWk

set_option Elab.async false
set_option linter.all false
set_option maxRecDepth 100000
set_option maxHeartbeats 4000000
set_option autoImplicit true
namespace SWk
open PySem PySem.Spec PyProof.Rows L2 DL
open SW
/-! ### groups: words joined by steps of at most m slips -/
inductive Conn (ws : List Wd) (m : Nat) (u : Wd) : Wd → Prop
  | refl : Conn ws m u u
  | step {v w : Wd} : Conn ws m u v → v ∈ ws → w ∈ ws → dist v w ≤ m → Conn ws m u w
theorem Conn.trans {ws : List Wd} {m : Nat} {u v w : Wd} (h1 : Conn ws m u v) (h2 : Conn ws m v w) : Conn ws m u w := by
  induction h2 with
  | refl => exact h1
  | step _ a b c ih => exact .step ih a b c
theorem Conn.symm {ws : List Wd} {m : Nat} {u v : Wd} (h : Conn ws m u v) : Conn ws m v u := by
  induction h with
  | refl => exact .refl
  | step _ a b c ih => exact (Conn.step .refl b a (by rw [dist_symm]; exact c)).trans ih
theorem Conn.mono {ws : List Wd} {m n : Nat} {u v : Wd} (h : Conn ws m u v) (hmn : m ≤ n) : Conn ws n u v := by
  induction h with
  | refl => exact .refl
  | step _ a b c ih => exact .step ih a b (Nat.le_trans c hmn)
open Classical in
noncomputable def compW (ws : List Wd) (m : Nat) (u : Wd) : List Wd := ws.filter fun v => decide (Conn ws m u v)
theorem comp_mem {ws : List Wd} {m : Nat} {u v : Wd} : v ∈ compW ws m u ↔ v ∈ ws ∧ Conn ws m u v := by
  unfold compW
  rw [List.mem_filter]
  simp
def GroupsOf (ws : List Wd) (m : Nat) (rows : List (List Wd)) : Prop := rows.Pairwise (fun a b => DOrd.row.lt a b = true) ∧ ∀ r, r ∈ rows ↔ ∃ w ∈ ws, r = compW ws m w
theorem groups_uniq {ws : List Wd} {m : Nat} {a b : List (List Wd)} (ha : GroupsOf ws m a) (hb : GroupsOf ws m b) : a = b :=
  DOrd.row.sort_uniq ha.1 hb.1 fun x => by rw [ha.2, hb.2]
/-- the marks: what is marked alike is joined, and the pairs of D are -/
structure MInv (ws : List Wd) (m : Nat) (mk : List Nat) (D : Nat → Nat → Prop) : Prop where
  len : mk.length = ws.length
  snd : ∀ (a b : Nat) u v, ws[a]? = some u → ws[b]? = some v → mk[a]? = mk[b]? → Conn ws m u v
  cmp : ∀ (a b : Nat) u v, D a b → ws[a]? = some u → ws[b]? = some v → dist u v ≤ m → mk[a]? = mk[b]?
theorem MInv.start (ws : List Wd) (m : Nat) : MInv ws m (List.range ws.length) fun _ _ => False where
  len := by simp
  snd a b u v ha hb h := by
    have h1 := (List.getElem?_eq_some_iff.mp ha).1
    have h2 := (List.getElem?_eq_some_iff.mp hb).1
    rw [List.getElem?_range h1, List.getElem?_range h2] at h
    cases h
    rw [ha] at hb
    cases hb
    exact .refl
  cmp a b u v h := h.elim
theorem MInv.skip {ws : List Wd} {m i j : Nat} {mk : List Nat} {D : Nat → Nat → Prop} {u v : Wd} (h : MInv ws m mk D) (hi : ws[i]? = some u) (hj : ws[j]? = some v) (hs : mk[i]? = mk[j]? ∨ m < dist u v) : MInv ws m mk fun a b => D a b ∨ (a = i ∧ b = j) where
  len := h.len
  snd := h.snd
  cmp a b u' v' hD ha hb hd := by
    rcases hD with hD | ⟨rfl, rfl⟩
    · exact h.cmp a b u' v' hD ha hb hd
    · rw [hi] at ha; rw [hj] at hb
      cases ha; cases hb
      rcases hs with e | e
      · exact e
      · omega
theorem MInv.join {ws : List Wd} {m i j x y : Nat} {mk : List Nat} {D : Nat → Nat → Prop} {u v : Wd} (h : MInv ws m mk D) (hi : ws[i]? = some u) (hj : ws[j]? = some v) (hx : mk[i]? = some x) (hy : mk[j]? = some y) (hd : dist u v ≤ m) : MInv ws m (mk.map fun z => if z = x then y else z) fun a b => D a b ∨ (a = i ∧ b = j) where
  len := by rw [List.length_map, h.len]
  snd a b u' v' ha hb e := by
    have huv : Conn ws m u v := .step .refl (List.mem_of_getElem? hi) (List.mem_of_getElem? hj) hd
    rw [List.getElem?_map, List.getElem?_map] at e
    have la := (List.getElem?_eq_some_iff.mp ha).1
    have lb := (List.getElem?_eq_some_iff.mp hb).1
    rw [← h.len] at la lb
    have ea := List.getElem?_eq_getElem la
    have eb := List.getElem?_eq_getElem lb
    rw [ea, eb] at e
    have e : (if mk[a] = x then y else mk[a]) = if mk[b] = x then y else mk[b] := Option.some.inj e
    have toX : ∀ c w, ws[c]? = some w → mk[c]? = some x → Conn ws m u w := fun c w hc e => h.snd i c u w hi hc (by rw [hx, e])
    have toY : ∀ c w, ws[c]? = some w → mk[c]? = some y → Conn ws m v w := fun c w hc e => h.snd j c v w hj hc (by rw [hy, e])
    by_cases z1 : mk[a] = x
    · by_cases z2 : mk[b] = x
      · exact h.snd a b u' v' ha hb (by rw [ea, eb, z1, z2])
      · rw [if_pos z1, if_neg z2] at e
        exact ((toX a u' ha (by rw [ea, z1])).symm.trans huv).trans (toY b v' hb (by rw [eb, e]))
    · by_cases z2 : mk[b] = x
      · rw [if_neg z1, if_pos z2] at e
        exact ((toY a u' ha (by rw [ea, e])).symm.trans huv.symm).trans (toX b v' hb (by rw [eb, z2]))
      · rw [if_neg z1, if_neg z2] at e
        exact h.snd a b u' v' ha hb (by rw [ea, eb, e])
  cmp a b u' v' hD ha hb hd' := by
    rw [List.getElem?_map, List.getElem?_map]
    rcases hD with hD | ⟨rfl, rfl⟩
    · rw [h.cmp a b u' v' hD ha hb hd']
    · rw [hx, hy]
      simp
theorem nodup_at {l : List Wd} (hn : l.Nodup) {a c : Nat} (h1 : a < l.length) (h2 : c < l.length) (e : l[a] = l[c]) : a = c := by
  have hp := List.pairwise_iff_getElem.mp hn
  rcases Nat.lt_trichotomy a c with z | z | z
  · exact absurd e (hp a c h1 h2 z)
  · exact z
  · exact absurd e.symm (hp c a h2 h1 z)
/-- all pairs done -/
theorem MInv.all {ws : List Wd} {m : Nat} {mk : List Nat} {D : Nat → Nat → Prop} (h : MInv ws m mk D) (hD : ∀ a b, a < ws.length → b < ws.length → D a b) {a b : Nat} {u v : Wd} (ha : ws[a]? = some u) (hb : ws[b]? = some v) (hn : ws.Nodup) : mk[a]? = mk[b]? ↔ Conn ws m u v := by
  refine ⟨h.snd a b u v ha hb, fun hc => ?_⟩
  have key : ∀ w, Conn ws m u w → ∀ c : Nat, ws[c]? = some w → mk[a]? = mk[c]? := by
    intro w hw
    induction hw with
    | refl =>
      intro c hc
      obtain ⟨h1, e1⟩ := List.getElem?_eq_some_iff.mp ha
      obtain ⟨h2, e2⟩ := List.getElem?_eq_some_iff.mp hc
      rw [nodup_at hn h1 h2 (e1.trans e2.symm)]
    | step _ hv hw hd ih =>
      intro c hc
      obtain ⟨b', hb'⟩ := List.mem_iff_getElem?.mp hv
      rw [ih b' hb']
      exact h.cmp b' c _ _ (hD _ _ (List.getElem?_eq_some_iff.mp hb').1 (List.getElem?_eq_some_iff.mp hc).1) hb' hc hd
  exact key v hc b hb
/-! ### rows by marks -/
def rowOf (l : List (Wd × Nat)) (k : Nat) : List Wd := (l.filter fun p => decide (p.2 = k)).map (·.1)
theorem rowOf_snoc (l : List (Wd × Nat)) (w : Wd) (n k : Nat) : rowOf (l ++ [(w, n)]) k = if n = k then rowOf l k ++ [w] else rowOf l k := by
  unfold rowOf
  rw [List.filter_append]
  by_cases h : n = k
  · rw [if_pos h, List.filter_cons_of_pos (by simpa using h)]
    simp
  · rw [if_neg h, List.filter_cons_of_neg (by simpa using h)]
    simp
structure GI (l : List (Wd × Nat)) (g : List (Nat × List Wd)) : Prop where
  nd : (g.map (·.1)).Nodup
  ok : ∀ k r, (k, r) ∈ g ↔ r = rowOf l k ∧ r ≠ []
theorem GI.nil : GI [] [] := ⟨by simp, fun k r => by simp [rowOf]⟩
theorem valG_mem {g : List (Nat × List Wd)} {k : Nat} {r : List Wd} (hn : (g.map (·.1)).Nodup) (h : (k, r) ∈ g) : valG g k = some r := by
  unfold valG
  induction g with
  | nil => cases h
  | cons p g ih =>
    rw [List.map_cons, List.nodup_cons] at hn
    rcases List.mem_cons.mp h with h | h
    · subst h
      simp
    · have hne : p.1 ≠ k := fun e => hn.1 (by rw [e]; exact List.mem_map.mpr ⟨_, h, rfl⟩)
      rw [List.find?_cons_of_neg (by simpa using hne)]
      exact ih hn.2 h
theorem valG_none {g : List (Nat × List Wd)} {k : Nat} (h : ∀ r, (k, r) ∉ g) : valG g k = none := by
  unfold valG
  rw [List.find?_eq_none.mpr]
  · rfl
  · intro p hp
    simp only [decide_eq_true_eq]
    intro e
    subst e
    exact h p.2 hp
theorem GI.val {l : List (Wd × Nat)} {g : List (Nat × List Wd)} (h : GI l g) (k : Nat) : (valG g k).getD [] = rowOf l k := by
  by_cases e : rowOf l k = []
  · rw [valG_none fun r hr => (h.ok k r).mp hr |>.2 (((h.ok k r).mp hr).1.trans e), e]
    rfl
  · rw [valG_mem h.nd ((h.ok k _).mpr ⟨rfl, e⟩)]
    rfl
theorem GI.put {l : List (Wd × Nat)} {g : List (Nat × List Wd)} (h : GI l g) (w : Wd) (n : Nat) : GI (l ++ [(w, n)]) (putG g n (rowOf l n ++ [w])) := by
  unfold putG
  by_cases ha : (g.any fun kv => decide (kv.1 = n)) = true
  · rw [if_pos ha]
    obtain ⟨p, hp, ep⟩ := List.any_eq_true.mp ha
    have ep := of_decide_eq_true ep
    refine ⟨?_, fun k r => ?_⟩
    · rw [List.map_map]
      rw [show ((fun x : Nat × List Wd => x.1) ∘ fun kv => if kv.1 = n then (kv.1, rowOf l n ++ [w]) else kv) = (fun x => x.1) by
        funext kv
        show (if kv.1 = n then (kv.1, rowOf l n ++ [w]) else kv).1 = kv.1
        split <;> rfl]
      exact h.nd
    · rw [List.mem_map, rowOf_snoc]
      constructor
      · rintro ⟨q, hq, e⟩
        by_cases hk : q.1 = n
        · rw [if_pos hk] at e
          cases e
          rw [if_pos hk.symm, hk]
          exact ⟨rfl, by simp⟩
        · rw [if_neg hk] at e
          subst e
          rw [if_neg (fun z => hk z.symm)]
          exact (h.ok k r).mp hq
      · rintro ⟨e, hne⟩
        by_cases hk : n = k
        · rw [if_pos hk] at e
          refine ⟨p, hp, ?_⟩
          rw [if_pos ep, e, ← hk, ep]
        · rw [if_neg hk] at e
          refine ⟨(k, r), (h.ok k r).mpr ⟨e, hne⟩, ?_⟩
          rw [if_neg (fun z => hk z.symm)]
  · rw [if_neg ha]
    have hno : ∀ q ∈ g, q.1 ≠ n := fun q hq e => ha (List.any_eq_true.mpr ⟨q, hq, decide_eq_true e⟩)
    have hem : rowOf l n = [] := by
      by_cases e : rowOf l n = []
      · exact e
      · exact absurd rfl (hno _ ((h.ok n _).mpr ⟨rfl, e⟩))
    refine ⟨?_, fun k r => ?_⟩
    · rw [List.map_append, List.nodup_append]
      refine ⟨h.nd, by simp, fun a ha b hb e => ?_⟩
      obtain ⟨q, hq, rfl⟩ := List.mem_map.mp ha
      have : b = n := by simpa using hb
      exact hno q hq (e.trans this)
    · rw [List.mem_append, rowOf_snoc]
      constructor
      · rintro (hq | hq)
        · have hk : n ≠ k := fun e => hno _ hq e.symm
          rw [if_neg hk]
          exact (h.ok k r).mp hq
        · have hq : (k, r) = (n, rowOf l n ++ [w]) := by simpa using hq
          cases hq
          rw [if_pos rfl]
          exact ⟨rfl, by simp⟩
      · rintro ⟨e, hne⟩
        by_cases hk : n = k
        · rw [if_pos hk] at e
          right
          rw [e, ← hk]
          simp
        · rw [if_neg hk] at e
          exact .inl ((h.ok k r).mpr ⟨e, hne⟩)
theorem GI.vals {l : List (Wd × Nat)} {g : List (Nat × List Wd)} (h : GI l g) (hl : ∀ w a b, (w, a) ∈ l → (w, b) ∈ l → a = b) : (g.map (·.2)).Nodup := by
  have hp : g.Pairwise fun a b => a.1 ≠ b.1 := by
    have := h.nd
    unfold List.Nodup at this
    rw [List.pairwise_map] at this
    exact this
  unfold List.Nodup
  rw [List.pairwise_map]
  refine hp.imp_of_mem fun {a b} ha hb hne e => hne ?_
  obtain ⟨h1, h2⟩ := (h.ok a.1 a.2).mp ha
  obtain ⟨h3, _⟩ := (h.ok b.1 b.2).mp hb
  obtain ⟨w, hw⟩ := List.exists_mem_of_ne_nil _ h2
  have hw2 : w ∈ rowOf l b.1 := by rw [← h3, ← e]; exact hw
  rw [h1] at hw
  unfold rowOf at hw hw2
  obtain ⟨p, hp, e1⟩ := List.mem_map.mp hw
  obtain ⟨q, hq, e2⟩ := List.mem_map.mp hw2
  obtain ⟨hp1, hp2⟩ := List.mem_filter.mp hp
  obtain ⟨hq1, hq2⟩ := List.mem_filter.mp hq
  have hp2 := of_decide_eq_true hp2
  have hq2 := of_decide_eq_true hq2
  rw [← hp2, ← hq2]
  refine hl w p.2 q.2 ?_ ?_
  · rw [← e1]; exact hp1
  · rw [← e2]; exact hq1
theorem row_comp {ws : List Wd} {m : Nat} {u : Wd} {k : Nat} {l : List (Wd × Nat)} (h1 : l.map (·.1) = ws) (h2 : ∀ p ∈ l, p.2 = k ↔ Conn ws m u p.1) : rowOf l k = compW ws m u := by
  unfold rowOf compW
  have e : ∀ l' : List (Wd × Nat), (∀ p ∈ l', p.2 = k ↔ Conn ws m u p.1) → (l'.filter fun p => decide (p.2 = k)).map (·.1) = (l'.map (·.1)).filter fun v => @decide (Conn ws m u v) (Classical.propDecidable _) := by
    intro l' h
    induction l' with
    | nil => rfl
    | cons p l' ih =>
      have hp := h p (by simp)
      have ih := ih fun q hq => h q (by simp [hq])
      rw [List.map_cons]
      by_cases e : p.2 = k
      · rw [List.filter_cons_of_pos (by simpa using e), List.filter_cons_of_pos (by simpa using hp.mp e), List.map_cons, ih]
      · rw [List.filter_cons_of_neg (by simpa using e), List.filter_cons_of_neg (by simpa using fun z => e (hp.mpr z)), ih]
  rw [e l h2, h1]
theorem groups_of {ws : List Wd} {m : Nat} {mk : List Nat} {D : Nat → Nat → Prop} {g : List (Nat × List Wd)} (hn : ws.Nodup) (h : MInv ws m mk D) (hD : ∀ a b, a < ws.length → b < ws.length → D a b) (hg : GI (ws.zip mk) g) : GroupsOf ws m (DOrd.row.sort (g.map (·.2))) := by
  have hz : ∀ p, p ∈ ws.zip mk → ∃ i : Nat, ws[i]? = some p.1 ∧ mk[i]? = some p.2 := fun p hp => by
    obtain ⟨i, hi⟩ := List.mem_iff_getElem?.mp hp
    exact ⟨i, List.getElem?_zip_eq_some.mp hi⟩
  have hfst : (ws.zip mk).map (·.1) = ws := List.map_fst_zip (by have := h.len; omega)
  have hrow : ∀ (i : Nat) w k, ws[i]? = some w → mk[i]? = some k → rowOf (ws.zip mk) k = compW ws m w := fun i w k hw hk => by
    refine row_comp hfst fun q hq => ?_
    obtain ⟨j, hj1, hj2⟩ := hz q hq
    rw [← h.all hD hw hj1 hn, hk, hj2]
    constructor
    · intro e; rw [e]
    · intro e; exact (Option.some.inj e).symm
  refine ⟨DOrd.row.sort_asc (hg.vals fun w a b ha hb => ?_), fun r => ?_⟩
  · obtain ⟨i, hi1, hi2⟩ := hz _ ha
    obtain ⟨j, hj1, hj2⟩ := hz _ hb
    obtain ⟨l1, e1⟩ := List.getElem?_eq_some_iff.mp hi1
    obtain ⟨l2, e2⟩ := List.getElem?_eq_some_iff.mp hj1
    have := nodup_at hn l1 l2 (e1.trans e2.symm)
    subst this
    rw [hi2] at hj2
    exact Option.some.inj hj2
  · rw [DOrd.row.sort_mem, List.mem_map]
    constructor
    · rintro ⟨⟨k, r'⟩, hkr, rfl⟩
      obtain ⟨e, hne⟩ := (hg.ok k r').mp hkr
      obtain ⟨w, hw⟩ := List.exists_mem_of_ne_nil _ hne
      rw [e] at hw
      unfold rowOf at hw
      obtain ⟨p, hp, e1⟩ := List.mem_map.mp hw
      obtain ⟨hp1, hp2⟩ := List.mem_filter.mp hp
      have hp2 := of_decide_eq_true hp2
      obtain ⟨i, hi1, hi2⟩ := hz p hp1
      refine ⟨p.1, List.mem_of_getElem? hi1, ?_⟩
      show r' = _
      rw [e]
      exact hrow i _ k hi1 (by rw [hi2, hp2])
    · rintro ⟨w, hw, rfl⟩
      obtain ⟨i, hi⟩ := List.mem_iff_getElem?.mp hw
      have hl := (List.getElem?_eq_some_iff.mp hi).1
      have hk := List.getElem?_eq_getElem (l := mk) (i := i) (by rw [h.len]; exact hl)
      refine ⟨(mk[i]'(by rw [h.len]; exact hl), compW ws m w), (hg.ok _ _).mpr ⟨(hrow i w _ hi hk).symm, ?_⟩, rfl⟩
      exact List.ne_nil_of_mem (comp_mem.mpr ⟨hw, .refl⟩)
/-- the dict as data -/
def encG (p : Nat × List Wd) : Key × D := (.inl ((p.1 : Nat) : Int), .tuple (p.2.map sD))
theorem valG_enc (g : List (Nat × List Wd)) (k : Nat) : (valG (g.map encG) (.inl (k : Int))).getD (.tuple []) = .tuple (((valG g k).getD []).map sD) := by
  unfold valG
  rw [List.find?_map]
  have : ((fun kv : Key × D => decide (kv.1 = (.inl (k : Int) : Key))) ∘ encG) = fun kv => decide (kv.1 = k) := by
    funext kv
    show decide ((Sum.inl ((kv.1 : Nat) : Int) : Key) = .inl (k : Int)) = _
    by_cases e : kv.1 = k
    · rw [e]; simp
    · rw [decide_eq_false e, decide_eq_false fun z => e (by have := Sum.inl.inj z; omega)]
  rw [this]
  cases g.find? fun kv => decide (kv.1 = k) <;> rfl
theorem putG_enc (g : List (Nat × List Wd)) (k : Nat) (r : List Wd) : putG (g.map encG) (.inl (k : Int)) (.tuple (r.map sD)) = (putG g k r).map encG := by
  have key : ∀ kv : Nat × List Wd, ((encG kv).1 = (.inl (k : Int) : Key)) ↔ kv.1 = k := fun kv => by
    show (Sum.inl ((kv.1 : Nat) : Int) : Key) = .inl (k : Int) ↔ _
    constructor
    · intro z; have := Sum.inl.inj z; omega
    · intro z; rw [z]
  unfold putG
  rw [List.any_map]
  have e1 : ((fun kv : Key × D => decide (kv.1 = (.inl (k : Int) : Key))) ∘ encG) = fun kv => decide (kv.1 = k) := by
    funext kv
    exact decide_eq_decide.mpr (key kv)
  rw [e1]
  split
  · rw [List.map_map, List.map_map]
    congr 1
    funext kv
    show (if (encG kv).1 = (.inl (k : Int) : Key) then ((encG kv).1, PyData.tuple (r.map sD)) else encG kv) = encG (if kv.1 = k then (kv.1, r) else kv)
    by_cases e : kv.1 = k
    · rw [if_pos e, if_pos ((key kv).mpr e)]
      rfl
    · rw [if_neg e, if_neg fun z => e ((key kv).mp z)]
  · rw [List.map_append]
    rfl
def rowD (r : List Wd) : D := .tuple (r.map sD)
def F_groups : List D → (D → Prop) → Prop := fun ds Q => ∃ ws, ∃ m : Nat, ds = [.tuple (ws.map sD), .int (m : Int)] ∧ WL ws ∧ m ≤ 9 ∧ ∀ rows, GroupsOf ws m rows → Q (.tuple (rows.map rowD))
theorem mono_groups : MonoD F_groups := fun ds P P' h ⟨a, b, e, h1, h2, q⟩ => ⟨a, b, e, h1, h2, fun r hr => h _ (q r hr)⟩
end SWk

set_option Elab.async false
set_option linter.all false
set_option maxRecDepth 100000
set_option maxHeartbeats 4000000
set_option autoImplicit true
namespace SWk
open PySem PySem.Spec PyProof.Rows L2 DL
open SW
/-! ### the centre -/
def O2 : DOrd (Nat × Wd) := .pair .nat .wd
theorem O2_enc (p : Nat × Wd) : O2.enc p = .tuple [.int (p.1 : Int), sD p.2] := rfl
noncomputable def farW (ws : List Wd) (w : Wd) : Nat := ((ws.map fun v => dist w v).max?).getD 0
theorem farW_eq {ws : List Wd} {w : Wd} {z : Int} (h1 : z ∈ ws.map fun v => ((dist w v : Nat) : Int)) (h2 : ∀ y ∈ ws.map fun v => ((dist w v : Nat) : Int), y ≤ z) : z = ((farW ws w : Nat) : Int) := by
  obtain ⟨v, hv, rfl⟩ := List.mem_map.mp h1
  have : (ws.map fun v => dist w v).max? = some (dist w v) := by
    rw [List.max?_eq_some_iff]
    refine ⟨List.mem_map.mpr ⟨v, hv, rfl⟩, fun b hb => ?_⟩
    obtain ⟨v', hv', rfl⟩ := List.mem_map.mp hb
    have := h2 _ (List.mem_map.mpr ⟨v', hv', rfl⟩)
    omega
  unfold farW
  rw [this]
  rfl
def Centre (ws : List Wd) (c : Wd) : Prop := c ∈ ws ∧ ∀ w ∈ ws, O2.lt (farW ws w, w) (farW ws c, c) = false
theorem centre_uniq {ws : List Wd} {a b : Wd} (ha : Centre ws a) (hb : Centre ws b) : a = b := congrArg Prod.snd (O2.tri _ _ (hb.2 a ha.1) (ha.2 b hb.1))
def F_centre : List D → (D → Prop) → Prop := fun ds Q => ∃ ws, ds = [.tuple (ws.map sD)] ∧ WL ws ∧ ∀ c, Centre ws c → Q (sD c)
theorem mono_centre : MonoD F_centre := fun ds P P' h ⟨a, e, h1, q⟩ => ⟨a, e, h1, fun c hc => h _ (q c hc)⟩
theorem centre_of {ws : List Wd} {a : Nat × Wd} {l : List (Nat × Wd)} (e : (ws.map fun w => (farW ws w, w)) = a :: l) : Centre ws (O2.leastOf a l).2 ∧ O2.leastOf a l = (farW ws (O2.leastOf a l).2, (O2.leastOf a l).2) := by
  obtain ⟨h1, h2⟩ := O2.leastOf_spec l a
  rw [← e] at h1 h2
  obtain ⟨w, hw, ew⟩ := List.mem_map.mp h1
  rw [← ew]
  refine ⟨⟨hw, fun v hv => ?_⟩, rfl⟩
  have := h2 _ (List.mem_map.mpr ⟨v, hv, rfl⟩)
  rw [← ew] at this
  exact this
theorem MInv.weak {ws : List Wd} {m : Nat} {mk : List Nat} {D D' : Nat → Nat → Prop} (h : MInv ws m mk D) (k : ∀ a b, a < ws.length → b < ws.length → D' a b → D a b) : MInv ws m mk D' :=
  ⟨h.len, h.snd, fun a b u v hD ha hb => h.cmp a b u v (k a b (List.getElem?_eq_some_iff.mp ha).1 (List.getElem?_eq_some_iff.mp hb).1 hD) ha hb⟩
theorem valG_encS (g : List (Nat × List Wd)) (k : Nat) : valG (g.map encG) (.inl (k : Int)) = (valG g k).map rowD := by
  unfold valG
  rw [List.find?_map]
  have : ((fun kv : Key × D => decide (kv.1 = (.inl (k : Int) : Key))) ∘ encG) = fun kv => decide (kv.1 = k) := by
    funext kv
    show decide ((Sum.inl ((kv.1 : Nat) : Int) : Key) = .inl (k : Int)) = _
    by_cases e : kv.1 = k
    · rw [e]; simp
    · rw [decide_eq_false e, decide_eq_false fun z => e (by have := Sum.inl.inj z; omega)]
  rw [this]
  cases g.find? fun kv => decide (kv.1 = k) <;> rfl
theorem putG_lenW (g : List (Nat × List Wd)) (k : Nat) (r : List Wd) : (putG g k r).length ≤ g.length + 1 := by
  unfold putG
  split
  · rw [List.length_map]; omega
  · simp
theorem rowOf_len (l : List (Wd × Nat)) (k : Nat) : (rowOf l k).length ≤ l.length := by
  unfold rowOf
  rw [List.length_map]
  exact List.length_filter_le _ _
end SWk

set_option Elab.async false
set_option linter.all false
set_option maxRecDepth 100000
set_option maxHeartbeats 4000000
set_option autoImplicit true
namespace SWk
open PySem PySem.Spec PyProof.Rows L2 DL
open SW
def F__law_group : List D → (D → Prop) → Prop := fun ds Q => ∃ ws w, ∃ m : Nat, ds = [.tuple (ws.map sD), .int (m : Int), sD w] ∧ WL ws ∧ w ∈ ws ∧ m ≤ 100 ∧ Q (rowD (compW ws m w))
theorem mono__law_group : MonoD F__law_group := fun ds P P' h ⟨a, b, c, e, h1, h2, h3, q⟩ => ⟨a, b, c, e, h1, h2, h3, h _ q⟩
noncomputable def leftW (ws fs : List Wd) : List Wd := ws.filter fun v => !decide (v ∈ fs)
noncomputable def fitG (ws fs : List Wd) (m : Nat) : List Wd := (leftW ws fs).filter fun v => fs.any fun o => decide (dist v o ≤ m)
structure CI (ws : List Wd) (m : Nat) (w : Wd) (fs : List Wd) : Prop where
  nd : fs.Nodup
  me : w ∈ fs
  ok : ∀ v ∈ fs, v ∈ ws ∧ Conn ws m w v
theorem CI.start {ws : List Wd} {m : Nat} {w : Wd} (h : w ∈ ws) : CI ws m w [w] := ⟨by simp, by simp, fun v hv => by rw [List.mem_singleton.mp hv]; exact ⟨h, .refl⟩⟩
theorem CI.more {ws fs : List Wd} {m : Nat} {w : Wd} (hn : ws.Nodup) (h : CI ws m w fs) : CI ws m w (fs ++ fitG ws fs m) := by
  refine ⟨?_, List.mem_append_left _ h.me, fun v hv => ?_⟩
  · rw [List.nodup_append]
    refine ⟨h.nd, (hn.sublist List.filter_sublist).sublist List.filter_sublist, fun a ha b hb e => ?_⟩
    subst e
    unfold fitG leftW at hb
    have := (List.mem_filter.mp (List.mem_filter.mp hb).1).2
    simp [ha] at this
  · rcases List.mem_append.mp hv with hv | hv
    · exact h.ok v hv
    · unfold fitG leftW at hv
      obtain ⟨h1, h2⟩ := List.mem_filter.mp hv
      have h1 := (List.mem_filter.mp h1).1
      obtain ⟨o, ho, e⟩ := List.any_eq_true.mp h2
      have e := of_decide_eq_true e
      obtain ⟨h3, h4⟩ := h.ok o ho
      exact ⟨h1, .step h4 h3 h1 (by rw [dist_symm]; exact e)⟩
theorem left_more (ws fs gs : List Wd) : (leftW ws fs).filter (fun v => !decide (v ∈ gs)) = leftW ws (fs ++ gs) := by
  unfold leftW
  rw [List.filter_filter]
  congr 1
  funext v
  by_cases h1 : v ∈ fs <;> by_cases h2 : v ∈ gs <;> simp [h1, h2]
theorem left_less {ws fs : List Wd} {m : Nat} (h : fitG ws fs m ≠ []) : (leftW ws (fs ++ fitG ws fs m)).length < (leftW ws fs).length := by
  obtain ⟨v, hv⟩ := List.exists_mem_of_ne_nil _ h
  rw [← left_more]
  have hv1 : v ∈ leftW ws fs := (List.mem_filter.mp hv).1
  refine List.length_filter_lt_length_iff_exists.mpr ⟨v, hv1, ?_⟩
  simp [hv]
theorem CI.done {ws fs : List Wd} {m : Nat} {w : Wd} (hp : ws.Pairwise (· < ·)) (h : CI ws m w fs) (he : fitG ws fs m = []) : srt fs = compW ws m w := by
  have hc : ∀ v, Conn ws m w v → v ∈ fs := by
    intro v hv
    induction hv with
    | refl => exact h.me
    | step _ h1 h2 h3 ih =>
      rename_i a b _
      by_cases hb : b ∈ fs
      · exact hb
      · have : b ∈ fitG ws fs m := List.mem_filter.mpr ⟨List.mem_filter.mpr ⟨h2, by simpa using hb⟩, List.any_eq_true.mpr ⟨a, ih, decide_eq_true (by rw [dist_symm]; exact h3)⟩⟩
        rw [he] at this
        cases this
  refine DOrd.wd.sort_uniq ((srt_asc h.nd).imp fun h => decide_eq_true h) ?_ fun x => ?_
  · unfold compW
    exact (hp.sublist List.filter_sublist).imp fun h => decide_eq_true h
  · rw [srt_mem, comp_mem]
    exact ⟨h.ok x, fun z => hc x z.2⟩
theorem min_any {fs : List Wd} {m : Nat} {t : Wd} {z : Int} (h1 : z ∈ fs.map fun v => ((dist t v : Nat) : Int)) (h2 : ∀ y ∈ fs.map fun v => ((dist t v : Nat) : Int), z ≤ y) : decide (z ≤ (m : Int)) = fs.any fun o => decide (dist t o ≤ m) := by
  rw [Bool.eq_iff_iff, decide_eq_true_eq, List.any_eq_true]
  obtain ⟨v, hv, rfl⟩ := List.mem_map.mp h1
  constructor
  · intro h
    exact ⟨v, hv, decide_eq_true (by omega)⟩
  · rintro ⟨o, ho, h⟩
    have h := of_decide_eq_true h
    have := h2 _ (List.mem_map.mpr ⟨o, ho, rfl⟩)
    omega
theorem left_len (ws fs : List Wd) : (leftW ws fs).length ≤ ws.length := List.length_filter_le _ _
theorem CI.len {ws fs : List Wd} {m : Nat} {w : Wd} (h : CI ws m w fs) : fs.length ≤ ws.length := nodup_sub_len h.nd fun v hv => (h.ok v hv).1
end SWk

set_option Elab.async false
set_option linter.all false
set_option maxRecDepth 100000
set_option maxHeartbeats 4000000
set_option autoImplicit true
namespace SWk
open PySem PySem.Spec PyProof.Rows L2 DL
open SW
/-- the strings so many slips away, ascending -/
def NearOf (t : Wd) (n : Nat) (l : List Wd) : Prop := l.Pairwise (· < ·) ∧ ∀ y, y ∈ l ↔ LetAll y ∧ dist t y = n
theorem near_uniq {t : Wd} {n : Nat} {a b : List Wd} (ha : NearOf t n a) (hb : NearOf t n b) : a = b :=
  DOrd.wd.sort_uniq (ha.1.imp fun h => decide_eq_true h) (hb.1.imp fun h => decide_eq_true h) fun x => by rw [ha.2, hb.2]
def F_found_near : List D → (D → Prop) → Prop := fun ds Q => ∃ t, ∃ n : Nat, ds = [sD t, .int (n : Int)] ∧ Word t ∧ n ≤ 2 ∧ ∀ l, NearOf t n l → Q (.list (l.map sD))
theorem mono_found_near : MonoD F_found_near := fun ds P P' h ⟨a, b, e, h1, h2, q⟩ => ⟨a, b, e, h1, h2, fun r hr => h _ (q r hr)⟩
def F_near : List D → (D → Prop) → Prop := fun ds Q => ∃ t, ∃ n : Nat, ds = [sD t, .int (n : Int)] ∧ Word t ∧ n ≤ 2 ∧ ∀ l, NearOf t n l → Q (.tuple (l.map sD))
theorem mono_near : MonoD F_near := fun ds P P' h ⟨a, b, e, h1, h2, q⟩ => ⟨a, b, e, h1, h2, fun r hr => h _ (q r hr)⟩
def F_count_near : List D → (D → Prop) → Prop := fun ds Q => ∃ t, ∃ n : Nat, ds = [sD t, .int (n : Int)] ∧ Word t ∧ n ≤ 2 ∧ ∀ l, NearOf t n l → Q (.int ((l.length : Nat) : Int))
theorem mono_count_near : MonoD F_count_near := fun ds P P' h ⟨a, b, e, h1, h2, q⟩ => ⟨a, b, e, h1, h2, fun r hr => h _ (q r hr)⟩
/-- level k: each string so far away, once -/
structure LvI (t : Wd) (k : Nat) (lv ms : List Wd) : Prop where
  nd : lv.Nodup
  onLv : ∀ y, y ∈ lv ↔ LetAll y ∧ dist t y = k
  inMs : ∀ y, y ∈ ms ↔ LetAll y ∧ dist t y ≤ k
/-- between: the strings of the next level that `S` has seen -/
structure LtI (t : Wd) (k : Nat) (S : Wd → Prop) (la ms : List Wd) : Prop where
  nd : la.Nodup
  onLa : ∀ y, y ∈ la ↔ LetAll y ∧ dist t y = k + 1 ∧ S y
  inMs : ∀ y, y ∈ ms ↔ (LetAll y ∧ dist t y ≤ k) ∨ y ∈ la
theorem LtI.start {t : Wd} {k : Nat} {lv ms : List Wd} (h : LvI t k lv ms) : LtI t k (fun _ => False) [] ms :=
  ⟨by simp, fun y => by simp, fun y => by rw [h.inMs]; simp⟩
theorem LtI.skip {t : Wd} {k : Nat} {S : Wd → Prop} {la ms : List Wd} {z : Wd} (h : LtI t k S la ms) (hz : z ∈ ms) : LtI t k (fun y => S y ∨ y = z) la ms := by
  refine ⟨h.nd, fun y => ?_, h.inMs⟩
  rw [h.onLa]
  constructor
  · rintro ⟨a, b, c⟩; exact ⟨a, b, .inl c⟩
  · rintro ⟨a, b, c | c⟩
    · exact ⟨a, b, c⟩
    · subst c
      rcases (h.inMs y).mp hz with e | e
      · omega
      · exact (h.onLa y).mp e
theorem LtI.add {t : Wd} {k : Nat} {S : Wd → Prop} {la ms : List Wd} {z : Wd} (h : LtI t k S la ms) (hz : z ∉ ms) (hl : LetAll z) (hd : dist t z ≤ k + 1) : LtI t k (fun y => S y ∨ y = z) (la ++ [z]) (ms ++ [z]) := by
  have hk : dist t z = k + 1 := by
    rcases Nat.lt_or_ge k (dist t z) with e | e
    · omega
    · exact absurd ((h.inMs z).mpr (.inl ⟨hl, e⟩)) hz
  refine ⟨?_, fun y => ?_, fun y => ?_⟩
  · rw [List.nodup_append]
    refine ⟨h.nd, by simp, fun a ha b hb e => hz ?_⟩
    rw [← List.mem_singleton.mp hb, ← e]
    exact (h.inMs a).mpr (.inr ha)
  · rw [List.mem_append, List.mem_singleton, h.onLa]
    constructor
    · rintro (⟨a, b, c⟩ | c)
      · exact ⟨a, b, .inl c⟩
      · subst c; exact ⟨hl, hk, .inr rfl⟩
    · rintro ⟨a, b, c | c⟩
      · exact .inl ⟨a, b, c⟩
      · exact .inr c
  · rw [List.mem_append, List.mem_append, List.mem_singleton, h.inMs, or_assoc]
theorem LtI.weak {t : Wd} {k : Nat} {S S' : Wd → Prop} {la ms : List Wd} (h : LtI t k S la ms) (e : ∀ y, S y ↔ S' y) : LtI t k S' la ms :=
  ⟨h.nd, fun y => by rw [h.onLa, e], h.inMs⟩
theorem LtI.next {t : Wd} {k : Nat} {lv la ms : List Wd} (ht : LetAll t) (hv : ∀ y, y ∈ lv ↔ LetAll y ∧ dist t y = k) (h : LtI t k (fun y => ∃ x ∈ lv, Slip L x y) la ms) : LvI t (k + 1) la ms := by
  have hla : ∀ y, y ∈ la ↔ LetAll y ∧ dist t y = k + 1 := fun y => by
    rw [h.onLa]
    constructor
    · rintro ⟨a, b, _⟩; exact ⟨a, b⟩
    · rintro ⟨a, b⟩
      obtain ⟨x, hx, e⟩ := slip_toward a ht (by rw [dist_symm]; exact b)
      have hxl : LetAll x := (slip1 (.inr hx) a).1
      exact ⟨a, b, x, (hv x).mpr ⟨hxl, by rw [dist_symm]; exact e⟩, hx.symm a⟩
  refine ⟨h.nd, hla, fun y => ?_⟩
  rw [h.inMs, hla]
  constructor
  · rintro (⟨a, b⟩ | ⟨a, b⟩)
    · exact ⟨a, by omega⟩
    · exact ⟨a, by omega⟩
  · rintro ⟨a, b⟩
    rcases Nat.lt_or_ge k (dist t y) with z | z
    · exact .inr ⟨a, by omega⟩
    · exact .inl ⟨a, z⟩
theorem LvI.start {t : Wd} (ht : LetAll t) : LvI t 0 [t] [t] := by
  refine ⟨by simp, fun y => ?_, fun y => ?_⟩
  · rw [List.mem_singleton]
    constructor
    · rintro rfl; exact ⟨ht, dist_self _⟩
    · rintro ⟨_, h⟩; exact (dist_zero.mp h).symm
  · rw [List.mem_singleton]
    constructor
    · rintro rfl; exact ⟨ht, by rw [dist_self]; omega⟩
    · rintro ⟨_, h⟩; exact (dist_zero.mp (by omega)).symm
theorem met_any (ms : List Wd) (z : Wd) : ((ms.map fun y => ((Sum.inr (T y) : Key), (PyData.bool true : D))).any fun kv => decide (kv.1 = (Sum.inr (T z) : Key))) = decide (z ∈ ms) := by
  rw [Bool.eq_iff_iff, List.any_eq_true, decide_eq_true_eq]
  constructor
  · rintro ⟨kv, h1, h2⟩
    obtain ⟨y, hy, rfl⟩ := List.mem_map.mp h1
    have h2 := of_decide_eq_true h2
    rw [← T_inj.mp (Sum.inr.inj h2)]
    exact hy
  · intro h
    exact ⟨_, List.mem_map.mpr ⟨z, h, rfl⟩, decide_eq_true rfl⟩
theorem met_in (ms : List Wd) (z : Wd) : (valG (ms.map fun y => ((Sum.inr (T y) : Key), (PyData.bool true : D))) (Sum.inr (T z))).isSome = decide (z ∈ ms) := by
  rw [← met_any]
  unfold valG
  rw [Option.isSome_map, Bool.eq_iff_iff, List.find?_isSome, List.any_eq_true]
theorem met_put {ms : List Wd} {z : Wd} (h : z ∉ ms) : putG (ms.map fun y => ((Sum.inr (T y) : Key), (PyData.bool true : D))) (Sum.inr (T z)) (.bool true) = (ms ++ [z]).map fun y => ((Sum.inr (T y) : Key), (PyData.bool true : D)) := by
  unfold putG
  rw [met_any, decide_eq_false h, if_neg (by simp), List.map_append]
  rfl
end SWk

set_option Elab.async false
set_option linter.all false
set_option maxRecDepth 100000
set_option maxHeartbeats 4000000
set_option autoImplicit true
namespace SWk
open PySem PySem.Spec PyProof.Rows L2 DL
open SW
/-! ### counting letters; words of one letter -/
theorem slip_count {P : Nat → Prop} {u v : Wd} (h : Slip P u v) (c : Nat) : u.count c ≤ v.count c + 1 := by
  induction h with
  | ins d u _ => rw [List.count_cons]; omega
  | del d u => rw [List.count_cons]; split <;> omega
  | chg d e u _ _ => rw [List.count_cons, List.count_cons]; split <;> split <;> omega
  | exc d e u _ => simp only [List.count_cons]; omega
  | cons d h ih => rw [List.count_cons, List.count_cons]; omega
theorem path_count {P : Nat → Prop} {u v : Wd} {n : Nat} (h : Path P u v n) (c : Nat) : u.count c ≤ v.count c + n := by
  induction h with
  | refl => omega
  | step s _ ih => have := slip_count s c; omega
theorem dist_count (u v : Wd) (c : Nat) : u.count c ≤ v.count c + dist u v := path_count (dist_path (P := fun _ => True) u v fun _ _ => trivial) c
theorem count_rep (n c : Nat) : (List.replicate n c).count c = n := List.count_replicate_self
theorem count_rep_ne (n : Nat) {c d : Nat} (h : c ≠ d) : (List.replicate n d).count c = 0 := by
  rw [List.count_replicate, if_neg (by simp; omega)]
theorem dist_rep (n : Nat) {c d : Nat} (h : c ≠ d) : dist (List.replicate n c) (List.replicate n d) = n := by
  have h1 := dist_count (List.replicate n c) (List.replicate n d) c
  rw [count_rep, count_rep_ne n h] at h1
  have h2 := dist_max (List.replicate n c) (List.replicate n d)
  rw [List.length_replicate, List.length_replicate, Nat.max_self] at h2
  omega
theorem dist_rep_nil (n c : Nat) : dist (List.replicate n c) [] = n := by
  rw [dist_sub (List.nil_sublist _), List.length_replicate]; rfl
theorem dist_rep_one {n c : Nat} (h : 1 ≤ n) : dist (List.replicate n c) [c] = n - 1 := by
  rw [dist_sub (by simpa using (by omega : n ≠ 0)), List.length_replicate]; rfl
theorem dist_rep_other {n c d : Nat} (h : c ≠ d) : n ≤ dist (List.replicate n d) [c] := by
  have h1 := dist_count (List.replicate n d) [c] d
  rw [count_rep, List.count_singleton, if_neg (by simpa using h)] at h1
  omega
theorem lcs_rep (n : Nat) {c d : Nat} (h : c ≠ d) : lcs (List.replicate n c) (List.replicate n d) = 0 := by
  obtain ⟨z, h1, h2, h3⟩ := lcs_get (List.replicate n c) (List.replicate n d)
  cases z with
  | nil => exact h3.symm
  | cons x z =>
    have e1 := List.eq_of_mem_replicate (h1.subset (List.mem_cons_self))
    have e2 := List.eq_of_mem_replicate (h2.subset (List.mem_cons_self))
    exact absurd (e1.symm.trans e2) h
theorem asc_nd {ws : List Wd} (h : ws.Pairwise (· < ·)) : ws.Nodup := by
  refine List.Pairwise.imp ?_ h
  intro a b hlt e
  subst e
  exact wlt_irrefl _ hlt
/-! ### how many strings are near -/
def ddW : List Wd → List Wd
  | [] => []
  | a :: l => if a ∈ ddW l then ddW l else a :: ddW l
theorem ddW_mem {x : Wd} : ∀ {l : List Wd}, x ∈ ddW l ↔ x ∈ l
  | [] => by simp [ddW]
  | a :: l => by
    unfold ddW
    by_cases h : a ∈ ddW l
    · rw [if_pos h, ddW_mem (l := l), List.mem_cons]
      exact ⟨.inr, fun z => z.elim (fun e => e ▸ ddW_mem.mp h) id⟩
    · rw [if_neg h, List.mem_cons, List.mem_cons, ddW_mem (l := l)]
theorem ddW_nodup : ∀ l : List Wd, (ddW l).Nodup
  | [] => by simp [ddW]
  | a :: l => by
    unfold ddW
    by_cases h : a ∈ ddW l
    · rw [if_pos h]; exact ddW_nodup l
    · rw [if_neg h]; exact List.nodup_cons.mpr ⟨h, ddW_nodup l⟩
theorem len_same {l m : List Wd} (hl : l.Nodup) (hm : m.Nodup) (h : ∀ x, x ∈ l ↔ x ∈ m) : l.length = m.length :=
  Nat.le_antisymm (nodup_le hl fun x hx => (h x).mp hx) (nodup_le hm fun x hx => (h x).mpr hx)
def nearF (w : Wd) : List Wd := ddW (((List.range (w.length + 1)).flatMap (candsAt w)).filter fun x => x.all isLet && !decide (x = w))
theorem cands_slip {w x : Wd} {i : Nat} (hw : LetAll w) (hi : i ≤ w.length) (h : x ∈ candsAt w i) (hx : LetAll x) (hne : x ≠ w) : Slip L w x := by
  refine cd_slip (i := i) hw ?_ hne
  have hL0 : ¬ L 0 := by unfold L; decide
  have inX : ∀ (a b : Wd) (c : Nat), x = a ++ c :: b → L c := fun a b c e => hx c (by rw [e]; simp)
  unfold candsAt at h
  rcases List.mem_append.mp h with h | h
  · obtain ⟨c, _, rfl⟩ := List.mem_map.mp h
    exact .inl ⟨c, inX _ _ c rfl, rfl⟩
  rcases List.mem_append.mp h with h | h
  · obtain ⟨c, _, rfl⟩ := List.mem_map.mp h
    by_cases hlt : i < w.length
    · exact .inr (.inl ⟨hlt, c, inX _ _ c rfl, rfl⟩)
    · refine .inl ⟨c, inX _ _ c rfl, ?_⟩
      rw [List.drop_eq_nil_of_le (by omega : w.length ≤ i), List.drop_eq_nil_of_le (by omega : w.length ≤ i + 1)]
  rcases List.mem_append.mp h with h | h
  · have e := List.mem_singleton.mp h
    subst e
    by_cases hlt : i < w.length
    · exact .inr (.inr (.inl ⟨hlt, rfl⟩))
    · refine absurd ?_ hne
      rw [List.drop_eq_nil_of_le (by omega : w.length ≤ i + 1), List.append_nil, List.take_of_length_le (by omega)]
  · have e := List.mem_singleton.mp h
    by_cases hlt : i + 1 < w.length
    · refine .inr (.inr (.inr ⟨w.getD i 0, w.getD (i + 1) 0, ?_, ?_, e⟩))
      · rw [List.getD_eq_getElem?_getD, List.getElem?_eq_getElem (by omega)]; rfl
      · rw [List.getD_eq_getElem?_getD, List.getElem?_eq_getElem hlt]; rfl
    · have : w.getD (i + 1) 0 = 0 := by rw [List.getD_eq_getElem?_getD, List.getElem?_eq_none (by omega)]; rfl
      rw [this] at e
      exact absurd (inX _ _ 0 e) hL0
theorem nearF_mem {w x : Wd} (hw : LetAll w) : x ∈ nearF w ↔ LetAll x ∧ dist w x = 1 := by
  unfold nearF
  rw [ddW_mem, List.mem_filter, List.mem_flatMap]
  constructor
  · rintro ⟨⟨i, hi, hx⟩, hb⟩
    simp only [Bool.and_eq_true, Bool.not_eq_true', decide_eq_false_iff_not] at hb
    have hx' := letAll_all.mp hb.1
    exact ⟨hx', slip_dist (cands_slip hw (by have := List.mem_range.mp hi; omega) hx hx' hb.2)⟩
  · rintro ⟨hx, hd⟩
    have s := (dist_one (P := L) hx).mp hd
    obtain ⟨i, hi, hc⟩ := slip_cd s
    refine ⟨⟨i, List.mem_range.mpr (by omega), cd_cands hc⟩, ?_⟩
    rw [letAll_all.mpr hx, decide_eq_false (Ne.symm s.ne)]
    rfl
theorem near_len {w : Wd} {l : List Wd} (hw : LetAll w) (h : NearOf w 1 l) : l.length = (nearF w).length :=
  len_same (asc_nd h.1) (ddW_nodup _) fun x => by rw [h.2, nearF_mem hw]
theorem nearF_rep : ∀ c ∈ [97, 98, 99, 100], ∀ n ∈ [1, 2, 3, 4, 5, 6], (nearF (List.replicate n c)).length = 6 * n + 5 := by decide +kernel
theorem near_nil {l : List Wd} (h : NearOf [] 2 l) : l.length = 16 := by
  refine (len_same (m := strsW 2) (asc_nd h.1) (by decide +kernel) fun x => ?_).trans (by decide +kernel)
  rw [h.2]
  have e : dist [] x = x.length := by rw [dist_symm, dist_sub (List.nil_sublist _)]; rfl
  rw [e]
  exact ⟨fun ⟨h1, h2⟩ => h2 ▸ strsW_all h1, fun hx => ⟨(strsW_mem 2 x hx).2, (strsW_mem 2 x hx).1⟩⟩
/-! ### two words -/
theorem lp_two (a b : Wd) : lpW [a, b] = (dist a b, a, b) := by
  have h := (lpW_mem (ws := [a, b]) (by simp)).1
  have e : pairsL [a, b] = [(dist a b, a, b)] := by simp [pairsL]
  rw [e] at h
  exact List.mem_singleton.mp h
theorem meant_same {ws : List Wd} {t : Wd} {n : Nat} (hne : ws ≠ []) (h : ∀ w ∈ ws, dist w t = n) : meantW ws t = ws := by
  obtain ⟨⟨w, hw, e⟩, _⟩ := leastW_spec (t := t) hne
  unfold meantW
  rw [List.filter_eq_self]
  intro v hv
  rw [h v hv, ← e, h w hw]
  simp
theorem meant_lone {ws : List Wd} {t w : Wd} (hn : ws.Nodup) (hw : w ∈ ws) (h : ∀ v ∈ ws, v ≠ w → dist w t < dist v t) : meantW ws t = [w] := by
  have hl : leastW ws t = dist w t := by
    obtain ⟨⟨v, hv, e⟩, hle⟩ := leastW_spec (t := t) (List.ne_nil_of_mem hw)
    have := hle w hw
    by_cases hvw : v = w
    · rw [← e, hvw]
    · have := h v hv hvw; omega
  have hm : ∀ v, v ∈ meantW ws t ↔ v = w := fun v => by
    rw [meant_mem, hl]
    exact ⟨fun ⟨hv, e⟩ => Classical.byContradiction fun hvw => by have := h v hv hvw; omega, fun e => by subst e; exact ⟨hw, rfl⟩⟩
  have hnd : (meantW ws t).Nodup := hn.filter _
  cases e : meantW ws t with
  | nil => have := (hm w).mpr rfl; rw [e] at this; cases this
  | cons a l =>
    rw [e] at hm hnd
    have ea := (hm a).mp (by simp)
    cases l with
    | nil => rw [ea]
    | cons b l =>
      have eb := (hm b).mp (by simp)
      rw [ea, eb] at hnd
      simp at hnd
theorem comp_all {ws : List Wd} {m : Nat} {u : Wd} (h : ∀ v ∈ ws, Conn ws m u v) : compW ws m u = ws := by
  unfold compW
  rw [List.filter_eq_self]
  exact fun v hv => by simpa using h v hv
theorem conn_far {ws : List Wd} {m : Nat} (h : ∀ u ∈ ws, ∀ v ∈ ws, u ≠ v → m < dist u v) {u v : Wd} (k : Conn ws m u v) : v = u := by
  induction k with
  | refl => rfl
  | @step x y _ a b c ih =>
    by_cases e : x = y
    · exact e.symm.trans ih
    · exact absurd c (by have := h _ a _ b e; omega)
theorem groups_one {ws : List Wd} {m : Nat} (hne : ws ≠ []) (h : ∀ u ∈ ws, ∀ v ∈ ws, Conn ws m u v) : GroupsOf ws m [ws] := by
  refine ⟨List.pairwise_singleton _ _, fun r => ?_⟩
  rw [List.mem_singleton]
  constructor
  · rintro rfl
    obtain ⟨w, hw⟩ := List.exists_mem_of_ne_nil _ hne
    exact ⟨w, hw, (comp_all (h w hw)).symm⟩
  · rintro ⟨w, hw, rfl⟩
    exact comp_all (h w hw)
theorem comp_far {ws : List Wd} {m : Nat} (hn : ws.Nodup) (h : ∀ u ∈ ws, ∀ v ∈ ws, u ≠ v → m < dist u v) {u : Wd} (hu : u ∈ ws) : compW ws m u = [u] := by
  have hm : ∀ v, v ∈ compW ws m u ↔ v = u := fun v => by
    rw [comp_mem]
    exact ⟨fun ⟨_, k⟩ => conn_far h k, fun e => by subst e; exact ⟨hu, .refl⟩⟩
  have hnd : (compW ws m u).Nodup := hn.filter _
  cases e : compW ws m u with
  | nil => have := (hm u).mpr rfl; rw [e] at this; cases this
  | cons a l =>
    rw [e] at hm hnd
    have ea := (hm a).mp (by simp)
    cases l with
    | nil => rw [ea]
    | cons b l =>
      have eb := (hm b).mp (by simp)
      rw [ea, eb] at hnd
      simp at hnd
theorem groups_far {ws : List Wd} {m : Nat} (hp : ws.Pairwise (· < ·)) (h : ∀ u ∈ ws, ∀ v ∈ ws, u ≠ v → m < dist u v) : GroupsOf ws m (ws.map fun w => [w]) := by
  have hn : ws.Nodup := asc_nd hp
  constructor
  · rw [List.pairwise_map]
    refine hp.imp fun {a b} hlt => ?_
    show decide ([a] < [b]) = true
    rw [decide_eq_true_eq, List.cons_lt_cons_iff]
    exact .inl hlt
  · intro r
    rw [List.mem_map]
    exact ⟨fun ⟨w, hw, e⟩ => ⟨w, hw, e ▸ (comp_far hn h hw).symm⟩, fun ⟨w, hw, e⟩ => ⟨w, hw, e ▸ (comp_far hn h hw).symm⟩⟩
theorem two_far {a b : Wd} {m : Nat} (h : m < dist a b) : ∀ u ∈ [a, b], ∀ v ∈ [a, b], u ≠ v → m < dist u v := by
  intro u hu v hv huv
  simp only [List.mem_cons, List.not_mem_nil, or_false] at hu hv
  rcases hu with rfl | rfl <;> rcases hv with rfl | rfl
  · exact absurd rfl huv
  · exact h
  · rw [dist_symm]; exact h
  · exact absurd rfl huv
theorem two_near {a b : Wd} {m : Nat} (h : dist a b ≤ m) : ∀ u ∈ [a, b], ∀ v ∈ [a, b], Conn [a, b] m u v := by
  intro u hu v hv
  have hu' := hu; have hv' := hv
  simp only [List.mem_cons, List.not_mem_nil, or_false] at hu' hv'
  refine .step .refl hu hv ?_
  rcases hu' with rfl | rfl <;> rcases hv' with rfl | rfl
  · rw [dist_self]; omega
  · exact h
  · rw [dist_symm]; exact h
  · rw [dist_self]; omega
theorem centre_two {a b c : Wd} (hab : a < b) (h : Centre [a, b] c) : c = a := by
  refine centre_uniq h ⟨by simp, fun w hw => ?_⟩
  have ea : farW [a, b] a = dist a b := by simp [farW, dist_self]
  have eb : farW [a, b] b = dist a b := by simp [farW, dist_self, dist_symm b a]
  simp only [List.mem_cons, List.not_mem_nil, or_false] at hw
  rcases hw with rfl | rfl
  · exact O2.irr _
  · cases hlt : O2.lt (farW [a, w] w, w) (farW [a, w] a, a) with
    | false => rfl
    | true =>
      rw [ea, eb] at hlt
      have : O2.lt (dist a w, a) (dist a w, w) = true := by
        show (DOrd.nat.lt (dist a w) (dist a w) || (PyData.eqv (DOrd.nat.enc (dist a w)) (DOrd.nat.enc (dist a w)) && DOrd.wd.lt a w)) = true
        rw [(DOrd.nat.eq _ _).mpr rfl, show DOrd.wd.lt a w = true from decide_eq_true hab]
        simp
      have := O2.trans _ _ _ this hlt
      rw [O2.irr] at this
      cases this
theorem leave_two {a b : Wd} {m : Nat} {row : List Wd} (hab : a < b) (hm : dist a b ≤ 2 * m) (h : Leave [a, b] m row) : row = [a] := by
  have hne : a ≠ b := fun e => wlt_irrefl _ (e ▸ hab)
  have hne' : ¬ b = a := fun e => hne e.symm
  have hmf : mendsW [a, b] m = false := by
    simp only [mendsW, List.all_cons, List.all_nil, Bool.and_true]
    exact decide_eq_false (by omega)
  refine leave_uniq h ⟨by simp [subsW], by simp [restW, hne', mendsW], fun r hr hmr => ?_⟩
  have hs : subsW [a, b] [[]] = [[], [a], [b], [a, b]] := rfl
  rw [hs] at hr
  simp only [List.mem_cons, List.not_mem_nil, or_false] at hr
  rcases hr with rfl | rfl | rfl | rfl
  · rw [restW_nil, hmf] at hmr; cases hmr
  · exact OR.irr _
  · cases hlt : OR.lt ([b].length, [b]) ([a].length, [a]) with
    | false => rfl
    | true =>
      have : OR.lt ([a].length, [a]) ([b].length, [b]) = true := by
        show (DOrd.nat.lt 1 1 || (PyData.eqv (DOrd.nat.enc 1) (DOrd.nat.enc 1) && decide ([a] < [b]))) = true
        rw [(DOrd.nat.eq _ _).mpr rfl, decide_eq_true (by rw [List.cons_lt_cons_iff]; exact .inl hab)]
        simp
      have := OR.trans _ _ _ this hlt
      rw [OR.irr] at this
      cases this
  · rfl
theorem same_step {d : D} {n : Nat} (h : OkD d n) (hn : n ≤ 64) {A B : Prop} (hb : B) : SeqAt.shaped d = true ∧ SeqAt.shaped d = true ∧ if (!PyData.eqv d d) = true then A else B := ⟨h.shaped hn, h.shaped hn, by rw [h.eqv]; exact hb⟩
theorem srt_two {u x : Wd} (h : u ≠ x) : ∃ a b, srt [u, x] = [a, b] ∧ a < b ∧ ((a = u ∧ b = x) ∨ (a = x ∧ b = u)) := by
  have hl : (srt [u, x]).length = 2 := by unfold srt; rw [List.length_mergeSort]; rfl
  have hp := srt_asc (l := [u, x]) (by simp [h])
  have hm : ∀ z, z ∈ srt [u, x] → z = u ∨ z = x := fun z hz => by simpa using srt_mem.mp hz
  match e : srt [u, x], hl with
  | [a, b], _ =>
    rw [e] at hp hm
    have hab : a < b := by simpa using hp
    have hne : a ≠ b := fun z => wlt_irrefl b (z ▸ hab)
    refine ⟨a, b, rfl, hab, ?_⟩
    rcases hm a (by simp) with rfl | rfl <;> rcases hm b (by simp) with rfl | rfl
    · exact absurd rfl hne
    · exact .inl ⟨rfl, rfl⟩
    · exact .inr ⟨rfl, rfl⟩
    · exact absurd rfl hne
theorem first_two {a b : Wd} {n : Nat} (h : (meantW [a, b] []).length = 2) : headD (doubtTo [a, b] n) = sD [] := by
  have e : doubtTo [a, b] 0 = [[]] := by
    show (List.range 1).flatMap (doubtW [a, b]) = [[]]
    have : doubtW [a, b] 0 = [[]] := by
      unfold doubtW
      show List.filter _ [[]] = [[]]
      rw [List.filter_cons, h]
      rfl
    simp [List.range_succ, this]
  have : ∀ n, ∃ r, doubtTo [a, b] n = [] :: r := fun n => by
    induction n with
    | zero => exact ⟨[], e⟩
    | succ n ih =>
      obtain ⟨r, hr⟩ := ih
      exact ⟨_, by rw [doubtTo_succ, hr]; rfl⟩
  obtain ⟨r, hr⟩ := this n
  rw [hr]
  rfl
theorem first_nil {ws : List Wd} {n : Nat} (h : 1 < (meantW ws []).length) : headD (doubtTo ws n) = sD [] := by
  have e : doubtTo ws 0 = [[]] := by
    show (List.range 1).flatMap (doubtW ws) = [[]]
    have : doubtW ws 0 = [[]] := by
      unfold doubtW
      show List.filter _ [[]] = [[]]
      rw [List.filter_cons, if_pos (decide_eq_true h)]
      rfl
    simp [List.range_succ, this]
  have : ∀ n, ∃ r, doubtTo ws n = [] :: r := fun n => by
    induction n with
    | zero => exact ⟨[], e⟩
    | succ n ih =>
      obtain ⟨r, hr⟩ := ih
      exact ⟨_, by rw [doubtTo_succ, hr]; rfl⟩
  obtain ⟨r, hr⟩ := this n
  rw [hr]
  rfl
theorem meant_single (u t : Wd) : meantW [u] t = [u] := meant_same (n := dist u t) (by simp) fun w hw => by rw [List.mem_singleton.mp hw]
theorem shares_single (u : Wd) (ts : List Wd) : sharesW [u] ts = [ts.length, 0] := by
  have e : ∀ t, shareAt [u] t = 0 := fun t => by unfold shareAt; rw [meant_single]; simp
  unfold sharesW
  show [_, _] = _
  simp [e]
theorem doubt_single (u : Wd) (n : Nat) : doubtW [u] n = [] := by
  unfold doubtW
  rw [List.filter_eq_nil_iff]
  intro t _
  rw [meant_single]
  simp
theorem head_filter {f : Wd → Bool} {t : Wd} {l : List Wd} (pre post : List Wd) (e : l = pre ++ t :: post) (h1 : ∀ x ∈ pre, f x = false) (h2 : f t = true) : headD (l.filter f) = sD t := by
  have : pre.filter f = [] := List.filter_eq_nil_iff.mpr fun x hx => by rw [h1 x hx]; decide
  rw [e, List.filter_append, this, List.filter_cons, if_pos h2]
  rfl
theorem mends_single (u : Wd) (m : Nat) : mendsW [u] m = true := by simp [mendsW]
theorem fits_single {u t : Wd} (h : t ≠ u) : fitsW [u] 0 t = true := by
  unfold fitsW
  have : dist t u ≠ 0 := fun e => h (dist_zero.mp e)
  simp [h]
  omega
theorem add_single (u : Wd) : addD [u] 0 = if u = [97] then sD [98] else sD [97] := by
  unfold addD
  rw [if_pos (mends_single u 0)]
  by_cases h : u = [97]
  · rw [if_pos h]
    refine head_filter [[97]] ((strsTo 4).drop 2) (by decide +kernel) (fun x hx => ?_) (fits_single (by rw [h]; decide))
    rw [List.mem_singleton.mp hx, h]
    simp [fitsW]
  · rw [if_neg h]
    exact head_filter [] ((strsTo 4).drop 1) (by decide +kernel) (fun x hx => by cases hx) (fits_single (Ne.symm h))
/-! ### known lists of three -/
def shareF (ws : List Wd) (t : Wd) : Nat := match meantF ws t with
  | [w] => ws.idxOf w
  | _ => ws.length
theorem shareF_eq (ws : List Wd) (t : Wd) : shareAt ws t = shareF ws t := by unfold shareAt shareF; rw [meantF_eq]; try rfl
theorem shares_known {ws ts : List Wd} {ks : List Nat} (h : ((List.range (ws.length + 1)).map fun i => (ts.filter fun t => decide (shareF ws t = i)).length) = ks) : sharesW ws ts = ks := by
  unfold sharesW
  rw [← h]
  simp only [shareF_eq]
def mendsF : List Wd → Nat → Bool
  | [], _ => true
  | w :: r, m => (r.all fun v => decide (2 * m < dF w v)) && mendsF r m
theorem mendsF_eq : ∀ (ws : List Wd) (m : Nat), mendsW ws m = mendsF ws m
  | [], _ => rfl
  | w :: r, m => by
    unfold mendsW mendsF
    rw [mendsF_eq r m]
    simp only [dF_eq]
def ws3 : List Wd := [[97, 97, 97], [98, 98, 98], [99, 99, 99]]
theorem ws3_wl : WL ws3 := wl_of (by decide +kernel)
theorem ws3_mend : mendW ws3 = 1 := by unfold mendW; rw [lp_known 3 (by decide) (by decide +kernel)]
theorem ws3_shares : sharesW ws3 (strsW 1) = [1, 1, 1, 1] := shares_known (by decide +kernel)
theorem ws3_add : addD ws3 1 = sD [100] := by
  unfold addD
  rw [if_pos (by rw [mendsF_eq]; decide +kernel)]
  have fe : fitsW ws3 1 = fun t => !decide (t ∈ ws3) && ws3.all fun w => decide (2 * 1 < dF t w) := by
    funext t
    unfold fitsW
    simp only [dF_eq]
  rw [fe]
  exact head_filter [[97], [98], [99]] ((strsTo 4).drop 4) (by decide +kernel) (by decide +kernel) (by decide +kernel)
theorem ws3_abc : meantW ws3 [97, 98, 99] = ws3 := by rw [meantF_eq]; decide +kernel
theorem ws3_aab : meantW ws3 [97, 97, 98] = [[97, 97, 97]] := by rw [meantF_eq]; decide +kernel
theorem ws3_nil : 1 < (meantW ws3 []).length := by rw [meantF_eq]; decide +kernel
def abc3 : List Wd := [[97], [98], [99]]
theorem abc3_wl : WL abc3 := wl_of (by decide +kernel)
theorem abc3_leave {row : List Wd} (h : Leave abc3 1 row) : row = [[97], [98]] := by
  refine leave_uniq h ⟨by decide +kernel, by rw [mendsF_eq]; decide +kernel, fun r hr hm => ?_⟩
  rw [mendsF_eq] at hm
  have : ∀ r ∈ subsW abc3 [[]], mendsF (restW abc3 r) 1 = true → r = [[97], [98]] ∨ r = [[97], [99]] ∨ r = [[98], [99]] ∨ r = [[97], [98], [99]] := by decide +kernel
  rcases this r hr hm with rfl | rfl | rfl | rfl
  · exact OR.irr _
  · exact (show (DOrd.nat.lt 2 2 || (PyData.eqv (DOrd.nat.enc 2) (DOrd.nat.enc 2) && decide (([[97], [99]] : List Wd) < [[97], [98]]))) = false by rw [DOrd.nat.irr, decide_eq_false (by decide)]; simp)
  · exact (show (DOrd.nat.lt 2 2 || (PyData.eqv (DOrd.nat.enc 2) (DOrd.nat.enc 2) && decide (([[98], [99]] : List Wd) < [[97], [98]]))) = false by rw [DOrd.nat.irr, decide_eq_false (by decide)]; simp)
  · cases hh : OR.lt ([[97], [98], [99]].length, [[97], [98], [99]]) ([[97], [98]].length, [[97], [98]]) with
    | false => rfl
    | true => exact absurd hh (by
        show ¬ (DOrd.nat.lt 3 2 || (PyData.eqv (DOrd.nat.enc 3) (DOrd.nat.enc 2) && decide (([[97], [98], [99]] : List Wd) < [[97], [98]]))) = true
        rw [show DOrd.nat.lt 3 2 = false by decide, decide_eq_false (by decide)]
        simp)
end SWk

set_option Elab.async false
set_option linter.all false
set_option maxRecDepth 100000
set_option maxHeartbeats 4000000
set_option autoImplicit true
namespace SWk
open PySem PySem.Spec PyProof.Rows L2 DL
open SW
/-! ### sorted(set(..)) of words -/
theorem Tw_inj {a b : Wd} (h : T a = T b) : a = b := by
  have := congrArg (fun s : Str => s.cps.toList) h
  simpa [T] using this
theorem Tw_surj (s : Str) : ∃ a : Wd, s = T a := ⟨s.cps.toList, by cases s; simp [T]⟩
theorem ss_use {ws : List Wd} {x : DV} {Γ : DCtx} {R : DK} (e : x = .d (.list (ws.map sD)) ∨ x = .d (.tuple (ws.map sD))) (hl : ws.length ≤ 4000) (h : ∀ v : List Wd, v.Pairwise (· < ·) → (∀ y, y ∈ v ↔ y ∈ ws) → R (.d (.list (v.map sD))) Γ) : dSS [x] Γ R := by
  have em : (ws.map T).map PyData.str = ws.map sD := by rw [List.map_map]; rfl
  refine ⟨ws.map T, ?_, by rw [List.length_map]; exact hl, fun l hn hm => ?_⟩
  · rw [em]
    rcases e with e | e
    · exact .inl (by rw [e])
    · exact .inr (by rw [e])
  have hs : ∀ l : List Str, ∃ l' : List Wd, l = l'.map T := fun l => by
    induction l with
    | nil => exact ⟨[], rfl⟩
    | cons a l ih =>
      obtain ⟨b, rfl⟩ := Tw_surj a
      obtain ⟨l', rfl⟩ := ih
      exact ⟨b :: l', rfl⟩
  obtain ⟨l', rfl⟩ := hs l
  have em' : (l'.map T).map PyData.str = l'.map sD := by rw [List.map_map]; rfl
  rw [em', sort_texts]
  have hn' : l'.Nodup := by
    have := hn
    unfold List.Nodup at this ⊢
    rw [List.pairwise_map] at this
    exact this.imp fun hne e => hne (congrArg T e)
  refine h (srt l') (srt_asc hn') fun y => ?_
  rw [srt_mem]
  have := hm (T y)
  rw [List.mem_map, List.mem_map] at this
  exact ⟨fun hy => let ⟨z, hz, e⟩ := this.mp ⟨y, hy, rfl⟩; Tw_inj e ▸ hz, fun hy => let ⟨z, hz, e⟩ := this.mpr ⟨y, hy, rfl⟩; Tw_inj e ▸ hz⟩
def F__law_next : List D → (D → Prop) → Prop := fun ds Q => ∃ w, ds = [sD w] ∧ LetAll w ∧ w.length ≤ 100 ∧ ∀ l, Nx w l → Q (.list (l.map sD))
theorem mono__law_next : MonoD F__law_next := fun ds P P' h ⟨a, e, h1, h2, q⟩ => ⟨a, e, h1, h2, fun l hl => h _ (q l hl)⟩
/-- what the law puts at a place -/
def nextAt (w : Wd) (i : Nat) : List Wd := ([97, 98, 99, 100].map fun c => (w.take i ++ [c]) ++ w.drop i) ++ [w.take i ++ w.drop (i + 1)] ++
  if i < w.length then ([97, 98, 99, 100].map fun c => (w.take i ++ [c]) ++ w.drop (i + 1)) ++ [((w.take i ++ (w.drop (i + 1)).take 1) ++ [w.getD i 0]) ++ w.drop (i + 2)] else []
theorem nextAt_len (w : Wd) (i : Nat) : (nextAt w i).length ≤ 10 := by
  unfold nextAt
  split <;> simp
theorem letc {c : Nat} (h : c ∈ [97, 98, 99, 100]) : L c := decide_eq_true h
theorem letc' {c : Nat} (h : L c) : c ∈ [97, 98, 99, 100] := of_decide_eq_true h
theorem next_mem {w x : Wd} (hw : LetAll w) : ((∃ i, i < w.length + 1 ∧ x ∈ nextAt w i) ∧ x ≠ w) ↔ Slip L w x := by
  constructor
  · rintro ⟨⟨i, hi, hx⟩, hne⟩
    have nil : ∀ {j : Nat}, w.length ≤ j → w.drop j = [] := fun h => List.drop_eq_nil_of_le h
    refine cd_slip (i := i) hw ?_ hne
    unfold nextAt at hx
    rcases List.mem_append.mp hx with hx | hx
    · rcases List.mem_append.mp hx with hx | hx
      · obtain ⟨c, hc, rfl⟩ := List.mem_map.mp hx
        exact .inl ⟨c, letc hc, by simp⟩
      · have e := List.mem_singleton.mp hx
        by_cases hlt : i < w.length
        · exact .inr (.inr (.inl ⟨hlt, e⟩))
        · refine absurd ?_ hne
          rw [e, nil (by omega : w.length ≤ i + 1), List.append_nil, List.take_of_length_le (by omega)]
    · by_cases hlt : i < w.length
      · rw [if_pos hlt] at hx
        rcases List.mem_append.mp hx with hx | hx
        · obtain ⟨c, hc, rfl⟩ := List.mem_map.mp hx
          exact .inr (.inl ⟨hlt, c, letc hc, by simp⟩)
        · have e := List.mem_singleton.mp hx
          have ei : w.getD i 0 = w[i] := by rw [List.getD_eq_getElem?_getD, List.getElem?_eq_getElem hlt]; rfl
          by_cases hl1 : i + 1 < w.length
          · refine .inr (.inr (.inr ⟨w[i], w[i + 1], List.getElem?_eq_getElem hlt, List.getElem?_eq_getElem hl1, ?_⟩))
            have e1 : (w.drop (i + 1)).take 1 = [w[i + 1]] := by rw [List.drop_eq_getElem_cons hl1]; rfl
            rw [e, ei, e1]
            simp
          · refine absurd ?_ hne
            rw [e, ei, nil (by omega : w.length ≤ i + 1), nil (by omega : w.length ≤ i + 2)]
            simp only [List.take_nil, List.append_nil]
            have e2 : w.take (i + 1) = w.take i ++ [w[i]] := by rw [List.take_add_one, List.getElem?_eq_getElem hlt]; rfl
            rw [← e2, List.take_of_length_le (by omega)]
      · rw [if_neg hlt] at hx
        cases hx
  · intro s
    obtain ⟨i, hi, hc⟩ := slip_cd s
    refine ⟨⟨i, by omega, ?_⟩, Ne.symm s.ne⟩
    unfold nextAt
    rcases hc with ⟨c, hL, rfl⟩ | ⟨hlt, c, hL, rfl⟩ | ⟨hlt, rfl⟩ | ⟨a, b, ha, hb, rfl⟩
    · refine List.mem_append.mpr (.inl (List.mem_append.mpr (.inl (List.mem_map.mpr ⟨c, letc' hL, by simp⟩))))
    · rw [if_pos hlt]
      exact List.mem_append.mpr (.inr (List.mem_append.mpr (.inl (List.mem_map.mpr ⟨c, letc' hL, by simp⟩))))
    · exact List.mem_append.mpr (.inl (List.mem_append.mpr (.inr (by simp))))
    · obtain ⟨h1, e1⟩ := List.getElem?_eq_some_iff.mp ha
      obtain ⟨h2, e2⟩ := List.getElem?_eq_some_iff.mp hb
      rw [if_pos h1]
      refine List.mem_append.mpr (.inr (List.mem_append.mpr (.inr (List.mem_singleton.mpr ?_))))
      rw [List.getD_eq_getElem?_getD, ha, List.drop_eq_getElem_cons h2, e2]
      simp
theorem next_nx {w : Wd} {v : List Wd} (hw : LetAll w) (hp : v.Pairwise (· < ·)) (hm : ∀ y, y ∈ v ↔ y ∈ ((List.range (w.length + 1)).flatMap (nextAt w)).filter fun y => !decide (y = w)) : Nx w v := by
  refine ⟨fun x => ?_, hp⟩
  rw [hm, List.mem_filter, List.mem_flatMap, ← next_mem hw]
  simp [and_comm]
/-- a value is a way from one word to another -/
def IsWy (a b : Wd) : D → Prop
  | .tuple ds => ∃ ws : List Wd, ds = ws.map sD ∧ ws.head? = some a ∧ ws.getLast? = some b ∧ (∀ w ∈ ws, LetAll w) ∧ ∀ (k : Nat) x y, ws[k]? = some x → ws[k + 1]? = some y → Slip L x y
  | _ => False
def F_is_way : List D → (D → Prop) → Prop := fun ds Q => ∃ a b v, ds = [sD a, sD b, v] ∧ Word a ∧ Word b ∧ shortD 500 v ∧ (∀ l, v = .tuple l → l.length ≤ 1000 ∧ ∀ d ∈ l, SeqAt.shaped d = true) ∧ ∀ r : Bool, (r = true ↔ IsWy a b v) → Q (.bool r)
theorem mono_is_way : MonoD F_is_way := fun ds P P' h ⟨a, b, v, e, h1, h2, h3, h4, q⟩ => ⟨a, b, v, e, h1, h2, h3, h4, fun r hr => h _ (q r hr)⟩
theorem strs_ex : ∀ {ds : List D}, (ds.map isStrD).all id = true → ∃ ws : List Wd, ds = ws.map sD
  | [], _ => ⟨[], rfl⟩
  | d :: ds, h => by
    rw [List.map_cons, List.all_cons, Bool.and_eq_true] at h
    obtain ⟨w, rfl⟩ := isStr_ex h.1
    obtain ⟨ws, rfl⟩ := strs_ex h.2
    exact ⟨w :: ws, rfl⟩
open Classical in
noncomputable def slipB (a b : Wd) : Bool := decide (Slip L a b)
theorem slipB_iff {a b : Wd} : slipB a b = true ↔ Slip L a b := by unfold slipB; simp
theorem slipB_eq {a b : Wd} {r : Bool} (h : r = true ↔ Slip L a b) : r = slipB a b := by
  cases r with
  | true => exact (slipB_iff.mpr (h.mp rfl)).symm
  | false =>
    cases e : slipB a b with
    | false => rfl
    | true => exact h.mpr (slipB_iff.mp e)
theorem map_sD_inj : ∀ {a b : List Wd}, a.map sD = b.map sD → a = b
  | [], [], _ => rfl
  | [], _ :: _, h => by cases h
  | _ :: _, [], h => by cases h
  | x :: a, y :: b, h => by
    rw [List.map_cons, List.map_cons] at h
    have h1 := List.cons.inj h
    rw [map_sD_inj h1.2, (DOrd.wd.eq x y).mp (show PyData.eqv (sD x) (sD y) = true by rw [h1.1]; exact (DOrd.wd.eq y y).mpr rfl)]
end SWk

set_option Elab.async false
set_option linter.all false
set_option maxRecDepth 100000
set_option maxHeartbeats 4000000
set_option autoImplicit true
namespace SWk
open PySem PySem.Spec PyProof.Rows L2 DL
open SW
/-! ### strings near a word -/
theorem asc_uniq {a b : List Wd} (ha : a.Pairwise (· < ·)) (hb : b.Pairwise (· < ·)) (h : ∀ x, x ∈ a ↔ x ∈ b) : a = b :=
  DOrd.wd.sort_uniq (ha.imp fun h => decide_eq_true h) (hb.imp fun h => decide_eq_true h) h
theorem near_slip {a y : Wd} (ha : LetAll a) : (LetAll y ∧ dist a y = 1) ↔ Slip L a y :=
  ⟨fun ⟨h1, h2⟩ => (dist_one (P := L) h1).mp h2, fun s => ⟨s.letters ha, slip_dist s⟩⟩
theorem near_nx {a : Wd} {l m : List Wd} (ha : LetAll a) (h1 : NearOf a 1 l) (h2 : Nx a m) : m = l :=
  asc_uniq h2.2 h1.1 fun x => by rw [h2.1, h1.2, near_slip ha]
theorem nx_near {a : Wd} {l : List Wd} (ha : LetAll a) (h : Nx a l) : NearOf a 1 l := ⟨h.2, fun y => by rw [h.1, near_slip ha]⟩
theorem near_zero {a : Wd} {l : List Wd} (ha : LetAll a) (h : NearOf a 0 l) : l = [a] :=
  asc_uniq h.1 (List.pairwise_singleton _ _) fun x => by
    rw [h.2, List.mem_singleton, dist_zero]
    exact ⟨fun z => z.2.symm, fun z => by subst z; exact ⟨ha, rfl⟩⟩
def nextAll (w : Wd) : List Wd := (List.range (w.length + 1)).flatMap (nextAt w)
theorem nextAt_len5 {w : Wd} {i : Nat} (h : w.length ≤ i) : (nextAt w i).length = 5 := by
  unfold nextAt
  rw [if_neg (by omega)]
  rfl
theorem nextAll_len (w : Wd) : (nextAll w).length ≤ 10 * w.length + 5 := by
  have key : ∀ i, i ≤ w.length → ((List.range i).flatMap (nextAt w)).length ≤ 10 * i := fun i => by
    induction i with
    | zero => intro _; simp
    | succ i ih =>
      intro hi
      rw [List.range_succ, List.flatMap_append, List.length_append]
      have := nextAt_len w i
      have := ih (by omega)
      simp only [List.flatMap_cons, List.flatMap_nil, List.append_nil]
      omega
  unfold nextAll
  rw [List.range_succ, List.flatMap_append, List.length_append]
  have := key w.length (Nat.le_refl _)
  simp only [List.flatMap_cons, List.flatMap_nil, List.append_nil]
  rw [nextAt_len5 (Nat.le_refl _)]
  omega
theorem slip_all {w x : Wd} (hw : LetAll w) (s : Slip L w x) : x ∈ nextAll w := by
  obtain ⟨⟨i, hi, hx⟩, _⟩ := (next_mem hw).mpr s
  exact List.mem_flatMap.mpr ⟨i, List.mem_range.mpr hi, hx⟩
theorem all_len {w x : Wd} (hw : LetAll w) (h : x ∈ nextAll w) : x.length ≤ w.length + 1 := by
  by_cases e : x = w
  · rw [e]; omega
  · obtain ⟨i, hi, hx⟩ := List.mem_flatMap.mp h
    have := ((next_mem hw).mp ⟨⟨i, List.mem_range.mp hi, hx⟩, e⟩).len
    omega
theorem flat_len {l : List Wd} {f : Wd → List Wd} {k : Nat} (h : ∀ x ∈ l, (f x).length ≤ k) : (l.flatMap f).length ≤ l.length * k := by
  induction l with
  | nil => simp
  | cons a l ih =>
    rw [List.flatMap_cons, List.length_append, List.length_cons, Nat.succ_mul]
    have := h a (by simp)
    have := ih fun x hx => h x (by simp [hx])
    omega
theorem between {a y : Wd} {n : Nat} (ha : LetAll a) (hy : LetAll y) (h : dist a y = n + 1) : ∃ x, Slip L a x ∧ LetAll x ∧ dist x y = n := by
  obtain ⟨x, s, d⟩ := slip_toward ha hy h
  exact ⟨x, s, s.letters ha, d⟩
theorem near2_len {a : Wd} {l : List Wd} (ha : LetAll a) (h : NearOf a 2 l) : l.length ≤ (10 * a.length + 5) * (10 * a.length + 15) := by
  have h1 : l.length ≤ ((nextAll a).flatMap nextAll).length := nodup_le (asc_nd h.1) fun y hy => by
    obtain ⟨hL, hd⟩ := (h.2 y).mp hy
    obtain ⟨x, s, hx, d⟩ := between ha hL hd
    exact List.mem_flatMap.mpr ⟨x, slip_all ha s, slip_all hx ((dist_one (P := L) hL).mp d)⟩
  have h2 : ((nextAll a).flatMap nextAll).length ≤ (nextAll a).length * (10 * a.length + 15) := flat_len fun x hx => by
    have := nextAll_len x
    have := all_len ha hx
    omega
  have h3 := Nat.mul_le_mul_right (10 * a.length + 15) (nextAll_len a)
  omega
theorem dist_front {a : Wd} (n : Nat) : dist a (List.replicate n 97 ++ a) = n := by
  rw [dist_symm, dist_sub (List.sublist_append_right _ _), List.length_append, List.length_replicate]
  omega
theorem let_front {a : Wd} (ha : LetAll a) (n : Nat) : LetAll (List.replicate n 97 ++ a) := fun c hc => by
  rcases List.mem_append.mp hc with h | h
  · rw [List.eq_of_mem_replicate h]; exact letc (by simp)
  · exact ha c h
theorem near_ne {a : Wd} {l : List Wd} {n : Nat} (ha : LetAll a) (h : NearOf a n l) : l ≠ [] := fun e => by
  have := (h.2 _).mpr ⟨let_front ha n, dist_front n⟩
  rw [e] at this
  cases this
theorem near_rev {a : Wd} {n : Nat} {l m : List Wd} (h : NearOf a n l) (k : NearOf a.reverse n m) : m.length = l.length := by
  have hn : (l.map List.reverse).Nodup := by
    unfold List.Nodup
    rw [List.pairwise_map]
    exact (asc_nd h.1).imp fun hne e => hne (List.reverse_inj.mp e)
  rw [← List.length_map (f := List.reverse) (as := l)]
  refine len_same (asc_nd k.1) hn fun x => ?_
  rw [k.2, List.mem_map]
  constructor
  · rintro ⟨h1, h2⟩
    refine ⟨x.reverse, (h.2 _).mpr ⟨fun c hc => h1 c (List.mem_reverse.mp hc), ?_⟩, List.reverse_reverse x⟩
    rw [← dist_rev, List.reverse_reverse]
    exact h2
  · rintro ⟨y, hy, rfl⟩
    obtain ⟨h1, h2⟩ := (h.2 y).mp hy
    exact ⟨fun c hc => h1 c (List.mem_reverse.mp hc), by rw [dist_rev]; exact h2⟩
end SWk

set_option Elab.async false
set_option linter.all false
set_option maxRecDepth 100000
set_option maxHeartbeats 4000000
set_option autoImplicit true
namespace SWk
open PySem PySem.Spec PyProof.Rows L2 DL
open SW
/-! ### walking all strings -/
structure LvW (a : Wd) (m : Nat) (lv mt : List Wd) : Prop where
  ne : lv ≠ []
  nd : lv.Nodup
  len : lv.length ≤ 4000
  mlen : mt.length ≤ 5000 * (m + 1)
  onLv : ∀ y ∈ lv, LetAll y ∧ dist a y = m
  all : m ≤ 2 → ∀ y, y ∈ lv ↔ LetAll y ∧ dist a y = m
  met : m ≤ 2 → ∀ y, y ∈ mt ↔ LetAll y ∧ dist a y ≤ m
theorem LvW.start {a : Wd} (ha : LetAll a) : LvW a 0 [a] [a] where
  ne := by simp
  nd := by simp
  len := by simp
  mlen := by simp
  onLv := fun y hy => by rw [List.mem_singleton.mp hy]; exact ⟨ha, dist_self a⟩
  all := fun _ y => by
    rw [List.mem_singleton, dist_zero]
    exact ⟨fun e => by subst e; exact ⟨ha, rfl⟩, fun e => e.2.symm⟩
  met := fun _ y => by
    rw [List.mem_singleton, Nat.le_zero, dist_zero]
    exact ⟨fun e => by subst e; exact ⟨ha, rfl⟩, fun e => e.2.symm⟩
theorem step_back {a y : Wd} {m : Nat} (ha : LetAll a) (hy : LetAll y) (h : dist a y = m + 1) : ∃ u, LetAll u ∧ dist a u = m ∧ Slip L u y := by
  obtain ⟨u, s, hu, d⟩ := between hy ha (show dist y a = m + 1 by rw [dist_symm]; exact h)
  exact ⟨u, hu, by rw [dist_symm]; exact d, s.symm hy⟩
/-- the strings met next: from the words us of the level -/
theorem LvW.next {a : Wd} {m : Nat} {lv mt us la v : List Wd} (h : LvW a m lv mt) (ha : LetAll a) (hm : m ≤ 2) (hus : ∀ u ∈ us, u ∈ lv) (hall : m < 2 → us = lv) (hla : ∀ y, y ∈ la ↔ ∃ u ∈ us, Slip L u y ∧ y ∉ mt) (hlen : v.length ≤ 4000) (hv : v.Pairwise (· < ·)) (hvm : ∀ y, y ∈ v ↔ y ∈ la) (hne : v ≠ []) : LvW a (m + 1) v (mt ++ v) where
  ne := hne
  nd := asc_nd hv
  len := hlen
  mlen := by rw [List.length_append]; have := h.mlen; omega
  onLv := fun y hy => by
    obtain ⟨u, hu, s, hn⟩ := (hla y).mp ((hvm y).mp hy)
    obtain ⟨hL, hd⟩ := h.onLv u (hus u hu)
    have hyL := s.letters hL
    refine ⟨hyL, ?_⟩
    have h1 := dist_tri a u y
    have h2 := slip_dist s
    have h3 : ¬ dist a y ≤ m := fun z => hn ((h.met hm y).mpr ⟨hyL, z⟩)
    omega
  all := fun hm2 y => by
    rw [hvm, hla, hall (by omega)]
    constructor
    · rintro ⟨u, hu, s, hn⟩
      obtain ⟨hL, hd⟩ := h.onLv u hu
      have hyL := s.letters hL
      have h1 := dist_tri a u y
      have h2 := slip_dist s
      have h3 : ¬ dist a y ≤ m := fun z => hn ((h.met hm y).mpr ⟨hyL, z⟩)
      exact ⟨hyL, by omega⟩
    · rintro ⟨hyL, hd⟩
      obtain ⟨u, hu, hdu, s⟩ := step_back ha hyL hd
      exact ⟨u, (h.all (by omega) u).mpr ⟨hu, hdu⟩, s, fun z => by have := ((h.met hm y).mp z).2; omega⟩
  met := fun hm2 y => by
    rw [List.mem_append, h.met hm, hvm, hla, hall (by omega)]
    constructor
    · rintro (⟨h1, h2⟩ | ⟨u, hu, s, hn⟩)
      · exact ⟨h1, by omega⟩
      · obtain ⟨hL, hd⟩ := h.onLv u hu
        have h1 := dist_tri a u y
        have h2 := slip_dist s
        exact ⟨s.letters hL, by omega⟩
    · rintro ⟨hyL, hd⟩
      by_cases hle : dist a y ≤ m
      · exact .inl ⟨hyL, hle⟩
      · obtain ⟨u, hu, hdu, s⟩ := step_back ha hyL (show dist a y = m + 1 by omega)
        exact .inr ⟨u, (h.all (by omega) u).mpr ⟨hu, hdu⟩, s, fun z => by have := ((h.met hm y).mp z).2; omega⟩
/-- before the last round the words of the next level are there -/
theorem LvW.some {a : Wd} {m : Nat} {lv mt us la v : List Wd} (h : LvW a m lv mt) (ha : LetAll a) (hm : m < 2) (hall : us = lv) (hla : ∀ y, y ∈ la ↔ ∃ u ∈ us, Slip L u y ∧ y ∉ mt) (hvm : ∀ y, y ∈ v ↔ y ∈ la) : v ≠ [] := fun e => by
  obtain ⟨u, hu, hdu, s⟩ := step_back ha (let_front ha (m + 1)) (dist_front (a := a) (m + 1))
  have : List.replicate (m + 1) 97 ++ a ∈ v := (hvm _).mpr ((hla _).mpr ⟨u, hall ▸ (h.all (by omega) u).mpr ⟨hu, hdu⟩, s, fun z => by
    have := ((h.met (by omega) _).mp z).2
    rw [dist_front] at this
    omega⟩)
  rw [e] at this
  cases this
theorem LvW.short {a : Wd} {m : Nat} {lv mt : List Wd} (h : LvW a m lv mt) (ha : LetAll a) (hl : a.length ≤ 3) (hm : m < 2) : lv.length ≤ 36 := by
  have h1 : lv.length ≤ (a :: nextAll a).length := nodup_le h.nd fun y hy => by
    obtain ⟨hL, hd⟩ := h.onLv y hy
    rcases (by omega : m = 0 ∨ m = 1) with rfl | rfl
    · rw [dist_zero.mp hd]; simp
    · exact List.mem_cons_of_mem _ (slip_all ha ((dist_one (P := L) hL).mp hd))
  have := nextAll_len a
  simp only [List.length_cons] at h1
  omega
end SWk

set_option Elab.async false
set_option linter.all false
set_option maxRecDepth 100000
set_option maxHeartbeats 4000000
set_option autoImplicit true
namespace SWk
open PySem PySem.Spec PyProof.Rows L2 DL
open SW
theorem cut_mapD (l : List Wd) (lo hi : Option Int) : cut (l.map sD) lo hi = (cut l lo hi).map sD := by
  unfold cut
  simp [List.map_drop, List.map_take]
/-- what the law expects of a row -/
def DueW (a g : Wd) (row : List Wd) (i : Nat) : Prop := row.head? = some a ∧ row.getLast? = some g ∧ ∀ (k : Nat) x y, k < i → row[k]? = some x → row[k + 1]? = some y → Slip L x y
theorem DueW.step {a g x y : Wd} {row : List Wd} {i : Nat} (hx : row[i]? = some x) (hy : row[i + 1]? = some y) : DueW a g row (i + 1) ↔ DueW a g row i ∧ Slip L x y := by
  constructor
  · rintro ⟨h1, h2, h3⟩
    exact ⟨⟨h1, h2, fun k u v hk => h3 k u v (by omega)⟩, h3 i x y (by omega) hx hy⟩
  · rintro ⟨⟨h1, h2, h3⟩, s⟩
    refine ⟨h1, h2, fun k u v hk hu hv => ?_⟩
    rcases (by omega : k < i ∨ k = i) with h | rfl
    · exact h3 k u v h hu hv
    · rw [hx] at hu
      rw [hy] at hv
      cases hu
      cases hv
      exact s
theorem DueW.way {a g : Wd} {row : List Wd} (hr : ∀ w ∈ row, LetAll w) : IsWy a g (.tuple (row.map sD)) ↔ DueW a g row (row.length - 1) := by
  constructor
  · rintro ⟨us, e, h1, h2, _, h4⟩
    rw [map_sD_inj e]
    exact ⟨h1, h2, fun k x y _ => h4 k x y⟩
  · rintro ⟨h1, h2, h3⟩
    refine ⟨row, rfl, h1, h2, hr, fun k x y hx hy => h3 k x y ?_ hx hy⟩
    have := (List.getElem?_eq_some_iff.mp hy).1
    omega
theorem iff_bool {a b : Bool} {P : Prop} (ha : a = true ↔ P) (hb : b = true ↔ P) : a = b := by
  cases a <;> cases b
  · rfl
  · exact ha.mpr (hb.mp rfl)
  · exact (hb.mpr (ha.mp rfl)).symm
  · rfl
theorem way_args {row : List Wd} (h1 : row.length ≤ 1000) (h2 : ∀ w ∈ row, LetAll w ∧ w.length ≤ 500) : shortD 500 (.tuple (row.map sD)) ∧ ∀ l, PyData.tuple (row.map sD) = .tuple l → l.length ≤ 1000 ∧ ∀ d ∈ l, SeqAt.shaped d = true := by
  constructor
  · intro z hz
    obtain ⟨w, hw, e⟩ := List.mem_map.mp hz
    cases e
    exact (h2 w hw).2
  · intro l hl
    cases hl
    refine ⟨by rw [List.length_map]; exact h1, fun d hd => ?_⟩
    obtain ⟨w, hw, rfl⟩ := List.mem_map.mp hd
    exact (okD_str (n := 1) (h2 w hw).1).shaped
/-! ### known ways, and what is none -/
def wayF (a b : Wd) (ws : List Wd) : Bool := decide (ws.head? = some a) && (decide (ws.getLast? = some b) && (ws.all (fun w => w.all isLet) && (List.range (ws.length - 1)).all fun k => decide (ws.getD (k + 1) [] ∈ nextAll (ws.getD k []) ∧ ws.getD (k + 1) [] ≠ ws.getD k [])))
def txD : D → Wd
  | .str z => z.cps.toList
  | _ => []
def wayD (a b : Wd) : D → Bool
  | .tuple ds => (ds.map isStrD).all id && wayF a b (ds.map txD)
  | _ => false
theorem all_slip {w x : Wd} (hw : LetAll w) : (x ∈ nextAll w ∧ x ≠ w) ↔ Slip L w x := by
  rw [← next_mem hw]
  unfold nextAll
  rw [List.mem_flatMap]
  simp only [List.mem_range]
theorem wayF_iff {a b : Wd} {ws : List Wd} : wayF a b ws = true ↔ IsWy a b (.tuple (ws.map sD)) := by
  unfold wayF
  simp only [Bool.and_eq_true, decide_eq_true_eq, List.all_eq_true, List.mem_range]
  constructor
  · rintro ⟨h1, h2, h3, h4⟩
    have hL : ∀ w ∈ ws, LetAll w := fun w hw => letAll_all.mp (List.all_eq_true.mpr (h3 w hw))
    refine ⟨ws, rfl, h1, h2, hL, fun k x y hx hy => ?_⟩
    have hk := (List.getElem?_eq_some_iff.mp hy).1
    have := h4 k (by omega)
    rw [List.getD_eq_getElem?_getD, List.getD_eq_getElem?_getD, hx, hy] at this
    exact (all_slip (hL x (List.mem_of_getElem? hx))).mp this
  · rintro ⟨us, e, h1, h2, h3, h4⟩
    rw [map_sD_inj e]
    refine ⟨h1, h2, fun w hw => List.all_eq_true.mp (letAll_all.mpr (h3 w hw)), fun k hk => ?_⟩
    have hx : us[k]? = some (us[k]'(by omega)) := List.getElem?_eq_getElem (by omega)
    have hy : us[k + 1]? = some (us[k + 1]'(by omega)) := List.getElem?_eq_getElem (by omega)
    rw [List.getD_eq_getElem?_getD, List.getD_eq_getElem?_getD, hx, hy]
    exact (all_slip (h3 _ (List.mem_of_getElem? hx))).mpr (h4 k _ _ hx hy)
theorem txs_back : ∀ {ws : List Wd}, (ws.map sD).map txD = ws
  | [] => rfl
  | w :: ws => by
    rw [List.map_cons, List.map_cons, txs_back]
    rfl
theorem wayD_iff {a b : Wd} {v : D} : wayD a b v = true ↔ IsWy a b v := by
  cases v with
  | tuple ds =>
    unfold wayD
    rw [Bool.and_eq_true]
    constructor
    · rintro ⟨h1, h2⟩
      obtain ⟨ws, rfl⟩ := strs_ex h1
      rw [txs_back] at h2
      exact wayF_iff.mp h2
    · intro h
      obtain ⟨ws, rfl, _⟩ := id h
      refine ⟨?_, by rw [txs_back]; exact wayF_iff.mpr h⟩
      rw [List.map_map, List.all_eq_true]
      intro x hx
      obtain ⟨w, _, rfl⟩ := List.mem_map.mp hx
      rfl
  | _ => exact ⟨fun h => (nomatch h), fun h => h.elim⟩
def shapB : D → Bool
  | .tuple ds => ds.all SeqAt.shaped
  | _ => true
theorem shap_of {v : D} (h1 : shortB v = true) (h2 : shapB v = true) : shortD 500 v ∧ ∀ l, v = .tuple l → l.length ≤ 1000 ∧ ∀ d ∈ l, SeqAt.shaped d = true := by
  obtain ⟨a1, a2⟩ := short_of h1
  refine ⟨a1, fun l e => ⟨a2 l e, ?_⟩⟩
  subst e
  exact List.all_eq_true.mp h2
theorem way_judge {a b : Wd} {v : D} {r : Bool} {Q : D → Prop} (ha : Word a) (hb : Word b) (h1 : shortB v = true) (h2 : shapB v = true) (h3 : wayD a b v = r) (h : Q (.bool r)) : F_is_way [sD a, sD b, v] Q :=
  ⟨a, b, v, rfl, ha, hb, (shap_of h1 h2).1, (shap_of h1 h2).2, fun r' hr => by rw [iff_bool hr wayD_iff, h3]; exact h⟩
end SWk

set_option Elab.async false
set_option linter.all false
set_option maxRecDepth 100000
set_option maxHeartbeats 4000000
set_option autoImplicit true
namespace SWk
open PySem PySem.Spec PyProof.Rows L2 DL
open SW
/-! ### sorted(set(..)) of rows of words -/
theorem rowT (r : List Wd) : tD (r.map T) = rowD r := by
  unfold tD rowD
  rw [List.map_map]
  rfl
theorem su_use {rs : List (List Wd)} {x : DV} {Γ : DCtx} {R : DK} (e : x = .d (.list (rs.map rowD))) (hl : rs.length ≤ 60) (hne : ∀ r ∈ rs, r ≠ []) (h : ∀ v : List (List Wd), v.Pairwise (fun a b => DOrd.row.lt a b = true) → (∀ r, r ∈ v ↔ r ∈ rs) → R (.d (.list (v.map rowD))) Γ) : dSU [x] Γ R := by
  have back : ∀ k : List Str, ∃ r : List Wd, k = r.map T := fun k => by
    induction k with
    | nil => exact ⟨[], rfl⟩
    | cons a k ih =>
      obtain ⟨b, rfl⟩ := Tw_surj a
      obtain ⟨r, rfl⟩ := ih
      exact ⟨b :: r, rfl⟩
  have backs : ∀ l : List (List Str), ∃ l' : List (List Wd), l = l'.map (List.map T) := fun l => by
    induction l with
    | nil => exact ⟨[], rfl⟩
    | cons a l ih =>
      obtain ⟨b, rfl⟩ := back a
      obtain ⟨r, rfl⟩ := ih
      exact ⟨b :: r, rfl⟩
  have en : ∀ l : List (List Wd), (l.map (List.map T)).map tD = l.map rowD := fun l => by
    rw [List.map_map]
    exact List.map_congr_left fun r _ => rowT r
  have inj : ∀ {a b : List Wd}, a.map T = b.map T → a = b := fun {a} => by
    induction a with
    | nil => intro b e; cases b with
      | nil => rfl
      | cons => cases e
    | cons x a ih => intro b e; cases b with
      | nil => cases e
      | cons y b =>
        rw [List.map_cons, List.map_cons] at e
        injection e with e1 e2
        rw [Tw_inj e1, ih e2]
  refine ⟨rs.map (List.map T), by rw [en, e], by rw [List.length_map]; exact hl, fun l hin => ?_, fun l hn hm => ?_⟩
  · obtain ⟨l', rfl⟩ := backs l
    rw [en]
    refine ⟨DOrd.row.allAlike l', .inl fun d hd => ?_⟩
    obtain ⟨r, hr, rfl⟩ := List.mem_map.mp hd
    obtain ⟨r2, hr2, e2⟩ := List.mem_map.mp (hin _ (List.mem_map.mpr ⟨r, hr, rfl⟩))
    cases r with
    | nil => exact absurd (inj e2) (hne r2 hr2)
    | cons a l => exact ⟨sD a, l.map sD, rfl⟩
  · obtain ⟨l', rfl⟩ := backs l
    rw [en, show l'.map rowD = l'.map DOrd.row.enc from rfl, DOrd.row.sortD_enc]
    have hn' : l'.Nodup := by
      unfold List.Nodup at hn ⊢
      rw [List.pairwise_map] at hn
      exact hn.imp fun hne e => hne (congrArg _ e)
    refine h _ (DOrd.row.sort_asc hn') fun r => ?_
    rw [DOrd.row.sort_mem]
    have := hm (r.map T)
    rw [List.mem_map, List.mem_map] at this
    exact ⟨fun hr => let ⟨z, hz, e⟩ := this.mp ⟨r, hr, rfl⟩; inj e ▸ hz, fun hr => let ⟨z, hz, e⟩ := this.mpr ⟨r, hr, rfl⟩; inj e ▸ hz⟩
/-! ### the groups part the words -/
theorem conn_comp {ws : List Wd} {m : Nat} {u v : Wd} (h : Conn ws m u v) : compW ws m u = compW ws m v := by
  unfold compW
  refine List.filter_congr fun x _ => ?_
  simp only [decide_eq_decide]
  exact ⟨fun k => h.symm.trans k, fun k => h.trans k⟩
theorem groups_mem {ws : List Wd} {m : Nat} {rows : List (List Wd)} (h : GroupsOf ws m rows) {x : Wd} : x ∈ rows.flatten ↔ x ∈ ws := by
  rw [List.mem_flatten]
  constructor
  · rintro ⟨r, hr, hx⟩
    obtain ⟨w, hw, rfl⟩ := (h.2 r).mp hr
    exact (comp_mem.mp hx).1
  · intro hx
    exact ⟨compW ws m x, (h.2 _).mpr ⟨x, hx, rfl⟩, comp_mem.mpr ⟨hx, .refl⟩⟩
theorem groups_flat {ws : List Wd} {m : Nat} {rows : List (List Wd)} (hn : ws.Nodup) (h : GroupsOf ws m rows) : rows.flatten.Nodup := by
  unfold List.Nodup
  rw [List.pairwise_flatten]
  refine ⟨fun r hr => ?_, ?_⟩
  · obtain ⟨w, hw, rfl⟩ := (h.2 r).mp hr
    exact hn.filter _
  · have : rows.Pairwise fun a b => a ≠ b := h.1.imp fun {a b} hlt e => by
      rw [e, DOrd.row.irr] at hlt
      cases hlt
    refine List.Pairwise.imp_of_mem (fun {a b} ha hb hne => ?_) this
    obtain ⟨u, hu, rfl⟩ := (h.2 a).mp ha
    obtain ⟨v, hv, rfl⟩ := (h.2 b).mp hb
    intro x hx y hy e
    subst e
    exact hne (conn_comp ((comp_mem.mp hx).2.trans (comp_mem.mp hy).2.symm))
theorem groups_sum {ws : List Wd} {m : Nat} {rows : List (List Wd)} (hn : ws.Nodup) (h : GroupsOf ws m rows) : (rows.map List.length).sum = ws.length := by
  rw [← List.length_flatten]
  exact len_same (groups_flat hn h) hn fun x => groups_mem h
theorem sum_ge : ∀ {rows : List (List Wd)}, (∀ r ∈ rows, 1 ≤ r.length) → rows.length ≤ (rows.map List.length).sum
  | [], _ => by simp
  | r :: rows, h => by
    have h1 := h r (by simp)
    have h2 := sum_ge fun x hx => h x (List.mem_cons_of_mem _ hx)
    simp only [List.length_cons, List.map_cons, List.sum_cons]
    omega
theorem sum_gt : ∀ {rows : List (List Wd)}, (∀ r ∈ rows, 1 ≤ r.length) → (∃ r ∈ rows, 2 ≤ r.length) → rows.length < (rows.map List.length).sum
  | [], _, ⟨r, hr, _⟩ => by cases hr
  | r :: rows, h, ⟨q, hq, h2⟩ => by
    have h1 := h r (by simp)
    simp only [List.length_cons, List.map_cons, List.sum_cons]
    rcases List.mem_cons.mp hq with rfl | hq
    · have := sum_ge fun x hx => h x (List.mem_cons_of_mem _ hx)
      omega
    · have := sum_gt (fun x hx => h x (List.mem_cons_of_mem _ hx)) ⟨q, hq, h2⟩
      omega
theorem groups_fewer {ws : List Wd} {m : Nat} {rows : List (List Wd)} (hn : ws.Nodup) (h : GroupsOf ws m rows) {u v : Wd} (hu : u ∈ ws) (hv : v ∈ ws) (huv : u ≠ v) (hd : dist u v ≤ m) : rows.length < ws.length := by
  rw [← groups_sum hn h]
  refine sum_gt (fun r hr => ?_) ⟨compW ws m u, (h.2 _).mpr ⟨u, hu, rfl⟩, ?_⟩
  · obtain ⟨w, hw, rfl⟩ := (h.2 r).mp hr
    exact List.length_pos_of_mem (comp_mem.mpr ⟨hw, .refl⟩)
  · have h1 : u ∈ compW ws m u := comp_mem.mpr ⟨hu, .refl⟩
    have h2 : v ∈ compW ws m u := comp_mem.mpr ⟨hv, .step .refl hu hv hd⟩
    have : [u, v].length ≤ (compW ws m u).length := nodup_le (by simp [huv]) fun x hx => by
      simp only [List.mem_cons, List.not_mem_nil, or_false] at hx
      rcases hx with rfl | rfl
      · exact h1
      · exact h2
    simpa using this
end SWk

set_option Elab.async false
set_option linter.all false
set_option maxRecDepth 100000
set_option maxHeartbeats 4000000
set_option autoImplicit true
namespace SWk
open PySem PySem.Spec PyProof.Rows L2 DL
open SW
/-! ### lists of words among all values -/
def okV (v : D) : Prop := ∀ l, v = .tuple l → l.length ≤ 1000 ∧ ∀ z, .str z ∈ l → z.cps.toList.length ≤ 100000
def isLB : D → Bool
  | .tuple ds => decide (1 ≤ ds.length) && (decide (ds.length ≤ 8) && (ds.all (fun d => areL d 1 6) && (List.range (ds.length - 1)).all fun k => decide (txD (ds.getD k .none) < txD (ds.getD (k + 1) .none))))
  | _ => false
theorem areL_str {d : D} {a b : Int} (h : areL d a b = true) : isStrD d = true := by
  cases d with
  | str z => rfl
  | _ => cases h
theorem asc_of_steps : ∀ {ws : List Wd}, (∀ (k : Nat) x y, ws[k]? = some x → ws[k + 1]? = some y → x < y) → ws.Pairwise (· < ·)
  | [], _ => List.Pairwise.nil
  | [_], _ => List.pairwise_singleton _ _
  | x :: y :: ws, h => by
    have ih := asc_of_steps (ws := y :: ws) fun k a b ha hb => h (k + 1) a b ha hb
    have hxy := h 0 x y rfl rfl
    refine List.pairwise_cons.mpr ⟨fun z hz => ?_, ih⟩
    rcases List.mem_cons.mp hz with rfl | hz
    · exact hxy
    · exact wlt_trans hxy ((List.pairwise_cons.mp ih).1 z hz)
theorem isLB_iff {v : D} : isLB v = true ↔ ∃ ws : List Wd, v = .tuple (ws.map sD) ∧ WL ws := by
  cases v with
  | tuple ds =>
    unfold isLB
    simp only [Bool.and_eq_true, decide_eq_true_eq]
    constructor
    · rintro ⟨h1, h2, h3, h4⟩
      obtain ⟨ws, rfl⟩ := strs_ex (show (ds.map isStrD).all id = true by
        rw [List.all_map, List.all_eq_true]
        exact fun d hd => areL_str (List.all_eq_true.mp h3 d hd))
      rw [List.length_map] at h1 h2 h4
      refine ⟨ws, rfl, h1, h2, fun w hw => ?_, ?_⟩
      · have := List.all_eq_true.mp h3 (sD w) (List.mem_map.mpr ⟨w, hw, rfl⟩)
        have e : areL (sD w) 1 6 = (decide ((1 : Int) ≤ (w.length : Int)) && (decide ((w.length : Int) ≤ 6) && w.all isLet)) := areL_T w 1 6
        rw [e] at this
        simp only [Bool.and_eq_true, decide_eq_true_eq] at this
        exact ⟨by omega, by omega, letAll_all.mp this.2.2⟩
      · refine asc_of_steps fun k x y hx hy => ?_
        have hk := (List.getElem?_eq_some_iff.mp hy).1
        have := of_decide_eq_true (List.all_eq_true.mp h4 k (List.mem_range.mpr (by omega)))
        rw [List.getD_eq_getElem?_getD, List.getD_eq_getElem?_getD, List.getElem?_map, List.getElem?_map, hx, hy] at this
        simpa [txD, sD, T] using this
    · rintro ⟨ws, e, h1, h2, h3, h4⟩
      cases e
      rw [List.length_map]
      refine ⟨h1, h2, ?_, ?_⟩
      · rw [List.all_eq_true]
        intro d hd
        obtain ⟨w, hw, rfl⟩ := List.mem_map.mp hd
        obtain ⟨a1, a2, a3⟩ := h3 w hw
        have e : areL (sD w) 1 6 = (decide ((1 : Int) ≤ (w.length : Int)) && (decide ((w.length : Int) ≤ 6) && w.all isLet)) := areL_T w 1 6
        rw [e, letAll_all.mpr a3, decide_eq_true (by omega), decide_eq_true (by omega)]
        rfl
      · rw [List.all_eq_true]
        intro k hk
        have hk := List.mem_range.mp hk
        have hlt := List.pairwise_iff_getElem.mp h4 k (k + 1) (by omega) (by omega) (by omega)
        rw [List.getD_eq_getElem?_getD, List.getD_eq_getElem?_getD, List.getElem?_map, List.getElem?_map, List.getElem?_eq_getElem (by omega), List.getElem?_eq_getElem (by omega)]
        exact decide_eq_true (by simpa [txD, sD, T] using hlt)
  | _ => exact ⟨fun h => (nomatch h), fun ⟨_, e, _⟩ => (nomatch e)⟩
def F_is_listA : List D → (D → Prop) → Prop := fun ds Q => ∃ v, ds = [v] ∧ okV v ∧ Q (.bool (isLB v))
theorem mono_is_listA : MonoD F_is_listA := fun ds P P' h ⟨a, e, h1, q⟩ => ⟨a, e, h1, h _ q⟩
def sepW : Wd := [44, 32]
theorem spl_len (S : List Nat) : ∀ (l : List Nat) (k : Nat) (acc : List Nat), (TL.spl S k acc l).length ≤ l.length + 1
  | [], k, acc => by rw [TL.spl_nil]; simp
  | c :: r, 0, acc => by
    unfold TL.spl
    split
    · have := spl_len S r (S.length - 1) []
      simp only [List.length_cons]
      omega
    · have := spl_len S r 0 (acc ++ [c])
      simp only [List.length_cons]
      omega
  | c :: r, k + 1, acc => by
    unfold TL.spl
    have := spl_len S r k acc
    simp only [List.length_cons]
    omega
theorem spl_part (S : List Nat) : ∀ (l : List Nat) (k : Nat) (acc p : List Nat), p ∈ TL.spl S k acc l → p.length ≤ acc.length + l.length
  | [], k, acc, p, h => by
    rw [TL.spl_nil] at h
    rw [List.mem_singleton.mp h]
    omega
  | c :: r, 0, acc, p, h => by
    unfold TL.spl at h
    split at h
    · rcases List.mem_cons.mp h with rfl | h
      · omega
      · have := spl_part S r (S.length - 1) [] p h
        simp only [List.length_cons, List.length_nil] at this ⊢
        omega
    · have := spl_part S r 0 (acc ++ [c]) p h
      simp only [List.length_append, List.length_cons, List.length_nil] at this ⊢
      omega
  | c :: r, k + 1, acc, p, h => by
    unfold TL.spl at h
    have := spl_part S r k acc p h
    simp only [List.length_cons]
    omega
theorem okV_split {w : Wd} (h : w.length ≤ 500) : okV (.tuple ((spW sepW w).map sD)) := by
  intro l e
  cases e
  refine ⟨?_, fun z hz => ?_⟩
  · rw [List.length_map]
    have := spl_len sepW w 0 []
    unfold spW
    omega
  · obtain ⟨p, hp, e⟩ := List.mem_map.mp hz
    cases e
    have := spl_part sepW w 0 [] p hp
    show p.length ≤ 100000
    simp only [List.length_nil] at this
    omega
def FX_check_list (cs : Cs) : FX := fun ds Q Z => ∃ v, ds = [v] ∧ okV v ∧ (isLB v = true → Q .none) ∧ (isLB v = false → Z cs.list)
theorem monox_check_list {cs : Cs} : MonoX (FX_check_list cs) := fun ds P P' Z Z' h1 h2 ⟨a, e, k, q, r⟩ => ⟨a, e, k, fun z => h1 _ (q z), fun z => h2 _ (r z)⟩
def FX_format_list (cs : Cs) : FX := fun ds Q Z => ∃ v, ds = [v] ∧ okV v ∧ (∀ ws, v = .tuple (ws.map sD) → WL ws → Q (sD (DL.joinW sepW ws))) ∧ (isLB v = false → Z cs.list)
theorem monox_format_list {cs : Cs} : MonoX (FX_format_list cs) := fun ds P P' Z Z' h1 h2 ⟨a, e, k, q, r⟩ => ⟨a, e, k, fun ws e w => h1 _ (q ws e w), fun z => h2 _ (r z)⟩
def FX_parse_list (cs : Cs) : FX := fun ds Q Z => ∃ v, ds = [v] ∧ (∀ z, v = .str z → z.cps.toList.length ≤ 500) ∧ (∀ t, v = .str (T t) → WL (spW sepW t) → Q (.tuple ((spW sepW t).map sD))) ∧ ((∀ t, v = .str (T t) → ¬ WL (spW sepW t)) → Z cs.text)
theorem monox_parse_list {cs : Cs} : MonoX (FX_parse_list cs) := fun ds P P' Z Z' h1 h2 ⟨a, e, k, q, r⟩ => ⟨a, e, k, fun t e w => h1 _ (q t e w), fun z => h2 _ (r z)⟩
def FX__law_call (cs : Cs) : FX := fun ds Q Z => ∃ b v, ds = [.int b, v] ∧ (b = 0 → FX_parse_list cs [v] Q Z) ∧ (b ≠ 0 → FX_format_list cs [v] Q Z)
theorem monox__law_call {cs : Cs} : MonoX (FX__law_call cs) := fun ds P P' Z Z' h1 h2 ⟨a, b, e, q, r⟩ => ⟨a, b, e, fun z => monox_parse_list _ _ _ _ _ h1 h2 (q z), fun z => monox_format_list _ _ _ _ _ h1 h2 (r z)⟩
def F__law_name (cs : Cs) : Addr → (D → Prop) → Prop := fun C Q => C ∈ cs.ten ∧ Q (.int ((cs.ten.idxOf C : Nat) : Int))
theorem monoE__law_name {cs : Cs} : MonoE (F__law_name cs) := fun C P P' h ⟨a, q⟩ => ⟨a, h _ q⟩
def wReturned : Wd := [114, 101, 116, 117, 114, 110, 101, 100]
def wRaised : Wd := [114, 97, 105, 115, 101, 100]
def F__law_outcome (cs : Cs) : List D → (D → Prop) → Prop := fun ds Q => ∃ d1 d2, ds = [d1, d2] ∧ FX__law_call cs [d1, d2] (fun d => Q (.tuple [sD wReturned, d])) (fun C => C ∈ cs.ten ∧ Q (.tuple [sD wRaised, .int ((cs.ten.idxOf C : Nat) : Int)]))
theorem mono__law_outcome {cs : Cs} : MonoD (F__law_outcome cs) := fun ds P P' h ⟨a, b, e, q⟩ => ⟨a, b, e, monox__law_call _ _ _ _ _ (fun _ z => h _ z) (fun _ z => ⟨z.1, h _ z.2⟩) q⟩
theorem ten_none {C : Addr} : ∀ {l : List Addr}, C ∉ l → (l.map fun E => decide (C = E)).count true = 0
  | [], _ => rfl
  | E :: l, h => by
    rw [List.mem_cons, not_or] at h
    rw [List.map_cons, List.count_cons, ten_none h.2, decide_eq_false h.1]
    rfl
theorem ten_count {C : Addr} : ∀ {l : List Addr}, l.Nodup → C ∈ l → (l.map fun E => decide (C = E)).count true = 1
  | [], _, h => by cases h
  | E :: l, hn, h => by
    have hn := List.nodup_cons.mp hn
    rw [List.map_cons, List.count_cons]
    by_cases e : C = E
    · subst e
      rw [ten_none hn.1, decide_eq_true rfl]
      rfl
    · rw [ten_count hn.2 ((List.mem_cons.mp h).resolve_left e), decide_eq_false e]
      rfl
theorem ten_idx {C : Addr} : ∀ {l : List Addr}, C ∈ l → (l.map fun E => decide (C = E))[l.idxOf C]? = some true ∧ ∀ m, m < l.idxOf C → (l.map fun E => decide (C = E))[m]? ≠ some true
  | [], h => by cases h
  | E :: l, h => by
    by_cases e : E = C
    · subst e
      rw [List.idxOf_cons_self]
      exact ⟨by simp, fun m hm => by omega⟩
    · have hm := (List.mem_cons.mp h).resolve_left fun z => e z.symm
      obtain ⟨h1, h2⟩ := ten_idx hm
      have ei : (E :: l).idxOf C = l.idxOf C + 1 := by
        rw [List.idxOf_cons, show (E == C) = false from beq_false_of_ne e]
        rfl
      rw [ei]
      refine ⟨by rw [List.map_cons]; exact h1, fun m hlt => ?_⟩
      cases m with
      | zero => simp; exact fun z => e z.symm
      | succ m => rw [List.map_cons, List.getElem?_cons_succ]; exact h2 m (by omega)
def namesL : List Wd := [[119, 111, 114, 100], [108, 105, 115, 116], [110, 117, 109, 98, 101, 114], [116, 101, 120, 116], [111, 110, 101], [97, 108, 114, 101, 97, 100, 121], [110, 111, 116], [109, 97, 110, 121], [100, 111, 117, 98, 116, 102, 117, 108], [117, 110, 100, 111]]
def F__law_raises : List D → (D → Prop) → Prop := fun ds Q => ∃ w, ∃ j : Nat, ds = [sD w] ∧ namesL[j]? = some w ∧ (∀ m, m < j → namesL[m]? ≠ some w) ∧ Q (.tuple [sD wRaised, .int ((j : Nat) : Int)])
theorem mono__law_raises : MonoD F__law_raises := fun ds P P' h ⟨a, b, e, h1, h2, q⟩ => ⟨a, b, e, h1, h2, h _ q⟩
def F_format_list (cs : Cs) : List D → (D → Prop) → Prop := fun ds Q => FX_format_list cs ds Q fun _ => False
theorem mono_format_list {cs : Cs} : MonoD (F_format_list cs) := fun ds P P' h q => monox_format_list _ _ _ _ _ h (fun _ z => z) q
def F_parse_list (cs : Cs) : List D → (D → Prop) → Prop := fun ds Q => FX_parse_list cs ds Q fun _ => False
theorem mono_parse_list {cs : Cs} : MonoD (F_parse_list cs) := fun ds P P' h q => monox_parse_list _ _ _ _ _ h (fun _ z => z) q
theorem nocomma {w : Wd} (h : LetAll w) : 44 ∉ w := fun hc => absurd (h 44 hc) (by unfold L; decide)
theorem split_joinW {ws : List Wd} (hne : ws ≠ []) (h : ∀ w ∈ ws, 44 ∉ w) : spW sepW (DL.joinW sepW ws) = ws := by
  rw [← joinL_eq]
  exact TL.spl_join hne h
theorem spl_chars (S : List Nat) : ∀ (l : List Nat) (k : Nat) (acc p : List Nat), p ∈ TL.spl S k acc l → ∀ c ∈ p, c ∈ acc ∨ c ∈ l
  | [], k, acc, p, h, c, hc => by
    rw [TL.spl_nil] at h
    rw [List.mem_singleton.mp h] at hc
    exact .inl hc
  | x :: r, 0, acc, p, h, c, hc => by
    unfold TL.spl at h
    split at h
    · rcases List.mem_cons.mp h with rfl | h
      · exact .inl hc
      · rcases spl_chars S r (S.length - 1) [] p h c hc with h | h
        · cases h
        · exact .inr (List.mem_cons_of_mem _ h)
    · rcases spl_chars S r 0 (acc ++ [x]) p h c hc with h | h
      · rcases List.mem_append.mp h with h | h
        · exact .inl h
        · rw [List.mem_singleton.mp h]; exact .inr (by simp)
      · exact .inr (List.mem_cons_of_mem _ h)
  | x :: r, k + 1, acc, p, h, c, hc => by
    unfold TL.spl at h
    rcases spl_chars S r k acc p h c hc with h | h
    · exact .inl h
    · exact .inr (List.mem_cons_of_mem _ h)
theorem spl_ne (S : List Nat) : ∀ (l : List Nat) (k : Nat) (acc : List Nat), TL.spl S k acc l ≠ []
  | [], k, acc => by rw [TL.spl_nil]; simp
  | x :: r, 0, acc => by
    unfold TL.spl
    split
    · simp
    · exact spl_ne S r 0 _
  | x :: r, k + 1, acc => by
    unfold TL.spl
    exact spl_ne S r k acc
theorem joinW_len {S : Wd} : ∀ {ws : List Wd} {m : Nat}, (∀ w ∈ ws, w.length ≤ m) → (DL.joinW S ws).length ≤ ws.length * (m + S.length)
  | [], _, _ => by simp [DL.joinW]
  | [p], m, h => by
    have := h p (by simp)
    simp only [DL.joinW, List.length_cons, List.length_nil]
    omega
  | p :: q :: r, m, h => by
    have h1 := h p (by simp)
    have h2 := joinW_len (S := S) (ws := q :: r) fun w hw => h w (List.mem_cons_of_mem _ hw)
    rw [DL.joinW, List.length_append, List.length_append, List.length_cons, Nat.succ_mul]
    omega
theorem joinW_chars {S : Wd} {n : Nat} (hS : ∀ c ∈ S, c < n) : ∀ {ws : List Wd}, (∀ w ∈ ws, ∀ c ∈ w, c < n) → ∀ c ∈ DL.joinW S ws, c < n
  | [], _, c, hc => by cases hc
  | [p], h, c, hc => h p (by simp) c hc
  | p :: q :: r, h, c, hc => by
    rw [DL.joinW] at hc
    rcases List.mem_append.mp hc with hc | hc
    · exact h p (by simp) c hc
    rcases List.mem_append.mp hc with hc | hc
    · exact hS c hc
    · exact joinW_chars hS (ws := q :: r) (fun w hw => h w (List.mem_cons_of_mem _ hw)) c hc
theorem joinW_front (S x : Wd) {w : Wd} {r : List Wd} : x ++ DL.joinW S (w :: r) = DL.joinW S ((x ++ w) :: r) := by
  cases r with
  | nil => rfl
  | cons q r => rw [DL.joinW, DL.joinW, List.append_assoc]
theorem joinW_back (S x : Wd) : ∀ (l : List Wd) (w : Wd), DL.joinW S (l ++ [w]) ++ x = DL.joinW S (l ++ [w ++ x])
  | [], w => rfl
  | [p], w => by
    show (p ++ (S ++ w)) ++ x = p ++ (S ++ (w ++ x))
    simp
  | p :: q :: l, w => by
    have ih := joinW_back S x (q :: l) w
    show (p ++ (S ++ DL.joinW S (q :: l ++ [w]))) ++ x = p ++ (S ++ DL.joinW S (q :: l ++ [w ++ x]))
    rw [← ih]
    simp
theorem space_front {ws : List Wd} (hw : WL ws) : ¬ WL (spW sepW ([32] ++ DL.joinW sepW ws)) := by
  intro h
  cases ws with
  | nil => have := hw.1; simp at this
  | cons w r =>
    rw [joinW_front, split_joinW (by simp) fun v hv => ?_] at h
    · have := (h.2.2.1 ([32] ++ w) (by simp)).2.2 32 (by simp)
      exact absurd this (by unfold L; decide)
    · rcases List.mem_cons.mp hv with rfl | hv
      · intro hc
        rcases List.mem_append.mp hc with hc | hc
        · simp at hc
        · exact nocomma (hw.2.2.1 w (by simp)).2.2 hc
      · exact nocomma (hw.2.2.1 v (List.mem_cons_of_mem _ hv)).2.2
theorem space_back {ws : List Wd} (hw : WL ws) : ¬ WL (spW sepW (DL.joinW sepW ws ++ [32])) := by
  intro h
  have hne : ws ≠ [] := fun e => by have := hw.1; rw [e] at this; simp at this
  obtain ⟨l, w, rfl⟩ : ∃ l w, ws = l ++ [w] := ⟨ws.dropLast, ws.getLast hne, (List.dropLast_concat_getLast hne).symm⟩
  rw [joinW_back, split_joinW (by simp) fun v hv => ?_] at h
  · have := (h.2.2.1 (w ++ [32]) (by simp)).2.2 32 (by simp)
    exact absurd this (by unfold L; decide)
  · rcases List.mem_append.mp hv with hv | hv
    · exact nocomma (hw.2.2.1 v (List.mem_append_left _ hv)).2.2
    · rw [List.mem_singleton.mp hv]
      intro hc
      rcases List.mem_append.mp hc with hc | hc
      · exact nocomma (hw.2.2.1 w (by simp)).2.2 hc
      · simp at hc
theorem idx_at {x : Addr} : ∀ {l : List Addr} {i : Nat}, l.Nodup → l[i]? = some x → l.idxOf x = i
  | [], i, _, h => by simp at h
  | a :: l, 0, _, h => by
    simp at h
    subst h
    exact List.idxOf_cons_self
  | a :: l, i + 1, hn, h => by
    have hn := List.nodup_cons.mp hn
    rw [List.getElem?_cons_succ] at h
    have hne : a ≠ x := fun e => hn.1 (e ▸ List.mem_of_getElem? h)
    rw [List.idxOf_cons, show (a == x) = false from beq_false_of_ne hne]
    show l.idxOf x + 1 = i + 1
    rw [idx_at hn.2 h]
theorem idx_text {cs : Cs} (h : cs.ten.Nodup) : cs.ten.idxOf cs.text = 3 := idx_at h rfl
theorem idx_list {cs : Cs} (h : cs.ten.Nodup) : cs.ten.idxOf cs.list = 1 := idx_at h rfl
theorem out_text {cs : Cs} {t : Wd} {Q : D → Prop} (hn : cs.ten.Nodup) (hl : t.length ≤ 500) (h1 : WL (spW sepW t) → Q (.tuple [sD wReturned, .tuple ((spW sepW t).map sD)])) (h2 : ¬ WL (spW sepW t) → Q (.tuple [sD wRaised, .int 3])) : F__law_outcome cs [.int 0, sD t] Q := by
  refine ⟨.int 0, sD t, rfl, 0, sD t, rfl, fun _ => ⟨sD t, rfl, fun z e => ?_, fun t' e w => ?_, fun w => ⟨by simp [Cs.ten], ?_⟩⟩, fun z => absurd rfl z⟩
  · cases e; exact hl
  · cases Tw_inj (PyData.str.inj e)
    exact h1 w
  · rw [idx_text hn]
    exact h2 fun z => w t rfl z
theorem out_bad {cs : Cs} {v : D} {Q : D → Prop} (hn : cs.ten.Nodup) (hs : isStrD v = false) (h2 : Q (.tuple [sD wRaised, .int 3])) : F__law_outcome cs [.int 0, v] Q := by
  refine ⟨.int 0, v, rfl, 0, v, rfl, fun _ => ⟨v, rfl, fun z e => ?_, fun t' e w => ?_, fun w => ⟨by simp [Cs.ten], ?_⟩⟩, fun z => absurd rfl z⟩
  · subst e; cases hs
  · subst e; cases hs
  · rw [idx_text hn]
    exact h2
theorem out_list {cs : Cs} {v : D} {Q : D → Prop} (hn : cs.ten.Nodup) (hv : okV v) (hs : isLB v = false) (h2 : Q (.tuple [sD wRaised, .int 1])) : F__law_outcome cs [.int 1, v] Q := by
  refine ⟨.int 1, v, rfl, 1, v, rfl, fun z => absurd z (by decide), fun _ => ⟨v, rfl, hv, fun ws e w => ?_, fun w => ⟨by simp [Cs.ten], ?_⟩⟩⟩
  · rw [isLB_iff.mpr ⟨ws, e, w⟩] at hs; cases hs
  · rw [idx_list hn]
    exact h2
theorem raises_text {Q : D → Prop} (h : Q (.tuple [sD wRaised, .int 3])) : F__law_raises [sD [116, 101, 120, 116]] Q := ⟨_, 3, rfl, rfl, by decide, h⟩
theorem raises_list {Q : D → Prop} (h : Q (.tuple [sD wRaised, .int 1])) : F__law_raises [sD [108, 105, 115, 116]] Q := ⟨_, 1, rfl, rfl, by decide, h⟩
end SWk

set_option autoImplicit true
set_option maxHeartbeats 4000000
namespace SWk
open PySem PySem.Spec PyProof.Rows L2 DL
local macro_rules | `(tactic| walk_at "d") => `(tactic| simp only [↓reduceIte, ↓u_lkV_s, ↓u_lkV_0, ↓u_cvK_v, ↓u_cvK_o, ↓u_ownK, ↓u_obL, ↓u_obK, ↓u_setK_s, ↓u_setK_0, ↓u_onI, ↓u_onB, ↓u_onS, ↓u_onS', ↓u_onD, ↓u_onO, ↓u_onT, ↓u_onLd, ↓u_vals, ↓u_mulS, ↓u_SSe, ↓u_SUe, ↓u_xSeq, ↓u_xIf, ↓u_xNext, ↓u_xRaise, ↓u_xDrop, ↓u_xRet, ↓u_xOf, ↓u_eCall, ↓u_eIf, ↓u_split, ↓u_isX, ↓u_callE, ↓u_cntB, ↓u_lixB, ↓u_isNx_d, ↓u_isNx_o, tl_sep, ↓u_onSq_l, ↓u_onSq_t, ↓u_onSq_o, ↓u_onLq_l, ↓u_onLq_o, ↓u_outsK_n, ↓u_outsK_c, ↓u_keyK_s, ↓u_keyK_s', ↓u_keyK_i, ↓u_tupK, ↓u_lisK, ↓u_var, ↓u_varF, ↓u_c, ↓u_op, ↓u_tst, ↓u_chain, ↓u_andV, ↓u_orV, ↓u_notV, ↓u_if, ↓u_and, ↓u_or, ↓u_not, ↓u_nil, ↓u_cons, ↓u_tup, ↓u_lst, ↓u_cb, ↓u_I0, ↓u_I, ↓u_eqI, ↓u_eqS, ↓u_eqB, ↓u_eqD, ↓u_addS, ↓u_ltS, ↓u_onC, ↓u_onC', ↓u_inC, ↓u_ix, ↓u_ixS, ↓u_txsK, ↓u_inS, ↓u_catT, ↓u_catL, ↓u_noPart, ↓u_part, ↓u_sl, ↓u_slS, ↓u_slL, ↓u_slT, ↓u_len, ↓u_lenS, ↓u_all, ↓u_any, ↓u_abs, ↓u_mm, ↓u_min3, ↓u_int, ↓u_listOf, ↓u_tupOf, ↓u_listS, ↓u_sort, ↓u_isi, ↓u_isN, ↓u_neg, ↓u_join, ↓u_append, ↓u_next, ↓u_seq, ↓u_never, ↓u_break, ↓u_ret, ↓u_retN, ↓u_drop, ↓u_sIf, ↓u_asD_d, ↓u_asD_o, ↓u_frzD_d, ↓u_frzD_o, ↓u_gNm, ↓u_gsNil, ↓u_gsCons, ↓u_gTup, ↓u_set, ↓u_setN, ↓u_par, ↓u_nLst, ↓u_nCat, ↓u_callTO, ↓u_argTO, ↓u_parN, ↓u_par3N, ↓u_par3, ↓u_three, ↓u_disp1, ↓u_ext, ↓u_minD, ↓u_seqK_l, ↓u_seqK_t, ↓u_iEnSq, ↓u_iSeq, ↓u_slQ, ↓u_slQK_l, ↓u_slQK_t, ↓u_cnt, ↓u_lix, ↓u_sortU, ↓u_sumU, ↓u_idx, ↓u_nLc2, ↓u_min1, ↓u_max1, ↓u_sum, ↓u_intsK, ↓u_iZip2, ↓u_disp, ↓u_revS, ↓u_iEnS, ↓u_lr1, ↓u_dictT, ↓u_getT, ↓u_putT, ↓u_getK, ↓u_keysK_n, ↓u_keysK_i, ↓u_keysK_s, ↓u_obT, ↓u_nDict, ↓u_frz, ↓u_nLc, ↓u_sFor, ↓u_rep, ↓u_putL, ↓u_putD, ↓u_inD, ↓u_get2, ↓u_call, ↓u_nCall, ↓u_argT, ↓u_callT, ↓u_iLst, ↓u_iTpl, ↓u_iTxt, ↓u_one1, ↓u_one2, ↓u_iRg1, ↓u_iRg2, ↓u_yes,
  List.getElem?_cons_zero, List.getElem?_cons_succ, List.getElem?_nil, List.set_cons_zero, List.set_cons_succ, List.replicate_succ, List.replicate_zero, List.map_cons, List.map_nil, List.cons_append, List.nil_append, List.length_cons, List.length_nil, Option.some.injEq, Option.map_some, Option.join_some, DV.d.injEq, DV.o.injEq, DCell.own.injEq, DCell.val.injEq, DOb.lst.injEq, DOb.dK.injEq, eq_self, PyData.int.injEq, PyData.str.injEq, PyData.bool.injEq, PyData.list.injEq, PyData.tuple.injEq, List.cons.injEq, T_inj, reduceCtorEq, sD, kD_inl, kD_inr, u_argTO, u_three, u_seqK_l, u_seqK_t, u_slQK_l, u_slQK_t, u_intsK, u_keysK_n, u_keysK_i, u_keysK_s, u_obT, u_lkV_s, u_lkV_0, u_cvK_v, u_cvK_o, u_ownK, u_obL, u_obK, u_setK_s, u_setK_0, u_onI, u_onB, u_onS, u_onS', u_onD, u_onO, u_onT, u_onLd, u_onSq_l, u_onSq_t, u_onSq_o, u_onLq_l, u_onLq_o, u_outsK_n, u_outsK_c, u_keyK_s, u_keyK_s', u_keyK_i, u_tupK, u_lisK, u_onC, u_onC', u_txsK, u_asD_d, u_asD_o, u_frzD_d, u_frzD_o, u_argT, u_one1, u_one2, u_wipe, u_wipe0, u_rest, u_rest0, isStrD, isIntD, isBoolD, isTupD, tyN, exists_eq_left, exists_eq_left', exists_and_left, exists_and_right, and_assoc, exists_const, exists_false, false_and, and_false, true_and, and_true, and_self, false_or, or_false, Bool.false_eq_true, Bool.not_true, Bool.not_false, bne_self_eq_false, Bool.true_bne, Bool.false_bne, decide_true, decide_false, forall_const, implies_true, Nat.reduceLeDiff, Nat.reduceAdd, Nat.le_refl])
def topS (i : Nat) : Stmt := PySem.Challenge.pw_slipwords_k72_whole_texts.main.body.getD i (.Pass ⟨0, 0, 0, 0⟩)
open SW
section
variable {P : Program} {w : World} {K : PySem.W.Frag} {mg : Str → Option Value} {base : Heap}
abbrev s__law_town : Stmt := topS 22
abbrev N__law_town : List Str := ["script"]
theorem sc__law_town : FnScope N__law_town ["script"] (defScope s__law_town) := ⟨rfl, rfl, rfl, by decide +kernel, rfl, by decide +kernel, by decide +kernel⟩
theorem ok__law_town {f : Addr} {fd : FuncData} (G : Fun K "_law_town" "_law_town" s__law_town f fd) (m_list : mg "list" = none) : FnOk P w K mg base CX0 1 f fd ["script"] (spN K 1 F__law_town) := by
  refine fnN (n := 1) (m := 0) G sc__law_town rfl rfl rfl fun ds Q hl hF => ⟨_, fun cdv A outer s H E hr =>
      (pdn_cat (h1 := (pd_lst (pda_cons (h1 := pd_int) (h2 := pda_nil)))) (h2 := (pd_callTy call_list_of cs_listOf (by rfl) m_list (by decide +kernel) (h1 := (pda_cons (h1 := (pd_var 0)) (h2 := pda_nil)))))), ?_⟩
  obtain ⟨ns, rfl, h63, hQ⟩ := hF
  walk_at "d"
  refine ⟨by simp [iD]; omega, hQ _ ⟨0, ns, rfl, rfl, by omega, by omega⟩⟩
abbrev s__law_draw : Stmt := topS 23
abbrev N__law_draw : List Str := ["script", "town", "limit", "at", "left", "number"]
theorem sc__law_draw : FnScope N__law_draw ["script", "town", "limit"] (defScope s__law_draw) := ⟨rfl, rfl, rfl, by decide +kernel, rfl, by decide +kernel, by decide +kernel⟩
theorem ok__law_draw {f : Addr} {fd : FuncData} (G : Fun K "_law_draw" "_law_draw" s__law_draw f fd) (m_len : mg "len" = none) : FnOk P w K mg base CX0 1 f fd ["script", "town", "limit"] (spT K 2 F__law_draw) := by
  refine fnT (n := 1) (m := 3) G sc__law_draw rfl rfl fun ts s0 ds Q hl hF => ⟨_, fun cdv A outer s H E hr =>
      (pdss_cons (pds_putL (h1 := (pd_op op_add (rs_I0 fun _ _ _ => .int _) (h1 := (pd_ix ix_seq rs_ix (fun _ _ => rfl) (h1 := (pd_var 1)) (h2 := pd_int))) (h2 := pd_int))) (h2 := (pd_var 1)) (h3 := pd_int))
      (pdss_cons (pds_if (pdt_cmp (op_eqD (room64 hr)) rs_eqD (nomark _) (h1 := (pd_var 0)) (h2 := (pd_lst pda_nil))) (pdss_one (pds_ret (pd_op op_mod (rs_I fun _ _ _ => .int _) (h1 := (pd_op op_fdiv (rs_I fun _ _ _ => .int _) (h1 := (pd_op op_mul (rs_I fun _ _ _ => .int _) (h1 := (pd_op op_mul (rs_I fun _ _ _ => .int _) (h1 := (pd_ix ix_seq rs_ix (fun _ _ => rfl) (h1 := (pd_var 1)) (h2 := pd_int))) (h2 := (pd_ix ix_seq rs_ix (fun _ _ => rfl) (h1 := (pd_var 1)) (h2 := pd_int))))) (h2 := pd_int))) (h2 := pd_int))) (h2 := (pd_var 2))))) pdss_nil)
      (pdss_cons (pds_set (i := 3) sc__law_draw.nd (h1 := (pd_op op_mod (rs_I fun _ _ _ => .int _) (h1 := (pd_ix ix_seq rs_ix (fun _ _ => rfl) (h1 := (pd_var 1)) (h2 := pd_int))) (h2 := (pd_callB call_len_seq cs_len (by rfl) m_len boot_len (h1 := (pda_cons (h1 := (pd_var 0)) (h2 := pda_nil))))))))
      (pdss_cons (pds_set (i := 4) sc__law_draw.nd (h1 := (pd_ix ix_seq rs_ix (fun _ _ => rfl) (h1 := (pd_var 1)) (h2 := (pd_op op_add (rs_I0 fun _ _ _ => .int _) (h1 := pd_int) (h2 := (pd_var 3)))))))
      (pdss_cons (pds_if (PDW.pt (pdw_and (pdt_cmp op_ge (rs_I0 fun _ _ _ => .bl _) (nomark _) (h1 := (pd_ix ix_seq rs_ix (fun _ _ => rfl) (h1 := (pd_var 0)) (h2 := (pd_var 3)))) (h2 := (pd_op op_pow (rs_I fun _ _ _ => .int _) (h1 := pd_int) (h2 := pd_int)))) (pdw_and1 (pdt_cmp op_gt (rs_I0 fun _ _ _ => .bl _) (nomark _) (h1 := (pd_var 4)) (h2 := pd_int))))) (pdss_cons (pds_putL (h1 := (pd_op op_fdiv (rs_I fun _ _ _ => .int _) (h1 := (pd_var 4)) (h2 := (pd_var 2)))) (h2 := (pd_var 1)) (h3 := (pd_op op_add (rs_I0 fun _ _ _ => .int _) (h1 := pd_int) (h2 := (pd_var 3)))))
        (pdss_one (pds_ret (pd_op op_mod (rs_I fun _ _ _ => .int _) (h1 := (pd_var 4)) (h2 := (pd_var 2)))))) pdss_nil)
      (pdss_cons (pds_set (i := 5) sc__law_draw.nd (h1 := (pd_op op_mod (rs_I fun _ _ _ => .int _) (h1 := (pd_op op_add (rs_I0 fun _ _ _ => .int _) (h1 := (pd_ix ix_seq rs_ix (fun _ _ => rfl) (h1 := (pd_var 0)) (h2 := (pd_var 3)))) (h2 := (pd_op op_mul (rs_I fun _ _ _ => .int _) (h1 := pd_int) (h2 := (pd_ix ix_seq rs_ix (fun _ _ => rfl) (h1 := (pd_var 1)) (h2 := pd_int))))))) (h2 := pd_int))))
      (pdss_cons (pds_set (i := 5) sc__law_draw.nd (h1 := (pd_op op_mod (rs_I fun _ _ _ => .int _) (h1 := (pd_op op_pow (rs_I fun _ _ _ => .int _) (h1 := (pd_var 5)) (h2 := pd_int))) (h2 := pd_int))))
      (pdss_one (pds_ret (pd_op op_mod (rs_I fun _ _ _ => .int _) (h1 := (pd_op op_fdiv (rs_I fun _ _ _ => .int _) (h1 := (pd_op op_mod (rs_I fun _ _ _ => .int _) (h1 := (pd_op op_add (rs_I0 fun _ _ _ => .int _) (h1 := (pd_op op_mul (rs_I fun _ _ _ => .int _) (h1 := (pd_op op_fdiv (rs_I fun _ _ _ => .int _) (h1 := (pd_var 5)) (h2 := pd_int))) (h2 := pd_int))) (h2 := (pd_var 5)))) (h2 := pd_int))) (h2 := pd_int))) (h2 := (pd_var 2)))))))))))), ?_⟩
  obtain ⟨ns, N, lim, e, h63, ⟨n, cs, rfl, hcs, hn0, hnN⟩, hN, hl0, hl1, hQ⟩ := hF
  have e : s0 = .list (iD ns) ∧ ds = [.int lim] := by simpa using e
  obtain ⟨rfl, rfl⟩ := e
  intro p
  have e1 : ∀ (x : D) (l : List D), ixN (l.length + 1) 0 = some 0 := fun x l => ixN_n (j := 0) (by omega)
  have ed : CDiv 0 lim := ⟨hl0, by omega⟩
  walk_at "d"
  have a0 : ∀ (x : D) (l : List D), atI (x :: l) 0 = some x := fun x l => atI_cons0
  simp only [a0, e1 (.int n), Option.some.injEq, exists_eq_left', u_onI, List.set_cons_zero, shaped_ints, true_and, List.length_cons]
  have hT : ∀ (k : Nat) (x : Int), Town ns (N + 1) (PyData.int (n + 1) :: (iD cs).set k (PyData.int x)) := fun k x => ⟨n + 1, cs.set k x, by unfold iD; rw [List.map_set], by simpa using hcs, by omega, by omega⟩
  have hT0 : Town ns (N + 1) (PyData.int (n + 1) :: iD cs) := ⟨n + 1, cs, rfl, hcs, by omega, by omega⟩
  have hm : ∀ x : Int, 0 ≤ x % lim ∧ x % lim < lim := fun x => ⟨Int.emod_nonneg _ (by omega), Int.emod_lt_of_pos _ hl0⟩
  cases ns with
  | nil =>
    refine ⟨shaped_ints [], ?_⟩
    rw [if_pos (show PyData.eqv (.list (iD [])) (.list []) = true from rfl)]
    exact ⟨.inl ⟨by omega, by omega⟩, .inr ⟨by omega, by omega⟩, ⟨by omega, by omega⟩, hl0, hQ _ _ (hm _).1 (hm _).2 hT0⟩
  | cons a ns =>
    refine ⟨shaped_ints [], ?_⟩
    rw [if_neg (show ¬ PyData.eqv (.list (iD (a :: ns))) (.list []) = true from fun h => nomatch h)]
    have hlen : (iD (a :: ns)).length = ns.length + 1 := by simp [iD]
    have hlc : (iD cs).length = ns.length + 1 := by simpa [iD] using hcs
    obtain ⟨k, hk, ek⟩ : ∃ k : Nat, k < ns.length + 1 ∧ (n + 1) % ((iD (a :: ns)).length : Int) = k := by
      refine ⟨((n + 1) % ((ns.length + 1 : Nat) : Int)).toNat, ?_, ?_⟩
      · have := Int.emod_lt_of_pos (n + 1) (show (0 : Int) < ((ns.length + 1 : Nat) : Int) by omega)
        omega
      · have := Int.emod_nonneg (n + 1) (show ((ns.length + 1 : Nat) : Int) ≠ 0 by omega)
        rw [hlen]; omega
    obtain ⟨x, ex⟩ : ∃ x : Int, atI (iD (a :: ns)) k = some (.int x) := by
      refine ⟨(a :: ns)[k]'(by simpa using hk), atI_nat ?_⟩
      unfold iD
      rw [List.getElem?_map, List.getElem?_eq_getElem (by simpa using hk)]
      rfl
    obtain ⟨y, ey⟩ : ∃ y : Int, atI (PyData.int (n + 1) :: iD cs) (1 + (k : Int)) = some (.int y) := by
      have : (1 + (k : Int)) = ((k + 1 : Nat) : Int) := by omega
      rw [this]
      have hc : k < cs.length := by simp at hcs; omega
      refine ⟨cs[k], atI_nat ?_⟩
      rw [List.getElem?_cons_succ]
      unfold iD
      rw [List.getElem?_map, List.getElem?_eq_getElem hc]
      rfl
    have ei : ixN ((iD cs).length + 1) (1 + (k : Int)) = some (k + 1) := by
      have : (1 + (k : Int)) = ((k + 1 : Nat) : Int) := by omega
      rw [this]
      exact ixN_n (by omega)
    have tail : CMul 104729 (n + 1) ∧
      (0 : Int) < 4294967291 ∧ CPow ((x + 104729 * (n + 1)) % 4294967291) 5 ∧ (0 : Int) < 4294967279 ∧
        CDiv (((x + 104729 * (n + 1)) % 4294967291) ^ Int.toNat 5 % 4294967279) 64 ∧
          CMul (((x + 104729 * (n + 1)) % 4294967291) ^ Int.toNat 5 % 4294967279 / 64) 69621 ∧
            (0 : Int) < 4294967231 ∧
              CDiv ((((x + 104729 * (n + 1)) % 4294967291) ^ Int.toNat 5 % 4294967279 / 64 * 69621 + ((x + 104729 * (n + 1)) % 4294967291) ^ Int.toNat 5 % 4294967279) % 4294967231) 8 ∧
                0 < lim ∧ Q (.int ((((x + 104729 * (n + 1)) % 4294967291) ^ Int.toNat 5 % 4294967279 / 64 * 69621 + ((x + 104729 * (n + 1)) % 4294967291) ^ Int.toNat 5 % 4294967279) % 4294967231 / 8 % lim)) (PyData.int (n + 1) :: iD cs) := by
      refine ⟨.inl ⟨by omega, by omega⟩, by omega, ⟨by omega, by omega, ?_⟩, by omega, ⟨by omega, by omega⟩, .inr ⟨by omega, by omega⟩, by omega, ⟨by omega, by omega⟩, hl0, hQ _ _ (hm _).1 (hm _).2 hT0⟩
      have h1 := Int.emod_nonneg (x + 104729 * (n + 1)) (show (4294967291 : Int) ≠ 0 by omega)
      have h2 := Int.emod_lt_of_pos (x + 104729 * (n + 1)) (show (0 : Int) < 4294967291 by omega)
      omega
    have hcp : CPow 10 18 := ⟨by omega, by omega, by decide⟩
    simp only [ek, ex, ey, ei, Option.some.injEq, exists_eq_left', u_onI, List.set_cons_succ]
    refine ⟨by omega, hcp, ite2 (fun _ => ite2 (fun _ => ?_) fun _ => ?_) fun _ => ?_⟩
    · exact ⟨⟨hl0, by omega⟩, hl0, hQ _ _ (hm _).1 (hm _).2 (hT _ _)⟩
    · exact tail
    · exact tail
abbrev s__law_pick : Stmt := topS 24
abbrev N__law_pick : List Str := ["script", "town", "choices"]
theorem sc__law_pick : FnScope N__law_pick ["script", "town", "choices"] (defScope s__law_pick) := ⟨rfl, rfl, rfl, by decide +kernel, rfl, by decide +kernel, by decide +kernel⟩
theorem ok__law_pick {f : Addr} {fd : FuncData} (G : Fun K "_law_pick" "_law_pick" s__law_pick f fd) (m_len : mg "len" = none) (c__law_draw : Cl P w K mg base 1 "_law_draw" ["script", "town", "limit"] (spT K 2 F__law_draw)) : FnOk P w K mg base CX0 2 f fd ["script", "town", "choices"] (spT K 2 F__law_pick) := by
  refine fnT (n := 1) (m := 0) G sc__law_pick rfl rfl fun ts s0 ds Q hl hF => ⟨_, fun cdv A outer s H E hr =>
      (pdss_one (pds_ret (pd_ix ix_seq rs_ix (fun _ _ => rfl) (h1 := (pd_var 2)) (h2 := (pd_clT c__law_draw mono__law_draw hr (by decide) (by rfl) (h := (pda_cons (h1 := (pd_var 0)) (h2 := (pda_cons (h1 := (pd_var 1)) (h2 := (pda_cons (h1 := (pd_callB call_len_seq cs_len (by rfl) m_len boot_len (h1 := (pda_cons (h1 := (pd_var 2)) (h2 := pda_nil))))) (h2 := pda_nil)))))))))))), ?_⟩
  obtain ⟨ns, N, c, cs, e, hc, h63, hT, hN, hne, hcl, hQ⟩ := hF
  have e : s0 = .list (iD ns) ∧ ds = [c] := by simpa using e
  obtain ⟨rfl, rfl⟩ := e
  intro p
  have hpos : 0 < cs.length := by cases cs with
    | nil => exact absurd rfl hne
    | cons a l => simp
  have main : ∀ r : Int, 0 ≤ r → r < (cs.length : Int) → ∃ d, atI cs r = some d ∧ d ∈ cs := fun r h0 h1 => by
    obtain ⟨k, rfl⟩ : ∃ k : Nat, r = k := ⟨r.toNat, by omega⟩
    have hk : k < cs.length := by omega
    exact ⟨cs[k], atI_nat (List.getElem?_eq_getElem hk), List.getElem_mem hk⟩
  rcases hc with rfl | rfl
  · walk_at "d"
    refine ⟨ns, N, _, rfl, h63, hT, hN, by omega, by omega, fun r ts' h0 h1 hT' => ?_⟩
    walk_at "d"
    obtain ⟨d, e, hd⟩ := main r h0 h1
    exact ⟨d, e, hQ d _ hd hT'⟩
  · walk_at "d"
    refine ⟨ns, N, _, rfl, h63, hT, hN, by omega, by omega, fun r ts' h0 h1 hT' => ?_⟩
    walk_at "d"
    obtain ⟨d, e, hd⟩ := main r h0 h1
    exact ⟨d, e, hQ d _ hd hT'⟩
abbrev s__law_letters : Stmt := topS 28
abbrev N__law_letters : List Str := ["script", "town", "many", "signs", "k"]
theorem sc__law_letters : FnScope N__law_letters ["script", "town", "many"] (defScope s__law_letters) := ⟨rfl, rfl, rfl, by decide +kernel, rfl, by decide +kernel, by decide +kernel⟩
theorem ok__law_letters {f : Addr} {fd : FuncData} (G : Fun K "_law_letters" "_law_letters" s__law_letters f fd) (m_list : mg "list" = none) (m_range : mg "range" = none) (c__law_pick : Cl P w K mg base 2 "_law_pick" ["script", "town", "choices"] (spT K 2 F__law_pick)) : FnOk P w K mg base CX0 3 f fd ["script", "town", "many"] (spT K 2 F__law_letters) := by
  refine fnT (n := 1) (m := 2) G sc__law_letters rfl rfl fun ts s0 ds Q hl hF => ⟨_, fun cdv A outer s H E hr =>
      (pdss_cons (pds_set (i := 3) sc__law_letters.nd (h1 := (pd_clT c__law_pick mono__law_pick hr (by decide) (by rfl) (h := (pda_cons (h1 := (pd_var 0)) (h2 := (pda_cons (h1 := (pd_var 1)) (h2 := (pda_cons (h1 := (pd_lst (pda_cons (h1 := (pd_str [97, 98])) (h2 := (pda_cons (h1 := (pd_str [97, 98, 99])) (h2 := (pda_cons (h1 := (pd_str [97, 98, 99, 100])) (h2 := pda_nil)))))))) (h2 := pda_nil))))))))))
      (pdss_one (pds_ret (pd_join (h1 := (pd_str [])) (h2 := (pd_frz (pdn_lc (own := [("k", 4)]) (vs := [4]) rfl sc__law_letters.nd rfl (pdi_range1 (by rfl) m_range (h1 := (pda_cons (h1 := (pd_var 2)) (h2 := pda_nil)))) (blkOk_by (N := N__law_letters) (sc := defScope s__law_letters) (by decide +kernel)) (fun _ _ _ _ _ => pdgv_name (i := 4) sc__law_letters.nd) (fun _ _ _ _ _ => pdts_nil) (fun _ _ _ _ _ => (pd_clT c__law_pick mono__law_pick hr (by decide) (by rfl) (h := (pda_cons (h1 := (pd_var 0)) (h2 := (pda_cons (h1 := (pd_var 1)) (h2 := (pda_cons (h1 := (pd_callTy (call_listS rfl) cs_listS (by rfl) m_list (by decide +kernel) (h1 := (pda_cons (h1 := (pd_var 3)) (h2 := pda_nil))))) (h2 := pda_nil)))))))))))))))), ?_⟩
  obtain ⟨ns, N, m, e, hm, h63, hT, hN, hQ⟩ := hF
  have e : s0 = .list (iD ns) ∧ ds = [.int ((m : Nat) : Int)] := by simpa using e
  obtain ⟨rfl, rfl⟩ := e
  intro p
  walk_at "d"
  refine ⟨ns, N, _, _, rfl, .inl rfl, h63, hT, by omega, by simp, by simp, fun d ts' hd hT' => ?_⟩
  obtain ⟨sg, rfl, hsg, hs1⟩ : ∃ sg : Wd, d = sD sg ∧ LetAll sg ∧ sg ≠ [] ∧ sg.length ≤ 4 := by
    simp only [List.mem_cons, List.not_mem_nil, or_false] at hd
    rcases hd with rfl | rfl | rfl
    · exact ⟨[97, 98], rfl, letAll_all.mp (by decide), by simp, by simp⟩
    · exact ⟨[97, 98, 99], rfl, letAll_all.mp (by decide), by simp, by simp⟩
    · exact ⟨[97, 98, 99, 100], rfl, letAll_all.mp (by decide), by simp, by simp⟩
  obtain ⟨hne, hl4⟩ := hs1
  refine ⟨⟨_, rfl⟩, by omega, by omega, ?_⟩
  obtain ⟨W, eW⟩ : ∃ W : Nat → List D → DCtx → Prop, W = fun i acc Γ => ∃ x ts, x.length = i ∧ LetAll x ∧ Town ns (N + 1 + i) ts ∧ acc = x.map (fun c => sD [c]) ∧ Γ = [some (DCell.val (PyData.list (iD ns))), some (DCell.own p (DOb.lst ts)), some (DCell.val (PyData.int ↑m)), some (DCell.val (sD sg)), none] := ⟨_, rfl⟩
  have en : ((m : Nat) : Int).toNat = m := by omega
  rw [en]
  refine ⟨by simp, by simp; omega, W, ?_, ?_, ?_⟩
  · subst eW
    exact ⟨[], ts', rfl, fun _ h => (by simp at h), hT', rfl, rfl⟩
  · intro i acc Γ2 d hi hW
    rw [eW] at hW
    obtain ⟨x, ts2, hx, hxl, hT2, rfl, rfl⟩ := hW
    have him : i < m := by
      have := (List.getElem?_eq_some_iff.mp hi).1
      simpa using this
    walk_at "d"
    refine ⟨by omega, ns, N + 1 + i, _, _, rfl, .inl rfl, h63, hT2, by omega, by simpa using hne, by simp; omega, fun c ts3 hc hT3 => ?_⟩
    obtain ⟨k, hk, rfl⟩ := List.mem_map.mp hc
    subst eW
    exact ⟨x ++ [k], ts3, by simp [hx], fun y hy => (List.mem_append.mp hy).elim (hxl y) fun h => by rw [List.mem_singleton.mp h]; exact hsg k hk, hT3.mono (by omega), by simp [sD], rfl⟩
  · intro acc Γ2 hW
    rw [eW] at hW
    obtain ⟨x, ts2, hx, hxl, hT2, rfl, rfl⟩ := hW
    have hxm : x.length = m := by simpa using hx
    have e1 : (x.map fun c => sD [c]) = (x.map fun c => [c]).map sD := by simp
    rw [e1]
    walk_at "d"
    rw [joinW_ones]
    refine ⟨?_, hQ x ts2 hxm hxl (hT2.mono (by simp))⟩
    rw [sum_ones]; simp; omega
abbrev s__law_slip : Stmt := topS 29
abbrev N__law_slip : List Str := ["script", "town", "text", "letter", "place", "sort_of", "front", "back"]
theorem sc__law_slip : FnScope N__law_slip ["script", "town", "text"] (defScope s__law_slip) := ⟨rfl, rfl, rfl, by decide +kernel, rfl, by decide +kernel, by decide +kernel⟩
theorem ok__law_slip {f : Addr} {fd : FuncData} (G : Fun K "_law_slip" "_law_slip" s__law_slip f fd) (m_len : mg "len" = none) (c__law_draw : Cl P w K mg base 1 "_law_draw" ["script", "town", "limit"] (spT K 2 F__law_draw)) (c__law_letters : Cl P w K mg base 3 "_law_letters" ["script", "town", "many"] (spT K 2 F__law_letters)) : FnOk P w K mg base CX0 4 f fd ["script", "town", "text"] (spT K 2 F__law_slip) := by
  refine fnT (n := 1) (m := 5) G sc__law_slip rfl rfl fun ts s0 ds Q hl hF => ⟨_, fun cdv A outer s H E hr =>
      (pdss_cons (pds_par (i := 4) (j := 5) rfl sc__law_slip.nd (h1 := (pda_cons (h1 := (pd_clT c__law_draw mono__law_draw hr (by decide) (by rfl) (h := (pda_cons (h1 := (pd_var 0)) (h2 := (pda_cons (h1 := (pd_var 1)) (h2 := (pda_cons (h1 := (pd_op op_add (rs_I0 fun _ _ _ => .int _) (h1 := (pd_callB call_len_str cs_lenS (by rfl) m_len boot_len (h1 := (pda_cons (h1 := (pd_var 2)) (h2 := pda_nil))))) (h2 := pd_int))) (h2 := pda_nil))))))))) (h2 := (pda_cons (h1 := (pd_clT c__law_draw mono__law_draw hr (by decide) (by rfl) (h := (pda_cons (h1 := (pd_var 0)) (h2 := (pda_cons (h1 := (pd_var 1)) (h2 := (pda_cons (h1 := pd_int) (h2 := pda_nil))))))))) (h2 := pda_nil))))))
      (pdss_cons (pds_par (i := 6) (j := 7) rfl sc__law_slip.nd (h1 := (pda_cons (h1 := (pd_slice sl_str ss_str (h1 := (pd_var 2)) (h2 := pdo_none) (h3 := (pdo_some (pd_var 4))))) (h2 := (pda_cons (h1 := (pd_slice sl_str ss_str (h1 := (pd_var 2)) (h2 := (pdo_some (pd_var 4))) (h3 := pdo_none))) (h2 := pda_nil))))))
      (pdss_cons (pds_set (i := 3) sc__law_slip.nd (h1 := (pd_clT c__law_letters mono__law_letters hr (by decide) (by rfl) (h := (pda_cons (h1 := (pd_var 0)) (h2 := (pda_cons (h1 := (pd_var 1)) (h2 := (pda_cons (h1 := pd_int) (h2 := pda_nil))))))))))
      (pdss_cons (pds_if (pdt_cmp op_eq rs_eqI (nomark _) (h1 := (pd_var 5)) (h2 := pd_int)) (pdss_one (pds_ret (pd_op op_add_str rs_addS (h1 := (pd_op op_add_str rs_addS (h1 := (pd_var 6)) (h2 := (pd_var 3)))) (h2 := (pd_var 7))))) pdss_nil)
      (pdss_cons (pds_if (pdt_cmp op_eq rs_eqI (nomark _) (h1 := (pd_var 5)) (h2 := pd_int)) (pdss_one (pds_ret (pd_op op_add_str rs_addS (h1 := (pd_var 6)) (h2 := (pd_slice sl_str ss_str (h1 := (pd_var 7)) (h2 := (pdo_some pd_int)) (h3 := pdo_none)))))) pdss_nil)
      (pdss_cons (pds_if (PDW.pt (pdw_and (pdt_cmp op_eq rs_eqI (nomark _) (h1 := (pd_var 5)) (h2 := pd_int)) (pdw_and1 (pdt_cmp op_ne rs_neS (nomark _) (h1 := (pd_var 7)) (h2 := (pd_str [])))))) (pdss_one (pds_ret (pd_op op_add_str rs_addS (h1 := (pd_op op_add_str rs_addS (h1 := (pd_var 6)) (h2 := (pd_var 3)))) (h2 := (pd_slice sl_str ss_str (h1 := (pd_var 7)) (h2 := (pdo_some pd_int)) (h3 := pdo_none)))))) pdss_nil)
      (pdss_one (pds_ret (pd_op op_add_str rs_addS (h1 := (pd_op op_add_str rs_addS (h1 := (pd_op op_add_str rs_addS (h1 := (pd_var 6)) (h2 := (pd_slice sl_str ss_str (h1 := (pd_var 7)) (h2 := (pdo_some pd_int)) (h3 := (pdo_some pd_int)))))) (h2 := (pd_slice sl_str ss_str (h1 := (pd_var 7)) (h2 := pdo_none) (h3 := (pdo_some pd_int)))))) (h2 := (pd_slice sl_str ss_str (h1 := (pd_var 7)) (h2 := (pdo_some pd_int)) (h3 := pdo_none)))))))))))), ?_⟩
  obtain ⟨ns, N, v, e, h1000, hv, h63, hT, hN, hQ⟩ := hF
  have e : s0 = .list (iD ns) ∧ ds = [sD v] := by simpa using e
  obtain ⟨rfl, rfl⟩ := e
  intro p
  walk_at "d"
  refine ⟨by omega, ns, N, _, rfl, h63, hT, by omega, by omega, by omega, fun r ts1 r0 r1 hT1 => ?_⟩
  obtain ⟨k, rfl⟩ : ∃ k : Nat, r = k := ⟨r.toNat, by omega⟩
  walk_at "d"
  refine ⟨ns, N + 1, _, rfl, h63, hT1, by omega, by omega, by omega, fun q ts2 q0 q1 hT2 => ?_⟩
  walk_at "d"
  refine ⟨by omega, by omega, ns, N + 2, 1, rfl, by omega, h63, hT2, by omega, fun x ts3 hx hxl hT3 => ?_⟩
  have hT3 := hT3.mono (show N + 2 + 1 + 1 ≤ N + 4 by omega)
  obtain ⟨c, rfl⟩ : ∃ c, x = [c] := by
    match x, hx with
    | [c], _ => exact ⟨c, rfl⟩
  have hc : L c := hxl c (by simp)
  have e1 : cut v none (some (k : Int)) = v.take k := cut_to v k (by omega)
  have e2 : cut v (some (k : Int)) none = v.drop k := cut_from v k (by omega)
  rw [e1, e2]
  have hk : k ≤ v.length := by omega
  have hcd : ∀ z, Cd v k z → Q (PyData.str (T z)) ts3 := fun z hz => hQ z ts3 (by
    by_cases e : z = v
    · exact .inl e
    · exact .inr (cd_slip hv hz e)) hT3
  have hself : Q (PyData.str (T v)) ts3 := hQ v ts3 (.inl rfl) hT3
  have hft : (v.take k).length = k := by rw [List.length_take]; omega
  have hbl : (v.drop k).length = v.length - k := List.length_drop
  have htk : v.take k ++ v.drop k = v := List.take_append_drop k v
  have hd1 : v.drop (k + 1) = (v.drop k).drop 1 := by rw [List.drop_drop]
  have hd2 : v.drop (k + 2) = (v.drop k).drop 2 := by rw [List.drop_drop]
  have hg0 : v[k]? = (v.drop k)[0]? := by rw [List.getElem?_drop]; rfl
  have hg1 : v[k + 1]? = (v.drop k)[1]? := by rw [List.getElem?_drop]
  have hcd' : ∀ z, ((z = v.take k ++ c :: v.drop k) ∨ (k < v.length ∧ z = v.take k ++ c :: (v.drop k).drop 1) ∨ (k < v.length ∧ z = v.take k ++ (v.drop k).drop 1) ∨
  (∃ a b, (v.drop k)[0]? = some a ∧ (v.drop k)[1]? = some b ∧ z = v.take k ++ b :: a :: (v.drop k).drop 2)) → Q (PyData.str (T z)) ts3 := fun z hz => hcd z (by
    unfold Cd
    rw [hd1, hd2, hg0, hg1]
    rcases hz with h | ⟨h0, h⟩ | h | h
    · exact .inl ⟨c, hc, h⟩
    · exact .inr (.inl ⟨h0, c, hc, h⟩)
    · exact .inr (.inr (.inl h))
    · exact .inr (.inr (.inr h)))
  generalize v.take k = fr at *
  generalize v.drop k = bk at *
  have c1 : ∀ y : List Nat, cut y (some 1) none = y.drop 1 := fun y => cut_from y 1 (by omega)
  have c2 : ∀ y : List Nat, cut y (some 2) none = y.drop 2 := fun y => cut_from y 2 (by omega)
  have c3 : ∀ y : List Nat, cut y (some 1) (some 2) = (y.drop 1).take 1 := fun y => cut_mid y 1 2 (by omega) (by omega)
  have c4 : ∀ y : List Nat, cut y none (some 1) = y.take 1 := fun y => cut_to y 1 (by omega)
  have es : onS (DV.d (sD [c])) = fun k => k [c] := by funext k; exact u_onS'
  simp only [c1, c2, c3, c4, es]
  have last : bk.length ≤ 1000000 ∧
      fr.length + (List.take 1 (List.drop 1 bk)).length ≤ 1000000 ∧
        bk.length ≤ 1000000 ∧
          (fr ++ List.take 1 (List.drop 1 bk)).length + (List.take 1 bk).length ≤ 1000000 ∧
            bk.length ≤ 1000000 ∧
              (fr ++ List.take 1 (List.drop 1 bk) ++ List.take 1 bk).length + (List.drop 2 bk).length ≤ 1000000 ∧
                Q (PyData.str (T (fr ++ List.take 1 (List.drop 1 bk) ++ List.take 1 bk ++ List.drop 2 bk))) ts3 := by
    refine ⟨by omega, by simp; omega, by omega, by simp; omega, by omega, by simp; omega, ?_⟩
    match bk, htk, hcd' with
    | [], htk, _ => simpa [htk] using hself
    | [a], htk, _ => simpa [htk] using hself
    | a :: b :: r, htk, hcd' => exact hcd' _ (.inr (.inr (.inr ⟨a, b, rfl, rfl, by simp⟩)))
  have last0 : bk = [] → Q (PyData.str (T fr)) ts3 := fun e => by
    subst e
    rw [List.append_nil] at htk
    rw [htk]; exact hself
  refine ite2 (fun _ => ?_) fun _ => ite2 (fun _ => ?_) fun _ => ite2 (fun _ => ite2 (fun hb => ?_) fun _ => ?_) fun _ => ?_
  · refine ⟨by simp; omega, by simp; omega, hcd' _ (.inl (by simp))⟩
  · refine ⟨by omega, by simp; omega, ?_⟩
    by_cases hb : bk = []
    · have := last0 hb
      subst hb
      simpa using this
    · exact hcd' _ (.inr (.inr (.inl ⟨by cases bk with
        | nil => exact absurd rfl hb
        | cons a l => simp at hbl; omega, rfl⟩)))
  · refine ⟨by simp; omega, by omega, by simp; omega, hcd' _ (.inr (.inl ⟨by cases bk with
        | nil => simp at hb
        | cons a l => simp at hbl; omega, by simp⟩))⟩
  · exact last
  · exact last
abbrev s__law_list : Stmt := topS 30
abbrev N__law_list : List Str := ["script", "town", "many", "most", "found", "k", "word"]
theorem sc__law_list : FnScope N__law_list ["script", "town", "many", "most"] (defScope s__law_list) := ⟨rfl, rfl, rfl, by decide +kernel, rfl, by decide +kernel, by decide +kernel⟩
theorem ok__law_list {f : Addr} {fd : FuncData} (G : Fun K "_law_list" "_law_list" s__law_list f fd) (m_range : mg "range" = none) (m_len : mg "len" = none) (m_tuple : mg "tuple" = none) (m_sorted : mg "sorted" = none) (c__law_letters : Cl P w K mg base 3 "_law_letters" ["script", "town", "many"] (spT K 2 F__law_letters)) (c__law_draw : Cl P w K mg base 1 "_law_draw" ["script", "town", "limit"] (spT K 2 F__law_draw)) (c__law_slip : Cl P w K mg base 4 "_law_slip" ["script", "town", "text"] (spT K 2 F__law_slip)) (c__law_pick : Cl P w K mg base 2 "_law_pick" ["script", "town", "choices"] (spT K 2 F__law_pick)) : FnOk P w K mg base CX0 5 f fd ["script", "town", "many", "most"] (spT K 3 F__law_list) := by
  refine fnT (n := 2) (m := 3) G sc__law_list rfl rfl fun ts s0 ds Q hl hF => ⟨_, fun cdv A outer s H E hr =>
      (pdss_cons (pds_setN (i := 4) sc__law_list.nd (h1 := (pdn_lst (pda_cons (h1 := (pd_clT c__law_letters mono__law_letters hr (by decide) (by rfl) (h := (pda_cons (h1 := (pd_var 0)) (h2 := (pda_cons (h1 := (pd_var 1)) (h2 := (pda_cons (h1 := (pd_op op_add (rs_I0 fun _ _ _ => .int _) (h1 := pd_int) (h2 := (pd_clT c__law_draw mono__law_draw hr (by decide) (by rfl) (h := (pda_cons (h1 := (pd_var 0)) (h2 := (pda_cons (h1 := (pd_var 1)) (h2 := (pda_cons (h1 := (pd_var 3)) (h2 := pda_nil))))))))))) (h2 := pda_nil))))))))) (h2 := pda_nil)))))
      (pdss_cons (pds_for PassesOwn.never rfl (h1 := (pdi_range1 (by rfl) m_range (h1 := (pda_cons (h1 := (pd_clT c__law_draw mono__law_draw hr (by decide) (by rfl) (h := (pda_cons (h1 := (pd_var 0)) (h2 := (pda_cons (h1 := (pd_var 1)) (h2 := (pda_cons (h1 := (pd_var 2)) (h2 := pda_nil))))))))) (h2 := pda_nil))))) (h2 := (pdg_name (i := 5) sc__law_list.nd)) (h3 := (pdss_cons (pds_set (i := 6) sc__law_list.nd (h1 := (pd_clT c__law_letters mono__law_letters hr (by decide) (by rfl) (h := (pda_cons (h1 := (pd_var 0)) (h2 := (pda_cons (h1 := (pd_var 1)) (h2 := (pda_cons (h1 := (pd_op op_add (rs_I0 fun _ _ _ => .int _) (h1 := pd_int) (h2 := (pd_clT c__law_draw mono__law_draw hr (by decide) (by rfl) (h := (pda_cons (h1 := (pd_var 0)) (h2 := (pda_cons (h1 := (pd_var 1)) (h2 := (pda_cons (h1 := (pd_var 3)) (h2 := pda_nil))))))))))) (h2 := pda_nil))))))))))
        (pdss_cons (pds_if (pdt_cmp op_eq rs_eqI (nomark _) (h1 := (pd_clT c__law_draw mono__law_draw hr (by decide) (by rfl) (h := (pda_cons (h1 := (pd_var 0)) (h2 := (pda_cons (h1 := (pd_var 1)) (h2 := (pda_cons (h1 := pd_int) (h2 := pda_nil))))))))) (h2 := pd_int)) (pdss_one (pds_set (i := 6) sc__law_list.nd (h1 := (pd_clT c__law_slip mono__law_slip hr (by decide) (by rfl) (h := (pda_cons (h1 := (pd_var 0)) (h2 := (pda_cons (h1 := (pd_var 1)) (h2 := (pda_cons (h1 := (pd_clT c__law_slip mono__law_slip hr (by decide) (by rfl) (h := (pda_cons (h1 := (pd_var 0)) (h2 := (pda_cons (h1 := (pd_var 1)) (h2 := (pda_cons (h1 := (pd_clTO c__law_pick mono__law_pick hr (by decide) (by rfl) (h := (pda_cons (h1 := (pd_var 0)) (h2 := (pda_cons (h1 := (pd_var 1)) (h2 := (pda_cons (h1 := (pd_var 4)) (h2 := pda_nil))))))))) (h2 := pda_nil))))))))) (h2 := pda_nil))))))))))) pdss_nil)
        (pdss_one (pds_if (PDW.pt (pdw_and (pdt_chain (ho := op_le) (hs := (rs_I0 fun _ _ _ => .bl _)) (ho' := op_le) (hs' := (rs_I0 fun _ _ _ => .bl _)) (h1 := pd_int) (h2 := (pd_callB call_len_str cs_lenS (by rfl) m_len boot_len (h1 := (pda_cons (h1 := (pd_var 6)) (h2 := pda_nil))))) (h3 := (pd_var 3))) (pdw_and1 (pdt_cmp op_notIn_seq (rs_inS true) (by rfl) (h1 := (pd_var 6)) (h2 := (pd_var 4)))))) (pdss_one (pds_expr (h1 := (pd_append (h1 := (pd_var 4)) (h2 := (pd_var 6)))))) pdss_nil))))))
      (pdss_one (pds_ret (pd_callTy call_tuple_ofF cs_tupOf (by rfl) m_tuple (by decide +kernel) (h1 := (pda_cons (h1 := (pd_callB (cr_sortD (room100 hr)) cs_sort (by rfl) m_sorted (by decide +kernel) (h1 := (pda_cons (h1 := (pd_varF 4)) (h2 := pda_nil))))) (h2 := pda_nil)))))))), ?_⟩
  obtain ⟨ns, N, many, most, e, hm1, hm2, hk1, hk2, h63, hT, hN, hQ⟩ := hF
  have e : s0 = .list (iD ns) ∧ ds = [.int ((many : Nat) : Int), .int ((most : Nat) : Int)] := by simpa using e
  obtain ⟨rfl, rfl⟩ := e
  intro p
  walk_at "d"
  refine ⟨ns, N, _, rfl, h63, hT, by omega, by omega, by omega, fun j ts1 j0 j1 hT1 => ?_⟩
  obtain ⟨jj, rfl⟩ : ∃ k : Nat, j = k := ⟨j.toNat, by omega⟩
  walk_at "d"
  refine ⟨ns, _, 1 + jj, by simp, by omega, h63, hT1, by omega, fun x ts2 hx hxl hT2 p1 => ?_⟩
  refine ⟨ns, _, _, rfl, h63, hT2, by omega, by omega, by omega, fun n ts3 n0 n1 hT3 => ?_⟩
  walk_at "d"
  refine ⟨by omega, by omega, ?_⟩
  obtain ⟨nn, rfl⟩ : ∃ k : Nat, n = k := ⟨n.toNat, by omega⟩
  have en : ((nn : Nat) : Int).toNat = nn := by omega
  rw [en]
  obtain ⟨W, eW⟩ : ∃ W : Nat → DCtx → Prop, W = fun i Γ => ∃ (fs : List Wd) (ts : List D) (s5 s6 : Option DCell), fs ≠ [] ∧ fs.length ≤ i + 1 ∧ (∀ w ∈ fs, 1 ≤ w.length ∧ w.length ≤ most ∧ LetAll w) ∧ fs.Nodup ∧ Town ns (N + 200 + 200 * i) ts ∧ i ≤ nn ∧
    Γ = [some (DCell.val (PyData.list (iD ns))), some (DCell.own p (DOb.lst ts)), some (DCell.val (PyData.int (many : Int))), some (DCell.val (PyData.int (most : Int))), some (DCell.own p1 (DOb.lst (fs.map sD))), s5, s6] := ⟨_, rfl⟩
  refine for_use (List.range nn) (fun i => .int ((i : Nat) : Int)) W ?_ ?_ ?_
  · rw [eW]
    exact ⟨[x], ts3, _, _, by simp, by simp, fun w hw => by rw [List.mem_singleton.mp hw]; exact ⟨by omega, by omega, hxl⟩, by simp, hT3.mono (by omega), by omega, rfl⟩
  · intro i k Γ2 hik hW
    rw [eW] at hW
    obtain ⟨fs, ts4, s5, s6, hne, hlen, hall, hnd, hT4, _, rfl⟩ := hW
    have hi : i < nn := by simpa using (List.getElem?_eq_some_iff.mp hik).1
    walk_at "d"
    refine ⟨ns, _, _, rfl, h63, hT4, by omega, by omega, by omega, fun j ts5 j0 j1 hT5 => ?_⟩
    obtain ⟨jj, rfl⟩ : ∃ k : Nat, j = k := ⟨j.toNat, by omega⟩
    walk_at "d"
    refine ⟨ns, _, 1 + jj, by simp, by omega, h63, hT5, by omega, fun x ts6 hx hxl hT6 => ?_⟩
    refine ⟨ns, _, 2, rfl, h63, hT6, by omega, by omega, by omega, fun r ts7 _ _ hT7 => ?_⟩
    walk_at "d"
    refine ite2 (fun _ => ?_) fun _ => ?_
    · refine ⟨by decide, ns, _, _, fs.map sD, rfl, .inl rfl, h63, hT7, by omega, by simpa using hne, by simp; omega, fun d ts8 hd hT8 => ⟨?_, town_plain hT8, ?_⟩⟩
      · obtain ⟨v, _, rfl⟩ := List.mem_map.mp hd
        rfl
      · obtain ⟨v, hv, rfl⟩ := List.mem_map.mp hd
        obtain ⟨v1, v2, v3⟩ := hall v hv
        refine ⟨ns, _, v, rfl, by omega, v3, h63, hT8, by omega, fun y ts9 hy hT9 => ?_⟩
        have hyw : y.length ≤ 101 ∧ LetAll y := by
          rcases hy with rfl | hy
          · exact ⟨by omega, v3⟩
          · exact ⟨by have := hy.len; omega, hy.letters v3⟩
        refine ⟨ns, _, y, rfl, by omega, hyw.2, h63, hT9, by omega, fun w tsz hw hTz => ?_⟩
        have hwa : LetAll w := by
          rcases hw with rfl | hw
          · exact hyw.2
          · exact hw.letters hyw.2
        have hwl : w.length ≤ 102 := by
          rcases hw with rfl | hw
          · omega
          · have := hw.len; omega
        walk_at "d"
        have keep : ∀ s6 : Option DCell, W (i + 1) [some (DCell.val (PyData.list (iD ns))), some (DCell.own p (DOb.lst tsz)), some (DCell.val (PyData.int (many : Int))), some (DCell.val (PyData.int (most : Int))), some (DCell.own p1 (DOb.lst (fs.map sD))), some (DCell.val (PyData.int (k : Int))), s6] := fun s6 => by
          rw [eW]
          exact ⟨fs, tsz, _, _, hne, by omega, hall, hnd, hTz.mono (by omega), by omega, rfl⟩
        refine ⟨by omega, ite2 (fun c1 => ite2 (fun c2 => ite2 (fun c3 => ⟨⟨_, rfl⟩, by simp; omega, ?_⟩) fun _ => keep _) fun _ => keep _) fun _ => keep _⟩
        have c1 := of_decide_eq_true c1
        have c2 := of_decide_eq_true c2
        have c3 : w ∉ fs := by simpa using c3
        rw [eW]
        refine ⟨fs ++ [w], tsz, _, _, by simp, by simp; omega, fun v hv => ?_, ?_, hTz.mono (by omega), by omega, by rw [List.map_append]; rfl⟩
        · rcases List.mem_append.mp hv with h | h
          · exact hall v h
          · rw [List.mem_singleton.mp h]; exact ⟨by omega, by omega, hwa⟩
        · rw [List.nodup_append]
          exact ⟨hnd, by simp, fun u hu v hv => by rw [List.mem_singleton.mp hv]; exact fun z => c3 (by rw [← z]; exact hu)⟩
    · have hTz := hT7
      have hwa := hxl
      have hwl : x.length ≤ 102 := by omega
      generalize ts7 = tsz at *
      generalize x = w at *
      have keep : ∀ s6 : Option DCell, W (i + 1) [some (DCell.val (PyData.list (iD ns))), some (DCell.own p (DOb.lst tsz)), some (DCell.val (PyData.int (many : Int))), some (DCell.val (PyData.int (most : Int))), some (DCell.own p1 (DOb.lst (fs.map sD))), some (DCell.val (PyData.int (k : Int))), s6] := fun s6 => by
        rw [eW]
        exact ⟨fs, tsz, _, _, hne, by omega, hall, hnd, hTz.mono (by omega), by omega, rfl⟩
      refine ⟨by omega, ite2 (fun c1 => ite2 (fun c2 => ite2 (fun c3 => ⟨⟨_, rfl⟩, by simp; omega, ?_⟩) fun _ => keep _) fun _ => keep _) fun _ => keep _⟩
      have c1 := of_decide_eq_true c1
      have c2 := of_decide_eq_true c2
      have c3 : w ∉ fs := by simpa using c3
      rw [eW]
      refine ⟨fs ++ [w], tsz, _, _, by simp, by simp; omega, fun v hv => ?_, ?_, hTz.mono (by omega), by omega, by rw [List.map_append]; rfl⟩
      · rcases List.mem_append.mp hv with h | h
        · exact hall v h
        · rw [List.mem_singleton.mp h]; exact ⟨by omega, by omega, hwa⟩
      · rw [List.nodup_append]
        exact ⟨hnd, by simp, fun u hu v hv => by rw [List.mem_singleton.mp hv]; exact fun z => c3 (by rw [← z]; exact hu)⟩
  · intro Γ2 hW
    rw [eW] at hW
    obtain ⟨fs, ts4, s5, s6, hne, hlen, hall, hnd, hT4, _, rfl⟩ := hW
    walk_at "d"
    refine ⟨alike_texts fs, sortable_texts fs, depth_texts fs, ?_⟩
    rw [sort_texts]
    rw [List.length_range] at hlen hT4
    refine hQ (srt fs) ts4 (fun e => ?_) ?_ (fun w hw => hall w (srt_mem.mp hw)) ?_ (hT4.mono (by omega))
    · have : fs.length = 0 := by
        have := (List.mergeSort_perm fs fun a b : Wd => decide (a ≤ b)).length_eq
        have e2 : (srt fs).length = 0 := by rw [e]; rfl
        unfold srt at e2
        omega
      exact hne (List.eq_nil_of_length_eq_zero this)
    · have := (List.mergeSort_perm fs fun a b : Wd => decide (a ≤ b)).length_eq
      show (List.mergeSort fs fun a b : Wd => decide (a ≤ b)).length ≤ many
      omega
    · exact srt_asc hnd
abbrev s__law_name : Stmt := topS 26
abbrev N__law_name : List Str := ["caught", "found"]
theorem sc__law_name : FnScope N__law_name ["caught"] (defScope s__law_name) := ⟨rfl, rfl, rfl, by decide +kernel, rfl, by decide +kernel, by decide +kernel⟩
theorem ok__law_name {f : Addr} {fd : FuncData} (G : Fun K "_law_name" "_law_name" s__law_name f fd) (m_isinstance : mg "isinstance" = none) (m_ValueError : mg "ValueError" = none) {cs : Cs} (kc : CsOk K mg cs) : FnOk P w K mg base CX0 1 f fd ["caught"] (spE K (F__law_name cs)) := by
  refine fnE (m := 1) G sc__law_name rfl fun C Q hF => ⟨_, fun cdv A outer s H E hr =>
      (pdss_cons (pds_if (pdt_not (pdt_val (h1 := (pd_isXT K rfl (ty := "ValueError") (by rfl) m_isinstance (by rfl) m_ValueError (by decide +kernel) (h1 := (pd_var 0)))))) (pdss_one (pds_ret (pd_neg pd_int))) pdss_nil)
      (pdss_cons (pds_set (i := 1) sc__law_name.nd (h1 := (pd_lst (pda_cons (h1 := (pd_isX K rfl (by rfl) m_isinstance (by rfl) kc.word (h1 := (pd_var 0)))) (h2 := (pda_cons (h1 := (pd_isX K rfl (by rfl) m_isinstance (by rfl) kc.list (h1 := (pd_var 0)))) (h2 := pda_nil)))))))
      (pdss_cons (pds_set (i := 1) sc__law_name.nd (h1 := (pd_op op_catQ rs_catL (h1 := (pd_var 1)) (h2 := (pd_lst (pda_cons (h1 := (pd_isX K rfl (by rfl) m_isinstance (by rfl) kc.number (h1 := (pd_var 0)))) (h2 := (pda_cons (h1 := (pd_isX K rfl (by rfl) m_isinstance (by rfl) kc.text (h1 := (pd_var 0)))) (h2 := pda_nil)))))))))
      (pdss_cons (pds_set (i := 1) sc__law_name.nd (h1 := (pd_op op_catQ rs_catL (h1 := (pd_var 1)) (h2 := (pd_lst (pda_cons (h1 := (pd_isX K rfl (by rfl) m_isinstance (by rfl) kc.one (h1 := (pd_var 0)))) (h2 := (pda_cons (h1 := (pd_isX K rfl (by rfl) m_isinstance (by rfl) kc.already (h1 := (pd_var 0)))) (h2 := pda_nil)))))))))
      (pdss_cons (pds_set (i := 1) sc__law_name.nd (h1 := (pd_op op_catQ rs_catL (h1 := (pd_var 1)) (h2 := (pd_lst (pda_cons (h1 := (pd_isX K rfl (by rfl) m_isinstance (by rfl) kc.there (h1 := (pd_var 0)))) (h2 := (pda_cons (h1 := (pd_isX K rfl (by rfl) m_isinstance (by rfl) kc.many (h1 := (pd_var 0)))) (h2 := pda_nil)))))))))
      (pdss_cons (pds_set (i := 1) sc__law_name.nd (h1 := (pd_op op_catQ rs_catL (h1 := (pd_var 1)) (h2 := (pd_lst (pda_cons (h1 := (pd_isX K rfl (by rfl) m_isinstance (by rfl) kc.doubtful (h1 := (pd_var 0)))) (h2 := (pda_cons (h1 := (pd_isX K rfl (by rfl) m_isinstance (by rfl) kc.undo (h1 := (pd_var 0)))) (h2 := pda_nil)))))))))
      (pdss_one (pds_ret (pd_ifExp (pdt_cmp op_eq rs_eqI (nomark _) (h1 := (pd_lcountB (h1 := (pd_var 1)) (h2 := pd_bl))) (h2 := pd_int)) (pd_lindexB (h1 := (pd_var 1)) (h2 := pd_bl)) (pd_neg pd_int)))))))))), ?_⟩
  obtain ⟨hC, hQ⟩ := hF
  intro a
  walk_at "d"
  refine ⟨C, rfl, kc.exc hC, true, kc.val hC, ?_⟩
  rw [if_neg (by decide)]
  refine ⟨C, rfl, kc.exc hC, _, kc.kit hC (by simp [Cs.ten]), C, rfl, kc.exc hC, _, kc.kit hC (by simp [Cs.ten]), C, rfl, kc.exc hC, _, kc.kit hC (by simp [Cs.ten]), C, rfl, kc.exc hC, _, kc.kit hC (by simp [Cs.ten]), C, rfl, kc.exc hC, _, kc.kit hC (by simp [Cs.ten]), C, rfl, kc.exc hC, _, kc.kit hC (by simp [Cs.ten]), C, rfl, kc.exc hC, _, kc.kit hC (by simp [Cs.ten]), C, rfl, kc.exc hC, _, kc.kit hC (by simp [Cs.ten]), C, rfl, kc.exc hC, _, kc.kit hC (by simp [Cs.ten]), C, rfl, kc.exc hC, _, kc.kit hC (by simp [Cs.ten]), ?_⟩
  obtain ⟨h1, h2⟩ := ten_idx hC
  refine ⟨cs.ten.map fun E => decide (C = E), rfl, ?_⟩
  rw [ten_count kc.nd hC, if_pos (by decide)]
  exact ⟨cs.ten.map fun E => decide (C = E), rfl, cs.ten.idxOf C, h1, h2, hQ⟩
abbrev s_are_letters : Stmt := topS 14
abbrev N_are_letters : List Str := ["value", "low", "high", "letter"]
theorem sc_are_letters : FnScope N_are_letters ["value", "low", "high"] (defScope s_are_letters) := ⟨rfl, rfl, rfl, by decide +kernel, rfl, by decide +kernel, by decide +kernel⟩
theorem ok_are_letters {f : Addr} {fd : FuncData} (G : Fun K "are_letters" "are_letters" s_are_letters f fd) (m_all : mg "all" = none) (m_len : mg "len" = none) (m_isinstance : mg "isinstance" = none) (m_str : mg "str" = none) {t_LETTERS : Tok} (g_LETTERS : mg "LETTERS" = some (.str (T [97, 98, 99, 100]) t_LETTERS)) : FnOk P w K mg base CX0 1 f fd ["value", "low", "high"] (spD K 3 F_are_letters) := by
  refine fnD (n := 3) (m := 1) G sc_are_letters rfl rfl fun ds Q hl hF => ⟨_, fun cdv A outer s H E hr =>
      (pdss_one (pds_ret (pd_and (pd_isi kit_str (by rfl) m_isinstance (by rfl) m_str (by decide +kernel) (h1 := (pd_var 0))) (pd_and (pd_chain (ho := op_le) (hs := (rs_I0 fun _ _ _ => .bl _)) (ho' := op_le) (hs' := (rs_I0 fun _ _ _ => .bl _)) (h1 := (pd_var 1)) (h2 := (pd_callB call_len_str cs_lenS (by rfl) m_len boot_len (h1 := (pda_cons (h1 := (pd_var 0)) (h2 := pda_nil))))) (h3 := (pd_var 2))) (pd_one (pd_callB (cr_all rfl) cs_all (by rfl) m_all (by decide +kernel) (h1 := (pda_cons (h1 := (pd_frz (pdn_lc (own := [("letter", 3)]) (vs := [3]) rfl sc_are_letters.nd rfl (pdi_str (pd_var 0)) (blkOk_by (N := N_are_letters) (sc := defScope s_are_letters) (by decide +kernel)) (fun _ _ _ _ _ => pdgv_name (i := 3) sc_are_letters.nd) (fun _ _ _ _ _ => pdts_nil) (fun _ _ _ _ _ => (pd_cmp op_in_sign rs_inC (by rfl) (h1 := (pd_var 3)) (h2 := (pd_globS [97, 98, 99, 100] (by rfl) g_LETTERS))))))) (h2 := pda_nil))))))))), ?_⟩
  obtain ⟨v, lo, hi, rfl, hz, hQ⟩ := hF
  cases v with
  | str z =>
    have hz := hz z rfl
    rw [← T_surj z] at hQ ⊢
    generalize z.cps.toList = w at hQ hz ⊢
    walk_at "d"
    rw [areL_T] at hQ
    refine ⟨by omega, ite2 (fun h1 => ite2 (fun h2 => ?_) fun h2 => ?_) fun h1 => ?_⟩
    · refine lc_useA w (fun c => sD [c]) (fun c => .bool (isLet c)) ?_ (by omega) (fun c hc acc P hy => ?_) ?_
      · simp
      · walk_at "d"
        exact hy
      · refine ⟨_, rfl, w.map isLet, by simp, ?_⟩
        rw [h1, h2] at hQ
        rw [List.all_map]
        exact hQ
    · simp only [h2, Bool.and_false] at hQ
      simpa [h2] using hQ
    · simpa [h1] using hQ
  | _ =>
    walk_at "d"
    exact hQ
abbrev s_is_list : Stmt := topS 16
abbrev N_is_list : List Str := ["value", "k", "word"]
theorem sc_is_list : FnScope N_is_list ["value"] (defScope s_is_list) := ⟨rfl, rfl, rfl, by decide +kernel, rfl, by decide +kernel, by decide +kernel⟩
theorem ok_is_list {f : Addr} {fd : FuncData} (G : Fun K "is_list" "is_list" s_is_list f fd) (m_all : mg "all" = none) (m_len : mg "len" = none) (m_isinstance : mg "isinstance" = none) (m_tuple : mg "tuple" = none) (m_range : mg "range" = none) (c_are_letters : Cl P w K mg base 1 "are_letters" ["value", "low", "high"] (spD K 3 F_are_letters)) : FnOk P w K mg base CX0 2 f fd ["value"] (spD K 1 F_is_listA) := by
  refine fnD (n := 1) (m := 2) G sc_is_list rfl rfl fun ds Q hl hF => ⟨_, fun cdv A outer s H E hr =>
      (pdss_cons (pds_if (PDW.pt (pdw_or (pdt_not (pdt_val (h1 := (pd_isi kit_tup (by rfl) m_isinstance (by rfl) m_tuple (by decide +kernel) (h1 := (pd_var 0)))))) (pdw_or (pdt_not (pdt_chain (ho := op_le) (hs := (rs_I0 fun _ _ _ => .bl _)) (ho' := op_le) (hs' := (rs_I0 fun _ _ _ => .bl _)) (h1 := pd_int) (h2 := (pd_callB call_len_seq cs_len (by rfl) m_len boot_len (h1 := (pda_cons (h1 := (pd_var 0)) (h2 := pda_nil))))) (h3 := pd_int))) (pdw_or1 (pdt_not (pdt_val (h1 := (pd_callB (cr_all rfl) cs_all (by rfl) m_all (by decide +kernel) (h1 := (pda_cons (h1 := (pd_frz (pdn_lc (own := [("word", 2)]) (vs := [2]) rfl sc_is_list.nd rfl (pdi_tup (pd_var 0)) (blkOk_by (N := N_is_list) (sc := defScope s_is_list) (by decide +kernel)) (fun _ _ _ _ _ => pdgv_name (i := 2) sc_is_list.nd) (fun _ _ _ _ _ => pdts_nil) (fun _ _ _ _ _ => (pd_cl c_are_letters mono_are_letters hr (by decide) (by rfl) (h := (pda_cons (h1 := (pd_var 2)) (h2 := (pda_cons (h1 := pd_int) (h2 := (pda_cons (h1 := pd_int) (h2 := pda_nil)))))))))))) (h2 := pda_nil))))))))))) (pdss_one (pds_ret pd_bl)) pdss_nil)
      (pdss_one (pds_ret (pd_callB (cr_all rfl) cs_all (by rfl) m_all (by decide +kernel) (h1 := (pda_cons (h1 := (pd_frz (pdn_lc (own := [("k", 1)]) (vs := [1]) rfl sc_is_list.nd rfl (pdi_range1 (by rfl) m_range (h1 := (pda_cons (h1 := (pd_op op_sub (rs_I0 fun _ _ _ => .int _) (h1 := (pd_callB call_len_seq cs_len (by rfl) m_len boot_len (h1 := (pda_cons (h1 := (pd_var 0)) (h2 := pda_nil))))) (h2 := pd_int))) (h2 := pda_nil)))) (blkOk_by (N := N_is_list) (sc := defScope s_is_list) (by decide +kernel)) (fun _ _ _ _ _ => pdgv_name (i := 1) sc_is_list.nd) (fun _ _ _ _ _ => pdts_nil) (fun _ _ _ _ _ => (pd_cmp op_lt_str rs_ltS (nomark _) (h1 := (pd_ix ix_seq rs_ix (fun _ _ => rfl) (h1 := (pd_var 0)) (h2 := (pd_var 1)))) (h2 := (pd_ix ix_seq rs_ix (fun _ _ => rfl) (h1 := (pd_var 0)) (h2 := (pd_op op_add (rs_I0 fun _ _ _ => .int _) (h1 := (pd_var 1)) (h2 := pd_int)))))))))) (h2 := pda_nil))))))), ?_⟩
  obtain ⟨v, rfl, hv, hQ⟩ := hF
  walk_at "d"
  cases v with
  | tuple ds =>
    obtain ⟨hlen, hst⟩ := hv ds rfl
    walk_at "d"
    have hB : ∀ b : Bool, isLB (.tuple ds) = b → Q (.bool b) := fun b e => e ▸ hQ
    refine ite2 (fun h1 => ite2 (fun h8 => ?_) fun h8 => ?_) fun h1 => ?_
    · refine hB false ?_
      have : decide (ds.length ≤ 8) = false := by
        have h : ¬ (ds.length : Int) ≤ 8 := by simpa using h8
        exact decide_eq_false (by omega)
      simp only [isLB, this, Bool.false_and, Bool.and_false]
    · have l1 : 1 ≤ ds.length := by have := of_decide_eq_true h1; omega
      have l8 : ds.length ≤ 8 := by
        have h : (ds.length : Int) ≤ 8 := by simpa using h8
        omega
      refine lc_useD (fun _ => true) (fun d => .bool (areL d 1 6)) (by simp) (by omega) (fun d hd acc P hy hn => ?_) ?_
      · walk_at "d"
        exact ⟨d, 1, 6, rfl, fun z hz => hst z (hz ▸ hd), hy rfl⟩
      rw [filter_tt]
      walk_at "d"
      refine ⟨ds.map fun d => areL d 1 6, by rw [List.map_map]; rfl, ?_⟩
      have ea : ((ds.map fun d => areL d 1 6).all id) = ds.all fun d => areL d 1 6 := by rw [List.all_map]; rfl
      rw [ea]
      refine ite2 (fun ha => ?_) fun ha => ?_
      · refine hB false ?_
        have : (ds.all fun d => areL d 1 6) = false := by simpa using ha
        simp only [isLB, this, Bool.false_and, Bool.and_false]
      · have ha : (ds.all fun d => areL d 1 6) = true := by simpa using ha
        obtain ⟨ws, rfl⟩ := strs_ex (show (ds.map isStrD).all id = true by
          rw [List.all_map, List.all_eq_true]
          exact fun d hd => areL_str (List.all_eq_true.mp ha d hd))
        rw [List.length_map] at l1 l8 ⊢
        refine ⟨by omega, by omega, ?_⟩
        have en : ((ws.length : Int) - 1).toNat = ws.length - 1 := by omega
        rw [en]
        refine lc_useA (List.range (ws.length - 1)) (fun i => .int ((i : Nat) : Int)) (fun k => .bool (decide (txD ((ws.map sD).getD k .none) < txD ((ws.map sD).getD (k + 1) .none)))) (by simp) (by simp; omega) (fun k hk acc P hy => ?_) ?_
        · have hk : k < ws.length - 1 := List.mem_range.mp hk
          have g1 : atI (ws.map sD) ((k : Nat) : Int) = some (sD (ws[k]'(by omega))) := atI_nat (by rw [List.getElem?_map, List.getElem?_eq_getElem (by omega)]; rfl)
          have g2 : atI (ws.map sD) (((k : Nat) : Int) + 1) = some (sD (ws[k + 1]'(by omega))) := by
            rw [show ((k : Nat) : Int) + 1 = ((k + 1 : Nat) : Int) by omega]
            exact atI_nat (by rw [List.getElem?_map, List.getElem?_eq_getElem (by omega)]; rfl)
          have x1 : txD ((ws.map sD).getD k .none) = ws[k]'(by omega) := by rw [List.getD_eq_getElem?_getD, List.getElem?_map, List.getElem?_eq_getElem (by omega)]; rfl
          have x2 : txD ((ws.map sD).getD (k + 1) .none) = ws[k + 1]'(by omega) := by rw [List.getD_eq_getElem?_getD, List.getElem?_map, List.getElem?_eq_getElem (by omega)]; rfl
          rw [x1, x2] at hy
          walk_at "d"
          refine ⟨_, g1, _, g2, ?_⟩
          walk_at "d"
          exact hy
        walk_at "d"
        refine ⟨(List.range (ws.length - 1)).map fun k => decide (txD ((ws.map sD).getD k .none) < txD ((ws.map sD).getD (k + 1) .none)), by rw [List.map_map]; rfl, ?_⟩
        refine hB _ ?_
        rw [List.all_map]
        simp only [isLB, ha, List.length_map, decide_eq_true l1, decide_eq_true l8, Bool.true_and]
        rfl
    · refine hB false ?_
      have : decide (1 ≤ ds.length) = false := decide_eq_false fun z => h1 (decide_eq_true (by omega))
      simp only [isLB, this, Bool.false_and]
  | _ => exact hQ
abbrev s_parse_list : Stmt := topS 20
abbrev N_parse_list : List Str := ["text"]
theorem sc_parse_list : FnScope N_parse_list ["text"] (defScope s_parse_list) := ⟨rfl, rfl, rfl, by decide +kernel, rfl, by decide +kernel, by decide +kernel⟩
theorem ok_parse_list {f : Addr} {fd : FuncData} (G : Fun K "parse_list" "parse_list" s_parse_list f fd) (m_tuple : mg "tuple" = none) (m_isinstance : mg "isinstance" = none) (m_str : mg "str" = none) {cs : Cs} (kc : CsOk K mg cs) (c_is_list : Cl P w K mg base 2 "is_list" ["value"] (spD K 1 F_is_listA)) : FnOk P w K mg base (L2.CX P w) 3 f fd ["text"] (spX K 1 (FX_parse_list cs)) := by
  refine fnX (n := 1) (m := 0) G sc_parse_list rfl rfl fun ds Q Z hl hF => ⟨_, fun cdv A outer s H E W hr tk =>
      (pdxs_cons (pdx_if (PDW.pt (pdw_or (pdt_not (pdt_val (h1 := (pd_isi kit_str (by rfl) m_isinstance (by rfl) m_str (by decide +kernel) (h1 := (pd_var 0)))))) (pdw_or1 (pdt_not (pdt_val (h1 := (pd_cl c_is_list mono_is_listA hr (by decide) (by rfl) (h := (pda_cons (h1 := (pd_callTy call_tuple_ofF cs_tupOf (by rfl) m_tuple (by decide +kernel) (h1 := (pda_cons (h1 := (pd_split (by decide) (by decide +kernel) (h1 := (pd_var 0)))) (h2 := pda_nil))))) (h2 := pda_nil)))))))))) (pdxs_cons (pdx_raiseC rfl tk (kc.cls (by simp [Cs.ten]) kc.text) (by rfl)) pdxs_nil) pdxs_nil) (pdxs_cons (pdx_ret (pde_of (pd_callTy call_tuple_ofF cs_tupOf (by rfl) m_tuple (by decide +kernel) (h1 := (pda_cons (h1 := (pd_split (by decide) (by decide +kernel) (h1 := (pd_var 0)))) (h2 := pda_nil)))))) pdxs_nil)), ?_⟩
  obtain ⟨v, rfl, hv, hq, hz⟩ := hF
  walk_at "d"
  cases v with
  | str z =>
    obtain ⟨t, rfl⟩ := Tw_surj z
    have ht : t.length ≤ 500 := hv _ rfl
    walk_at "d"
    refine ⟨by omega, _, rfl, okV_split ht, ?_⟩
    walk_at "d"
    show (if (!isLB (.tuple ((spW sepW t).map sD))) = true then Z cs.text else t.length ≤ 100000 ∧ Q (.tuple ((spW sepW t).map sD)))
    cases h : isLB (.tuple ((spW sepW t).map sD)) with
    | true =>
      obtain ⟨ws, e, hw⟩ := isLB_iff.mp h
      have e := map_sD_inj (PyData.tuple.inj e)
      rw [← e] at hw
      exact ⟨by omega, hq t rfl hw⟩
    | false =>
      refine hz fun t' e hw => ?_
      cases Tw_inj (PyData.str.inj e)
      rw [isLB_iff.mpr ⟨_, rfl, hw⟩] at h
      cases h
  | _ => exact hz fun t e => nomatch e
abbrev s_check_list : Stmt := topS 17
abbrev N_check_list : List Str := ["value"]
theorem sc_check_list : FnScope N_check_list ["value"] (defScope s_check_list) := ⟨rfl, rfl, rfl, by decide +kernel, rfl, by decide +kernel, by decide +kernel⟩
theorem ok_check_list {f : Addr} {fd : FuncData} (G : Fun K "check_list" "check_list" s_check_list f fd) {cs : Cs} (kc : CsOk K mg cs) (c_is_list : Cl P w K mg base 2 "is_list" ["value"] (spD K 1 F_is_listA)) : FnOk P w K mg base (L2.CX P w) 3 f fd ["value"] (spX K 1 (FX_check_list cs)) := by
  refine fnX (n := 1) (m := 0) G sc_check_list rfl rfl fun ds Q Z hl hF => ⟨_, fun cdv A outer s H E W hr tk =>
      (pdxs_cons (pdx_if (pdt_not (pdt_val (h1 := (pd_cl c_is_list mono_is_listA hr (by decide) (by rfl) (h := (pda_cons (h1 := (pd_var 0)) (h2 := pda_nil))))))) (pdxs_cons (pdx_raiseC rfl tk (kc.cls (by simp [Cs.ten]) kc.list) (by rfl)) pdxs_nil) pdxs_nil) pdxs_nil), ?_⟩
  obtain ⟨v, rfl, hv, hq, hz⟩ := hF
  walk_at "d"
  refine ⟨v, rfl, hv, ?_⟩
  walk_at "d"
  cases h : isLB v with
  | true => exact hq h
  | false => exact hz h
abbrev s_format_list : Stmt := topS 19
abbrev N_format_list : List Str := ["words"]
theorem sc_format_list : FnScope N_format_list ["words"] (defScope s_format_list) := ⟨rfl, rfl, rfl, by decide +kernel, rfl, by decide +kernel, by decide +kernel⟩
theorem ok_format_list {f : Addr} {fd : FuncData} (G : Fun K "format_list" "format_list" s_format_list f fd) {cs : Cs} (kc : CsOk K mg cs) (cx_check_list : ClX P w K mg base 3 "check_list" ["value"] (spX K 1 (FX_check_list cs))) : FnOk P w K mg base (L2.CX P w) 4 f fd ["words"] (spX K 1 (FX_format_list cs)) := by
  refine fnX (n := 1) (m := 0) G sc_format_list rfl rfl fun ds Q Z hl hF => ⟨_, fun cdv A outer s H E W hr tk =>
      (pdxs_cons (pdx_expr (pde_cl tk cx_check_list monox_check_list hr (by decide) (by rfl) (h := (pda_cons (h1 := (pd_var 0)) (h2 := pda_nil))))) (pdxs_cons (pdx_ret (pde_of (pd_join (h1 := (pd_str [44, 32])) (h2 := (pd_var 0))))) pdxs_nil)), ?_⟩
  obtain ⟨v, rfl, hv, hq, hz⟩ := hF
  walk_at "d"
  refine ⟨v, rfl, hv, fun h => ?_, fun h => hz h⟩
  obtain ⟨ws, rfl, hw⟩ := isLB_iff.mp h
  have h8 := hw.2.1
  walk_at "d"
  refine ⟨⟨_, rfl⟩, ?_, hq ws rfl hw⟩
  have : ∀ l : List Wd, (∀ w ∈ l, w.length ≤ 6) → (l.map List.length).sum ≤ 6 * l.length := fun l => by
    induction l with
    | nil => intro _; simp
    | cons a l ih =>
      intro h
      have h1 := h a (by simp)
      have h2 := ih fun w hw => h w (by simp [hw])
      simp only [List.map_cons, List.sum_cons, List.length_cons]
      omega
  have := this ws fun w h => (hw.2.2.1 w h).2.1
  omega
abbrev s__law_call : Stmt := topS 31
abbrev N__law_call : List Str := ["branch", "arguments"]
theorem sc__law_call : FnScope N__law_call ["branch", "arguments"] (defScope s__law_call) := ⟨rfl, rfl, rfl, by decide +kernel, rfl, by decide +kernel, by decide +kernel⟩
theorem ok__law_call {f : Addr} {fd : FuncData} (G : Fun K "_law_call" "_law_call" s__law_call f fd) {cs : Cs} (kc : CsOk K mg cs) (cx_parse_list : ClX P w K mg base 3 "parse_list" ["text"] (spX K 1 (FX_parse_list cs))) (cx_format_list : ClX P w K mg base 4 "format_list" ["words"] (spX K 1 (FX_format_list cs))) : FnOk P w K mg base (L2.CX P w) 5 f fd ["branch", "arguments"] (spX K 2 (FX__law_call cs)) := by
  refine fnX (n := 2) (m := 0) G sc__law_call rfl rfl fun ds Q Z hl hF => ⟨_, fun cdv A outer s H E W hr tk =>
      (pdxs_cons (pdx_ret (pde_if (pdt_cmp op_eq rs_eqI (nomark _) (h1 := (pd_var 0)) (h2 := pd_int)) (pde_cl tk cx_parse_list monox_parse_list hr (by decide) (by rfl) (h := (pda_cons (h1 := (pd_var 1)) (h2 := pda_nil)))) (pde_cl tk cx_format_list monox_format_list hr (by decide) (by rfl) (h := (pda_cons (h1 := (pd_var 1)) (h2 := pda_nil)))))) pdxs_nil), ?_⟩
  obtain ⟨b, v, rfl, hp, hf⟩ := hF
  walk_at "d"
  refine ite2 (fun h => hp (of_decide_eq_true h)) fun h => hf fun z => h (decide_eq_true z)
abbrev s__law_outcome : Stmt := topS 25
abbrev N__law_outcome : List Str := ["branch", "arguments", "caught", "result", "error"]
theorem sc__law_outcome : FnScope N__law_outcome ["branch", "arguments"] (defScope s__law_outcome) := ⟨rfl, rfl, rfl, by decide +kernel, rfl, by decide +kernel, by decide +kernel⟩
theorem ok__law_outcome {f : Addr} {fd : FuncData} (G : Fun K "_law_outcome" "_law_outcome" s__law_outcome f fd) {cs : Cs} (kc : CsOk K mg cs) (cx__law_call : ClX P w K mg base 5 "_law_call" ["branch", "arguments"] (spX K 2 (FX__law_call cs))) (c__law_name : Cl P w K mg base 1 "_law_name" ["caught"] (spE K (F__law_name cs))) : FnOk P w K mg base CX0 6 f fd ["branch", "arguments"] (spD K 2 (F__law_outcome cs)) := by
  refine fnD (n := 2) (m := 3) G sc__law_outcome rfl rfl fun ds Q hl hF => ⟨_, fun cdv A outer s H E hr =>
      (pdss_cons (pds_set (i := 2) sc__law_outcome.nd (h1 := pd_non))
      (pdss_cons (pds_set (i := 3) sc__law_outcome.nd (h1 := pd_non))
      (pdss_cons (pds_tryK K rfl (i1 := 0) (i2 := 1) (ir := 3) (ie := 4) (ic := 2) (cv := .ref cs.slip) rfl rfl rfl sc__law_outcome.nd rfl rfl rfl rfl rfl rfl rfl rfl rfl rfl (by decide) ⟨by rfl, by decide, .inl kc.slip⟩ cx__law_call monox__law_call hr (by decide) (by rfl))
      (pdss_cons (pds_if (pdt_cmp op_isN rs_isNx (nomark _) (h1 := (pd_var 2)) (h2 := pd_non)) (pdss_one (pds_ret (pd_tup (pda_cons (h1 := (pd_str [114, 101, 116, 117, 114, 110, 101, 100])) (h2 := (pda_cons (h1 := (pd_var 3)) (h2 := pda_nil))))))) pdss_nil)
      (pdss_one (pds_ret (pd_tup (pda_cons (h1 := (pd_str [114, 97, 105, 115, 101, 100])) (h2 := (pda_cons (h1 := (pd_clE c__law_name (monoE__law_name) hr (by decide) (by rfl) (h := (pd_var 2)))) (h2 := pda_nil))))))))))), ?_⟩
  obtain ⟨d1, d2, rfl, h⟩ := hF
  walk_at "d"
  refine ⟨d1, d2, rfl, rfl, rfl, by simp, monox__law_call _ _ _ _ _ (fun d hd => ?_) (fun C hC => ⟨kc.got hC.1, fun a => ?_⟩) h⟩
  · walk_at "d"
    exact hd
  · obtain ⟨hC, hQ⟩ := hC
    walk_at "d"
    exact ⟨⟨C, rfl⟩, C, rfl, hC, hQ⟩
abbrev s__law_raises : Stmt := topS 27
abbrev N__law_raises : List Str := ["name", "names"]
theorem sc__law_raises : FnScope N__law_raises ["name"] (defScope s__law_raises) := ⟨rfl, rfl, rfl, by decide +kernel, rfl, by decide +kernel, by decide +kernel⟩
theorem ok__law_raises {f : Addr} {fd : FuncData} (G : Fun K "_law_raises" "_law_raises" s__law_raises f fd) : FnOk P w K mg base CX0 1 f fd ["name"] (spD K 1 F__law_raises) := by
  refine fnD (n := 1) (m := 1) G sc__law_raises rfl rfl fun ds Q hl hF => ⟨_, fun cdv A outer s H E hr =>
      (pdss_cons (pds_set (i := 1) sc__law_raises.nd (h1 := (pd_lst (pda_cons (h1 := (pd_str [119, 111, 114, 100])) (h2 := (pda_cons (h1 := (pd_str [108, 105, 115, 116])) (h2 := (pda_cons (h1 := (pd_str [110, 117, 109, 98, 101, 114])) (h2 := (pda_cons (h1 := (pd_str [116, 101, 120, 116])) (h2 := (pda_cons (h1 := (pd_str [111, 110, 101])) (h2 := (pda_cons (h1 := (pd_str [97, 108, 114, 101, 97, 100, 121])) (h2 := pda_nil)))))))))))))))
      (pdss_cons (pds_set (i := 1) sc__law_raises.nd (h1 := (pd_op op_catQ rs_catL (h1 := (pd_var 1)) (h2 := (pd_lst (pda_cons (h1 := (pd_str [110, 111, 116])) (h2 := (pda_cons (h1 := (pd_str [109, 97, 110, 121])) (h2 := (pda_cons (h1 := (pd_str [100, 111, 117, 98, 116, 102, 117, 108])) (h2 := (pda_cons (h1 := (pd_str [117, 110, 100, 111])) (h2 := pda_nil)))))))))))))
      (pdss_one (pds_ret (pd_tup (pda_cons (h1 := (pd_str [114, 97, 105, 115, 101, 100])) (h2 := (pda_cons (h1 := (pd_lindex (h1 := (pd_var 1)) (h2 := (pd_var 0)))) (h2 := pda_nil))))))))), ?_⟩
  obtain ⟨w, j, rfl, hj, hm, hQ⟩ := hF
  walk_at "d"
  exact ⟨namesL, rfl, j, hj, hm, hQ⟩
abbrev s_law : Stmt := topS 32
abbrev N_law : List Str := ["script", "town", "words", "line", "k", "bads", "at", "sign", "other", "some", "is_due", "word", "bad", "letter"]
theorem sc_law : FnScope N_law ["script"] (defScope s_law) := ⟨rfl, rfl, rfl, by decide +kernel, rfl, by decide +kernel, by decide +kernel⟩
theorem ok_law {f : Addr} {fd : FuncData} (G : Fun K "law" "law" s_law f fd) (m_range : mg "range" = none) (m_len : mg "len" = none) (m_list : mg "list" = none) (m_sorted : mg "sorted" = none) (m_set : mg "set" = none) (m_tuple : mg "tuple" = none) {cs : Cs} (kc : CsOk K mg cs) (c__law_town : Cl P w K mg base 1 "_law_town" ["script"] (spN K 1 F__law_town)) (c__law_list : Cl P w K mg base 5 "_law_list" ["script", "town", "many", "most"] (spT K 3 F__law_list)) (c__law_outcome : Cl P w K mg base 6 "_law_outcome" ["branch", "arguments"] (spD K 2 (F__law_outcome cs))) (c_format_list : Cl P w K mg base 4 "format_list" ["words"] (spD K 1 (F_format_list cs))) (c__law_draw : Cl P w K mg base 1 "_law_draw" ["script", "town", "limit"] (spT K 2 F__law_draw)) (c__law_pick : Cl P w K mg base 2 "_law_pick" ["script", "town", "choices"] (spT K 2 F__law_pick)) (c__law_raises : Cl P w K mg base 1 "_law_raises" ["name"] (spD K 1 F__law_raises)) (c_parse_list : Cl P w K mg base 3 "parse_list" ["text"] (spD K 1 (F_parse_list cs))) : FnOk P w K mg base CX0 7 f fd ["script"] (spD K 1 F_law) := by
  refine fnD (n := 1) (m := 13) G sc_law rfl rfl fun ds Q hl hF => ⟨_, fun cdv A outer s H E hr =>
      (pdss_cons (pds_setN (i := 1) sc_law.nd (h1 := (pdn_cl c__law_town mono__law_town hr (by decide) (by rfl) (h := (pda_cons (h1 := (pd_var 0)) (h2 := pda_nil))))))
      (pdss_cons (pds_set (i := 2) sc_law.nd (h1 := (pd_clT c__law_list mono__law_list hr (by decide) (by rfl) (h := (pda_cons (h1 := (pd_var 0)) (h2 := (pda_cons (h1 := (pd_var 1)) (h2 := (pda_cons (h1 := pd_int) (h2 := (pda_cons (h1 := pd_int) (h2 := pda_nil))))))))))))
      (pdss_cons (pds_set (i := 3) sc_law.nd (h1 := (pd_join (h1 := (pd_str [44, 32])) (h2 := (pd_var 2)))))
      (pdss_cons (pds_if (PDW.pt (pdw_or (pdt_cmp op_ne rs_neS (nomark _) (h1 := (pd_cl c_format_list mono_format_list hr (by decide) (by rfl) (h := (pda_cons (h1 := (pd_var 2)) (h2 := pda_nil))))) (h2 := (pd_var 3))) (pdw_or1 (pdt_cmp (op_neD (room64 hr)) rs_neD (nomark _) (h1 := (pd_cl c__law_outcome mono__law_outcome hr (by decide) (by rfl) (h := (pda_cons (h1 := pd_int) (h2 := (pda_cons (h1 := (pd_var 3)) (h2 := pda_nil))))))) (h2 := (pd_tup (pda_cons (h1 := (pd_str [114, 101, 116, 117, 114, 110, 101, 100])) (h2 := (pda_cons (h1 := (pd_var 2)) (h2 := pda_nil)))))))))) (pdss_one (pds_ret pd_bl)) pdss_nil)
      (pdss_cons (pds_for PassesOwn.never rfl (h1 := (pdi_range1 (by rfl) m_range (h1 := (pda_cons (h1 := pd_int) (h2 := pda_nil))))) (h2 := (pdg_name (i := 4) sc_law.nd)) (h3 := (pdss_cons (pds_set (i := 6) sc_law.nd (h1 := (pd_clT c__law_draw mono__law_draw hr (by decide) (by rfl) (h := (pda_cons (h1 := (pd_var 0)) (h2 := (pda_cons (h1 := (pd_var 1)) (h2 := (pda_cons (h1 := (pd_op op_add (rs_I0 fun _ _ _ => .int _) (h1 := (pd_callB call_len_str cs_lenS (by rfl) m_len boot_len (h1 := (pda_cons (h1 := (pd_var 3)) (h2 := pda_nil))))) (h2 := pd_int))) (h2 := pda_nil))))))))))
        (pdss_cons (pds_set (i := 7) sc_law.nd (h1 := (pd_clT c__law_pick mono__law_pick hr (by decide) (by rfl) (h := (pda_cons (h1 := (pd_var 0)) (h2 := (pda_cons (h1 := (pd_var 1)) (h2 := (pda_cons (h1 := (pd_op op_catQ rs_catL (h1 := (pd_callTy (call_listS rfl) cs_listS (by rfl) m_list (by decide +kernel) (h1 := (pda_cons (h1 := (pd_str [97, 98, 99, 100, 101, 32, 44])) (h2 := pda_nil))))) (h2 := (pd_lst (pda_cons (h1 := (pd_str [44, 32])) (h2 := (pda_cons (h1 := (pd_str [])) (h2 := pda_nil)))))))) (h2 := pda_nil))))))))))
        (pdss_cons (pds_set (i := 8) sc_law.nd (h1 := (pd_op op_add_str rs_addS (h1 := (pd_op op_add_str rs_addS (h1 := (pd_slice sl_str ss_str (h1 := (pd_var 3)) (h2 := pdo_none) (h3 := (pdo_some (pd_var 6))))) (h2 := (pd_var 7)))) (h2 := (pd_slice sl_str ss_str (h1 := (pd_var 3)) (h2 := (pdo_some (pd_op op_add (rs_I0 fun _ _ _ => .int _) (h1 := (pd_var 6)) (h2 := (pd_clT c__law_draw mono__law_draw hr (by decide) (by rfl) (h := (pda_cons (h1 := (pd_var 0)) (h2 := (pda_cons (h1 := (pd_var 1)) (h2 := (pda_cons (h1 := pd_int) (h2 := pda_nil)))))))))))) (h3 := pdo_none))))))
        (pdss_cons (pds_set (i := 9) sc_law.nd (h1 := (pd_split (by decide) (by decide +kernel) (h1 := (pd_var 8)))))
        (pdss_cons (pds_set (i := 10) sc_law.nd (h1 := (pd_and (pd_cmp (op_eqD (room64 hr)) rs_eqD (nomark _) (h1 := (pd_var 9)) (h2 := (pd_sortedSet rfl (by rfl) m_sorted (by rfl) m_set (room100 hr) (pd_var 9)))) (pd_one (pd_cmp op_le (rs_I0 fun _ _ _ => .bl _) (nomark _) (h1 := (pd_callB call_len_seq cs_len (by rfl) m_len boot_len (h1 := (pda_cons (h1 := (pd_var 9)) (h2 := pda_nil))))) (h2 := pd_int))))))
        (pdss_cons (pds_for PassesOwn.never rfl (h1 := (pdi_list (pd_var 9))) (h2 := (pdg_name (i := 11) sc_law.nd)) (h3 := (pdss_one (pds_set (i := 10) sc_law.nd (h1 := (pd_and (pd_var 10) (pd_and (pd_chain (ho := op_le) (hs := (rs_I0 fun _ _ _ => .bl _)) (ho' := op_le) (hs' := (rs_I0 fun _ _ _ => .bl _)) (h1 := pd_int) (h2 := (pd_callB call_len_str cs_lenS (by rfl) m_len boot_len (h1 := (pda_cons (h1 := (pd_var 11)) (h2 := pda_nil))))) (h3 := pd_int)) (pd_one (pd_cmp (op_eqD (room64 hr)) rs_eqD (nomark _) (h1 := (pd_frz (pdn_lc (own := [("letter", 13)]) (vs := [13]) rfl sc_law.nd rfl (pdi_str (pd_var 11)) (blkOk_by (N := N_law) (sc := defScope s_law) (by decide +kernel)) (fun _ _ _ _ _ => pdgv_name (i := 13) sc_law.nd) (fun _ _ _ _ _ => (pdts_one (pdt_cmp op_notIn_sign rs_notInC (by rfl) (h1 := (pd_var 13)) (h2 := (pd_str [97, 98, 99, 100]))))) (fun _ _ _ _ _ => (pd_var 13))))) (h2 := (pd_lst pda_nil)))))))))))
        (pdss_one (pds_if (pdt_cmp (op_neD (room64 hr)) rs_neD (nomark _) (h1 := (pd_cl c__law_outcome mono__law_outcome hr (by decide) (by rfl) (h := (pda_cons (h1 := pd_int) (h2 := (pda_cons (h1 := (pd_var 8)) (h2 := pda_nil))))))) (h2 := (pd_ifExp (pdt_val (h1 := (pd_var 10))) (pd_tup (pda_cons (h1 := (pd_str [114, 101, 116, 117, 114, 110, 101, 100])) (h2 := (pda_cons (h1 := (pd_callTy call_tuple_ofF cs_tupOf (by rfl) m_tuple (by decide +kernel) (h1 := (pda_cons (h1 := (pd_var 9)) (h2 := pda_nil))))) (h2 := pda_nil))))) (pd_cl c__law_raises mono__law_raises hr (by decide) (by rfl) (h := (pda_cons (h1 := (pd_str [116, 101, 120, 116])) (h2 := pda_nil))))))) (pdss_one (pds_ret pd_bl)) pdss_nil))))))))))
      (pdss_cons (pds_set (i := 5) sc_law.nd (h1 := (pd_lst (pda_cons (h1 := pd_non) (h2 := (pda_cons (h1 := pd_int) (h2 := (pda_cons (h1 := (pd_str [])) (h2 := (pda_cons (h1 := (pd_str [32])) (h2 := (pda_cons (h1 := (pd_str [44])) (h2 := (pda_cons (h1 := (pd_str [44, 32])) (h2 := (pda_cons (h1 := (pd_str [97, 44])) (h2 := (pda_cons (h1 := (pd_str [97, 44, 32])) (h2 := (pda_cons (h1 := (pd_str [44, 32, 97])) (h2 := (pda_cons (h1 := (pd_str [97, 44, 98])) (h2 := (pda_cons (h1 := (pd_str [97, 44, 32, 32, 98])) (h2 := (pda_cons (h1 := (pd_str [98, 44, 32, 97])) (h2 := (pda_cons (h1 := (pd_str [97, 44, 32, 97])) (h2 := (pda_cons (h1 := (pd_str [101])) (h2 := (pda_cons (h1 := (pd_str [65])) (h2 := (pda_cons (h1 := (pd_str [97, 97, 97, 97, 97, 97, 97])) (h2 := pda_nil)))))))))))))))))))))))))))))))))))
      (pdss_cons (pds_set (i := 5) sc_law.nd (h1 := (pd_op op_catQ rs_catL (h1 := (pd_var 5)) (h2 := (pd_lst (pda_cons (h1 := (pd_var 2)) (h2 := (pda_cons (h1 := (pd_lst (pda_cons (h1 := (pd_var 3)) (h2 := pda_nil)))) (h2 := (pda_cons (h1 := pd_bl) (h2 := (pda_cons (h1 := (pd_op op_add_str rs_addS (h1 := (pd_var 3)) (h2 := (pd_str [32])))) (h2 := (pda_cons (h1 := (pd_op op_add_str rs_addS (h1 := (pd_str [32])) (h2 := (pd_var 3)))) (h2 := (pda_cons (h1 := (pd_str [97, 44, 32, 98, 44, 32, 99, 44, 32, 100, 44, 32, 97, 97, 44, 32, 97, 98, 44, 32, 97, 99, 44, 32, 97, 100, 44, 32, 98, 97])) (h2 := pda_nil)))))))))))))))))
      (pdss_cons (pds_lcD (i := 5) (own := [("bad", 12)]) (vs := [12]) rfl sc_law.nd rfl rfl (sw_true rfl rfl rfl (by decide +kernel)) rfl (pdi_list (pd_var 5)) (blkOk_by (N := N_law) (sc := defScope s_law) (by decide +kernel)) (fun _ _ _ _ _ => pdgv_name (i := 12) sc_law.nd) (fun _ _ _ _ _ => (pdts_one (pdt_cmp (op_neD (room64 hr)) rs_neD (nomark _) (h1 := (pd_cl c__law_outcome mono__law_outcome hr (by decide) (by rfl) (h := (pda_cons (h1 := pd_int) (h2 := (pda_cons (h1 := (pd_var 12)) (h2 := pda_nil))))))) (h2 := (pd_cl c__law_raises mono__law_raises hr (by decide) (by rfl) (h := (pda_cons (h1 := (pd_str [116, 101, 120, 116])) (h2 := pda_nil)))))))) (fun _ _ _ _ _ => (pd_var 12)))
      (pdss_cons (pds_if (PDW.pt (pdw_or (pdt_cmp (op_neD (room64 hr)) rs_neD (nomark _) (h1 := (pd_var 5)) (h2 := (pd_lst pda_nil))) (pdw_or (pdt_cmp (op_neD (room64 hr)) rs_neD (nomark _) (h1 := (pd_cl c__law_outcome mono__law_outcome hr (by decide) (by rfl) (h := (pda_cons (h1 := pd_int) (h2 := (pda_cons (h1 := (pd_tup (pda_cons (h1 := (pd_str [98])) (h2 := (pda_cons (h1 := (pd_str [97])) (h2 := pda_nil)))))) (h2 := pda_nil))))))) (h2 := (pd_cl c__law_raises mono__law_raises hr (by decide) (by rfl) (h := (pda_cons (h1 := (pd_str [108, 105, 115, 116])) (h2 := pda_nil)))))) (pdw_or1 (pdt_cmp (op_neD (room64 hr)) rs_neD (nomark _) (h1 := (pd_cl c__law_outcome mono__law_outcome hr (by decide) (by rfl) (h := (pda_cons (h1 := pd_int) (h2 := (pda_cons (h1 := (pd_tup pda_nil)) (h2 := pda_nil))))))) (h2 := (pd_cl c__law_raises mono__law_raises hr (by decide) (by rfl) (h := (pda_cons (h1 := (pd_str [108, 105, 115, 116])) (h2 := pda_nil)))))))))) (pdss_one (pds_ret pd_bl)) pdss_nil)
      (pdss_one (pds_ret (pd_and (pd_cmp (op_eqD (room64 hr)) rs_eqD (nomark _) (h1 := (pd_cl c_parse_list mono_parse_list hr (by decide) (by rfl) (h := (pda_cons (h1 := (pd_slice sl_str ss_str (h1 := (pd_str [97, 44, 32, 98, 44, 32, 99, 44, 32, 100, 44, 32, 97, 97, 97, 97, 97, 97])) (h2 := pdo_none) (h3 := (pdo_some pd_int)))) (h2 := pda_nil))))) (h2 := (pd_tup (pda_cons (h1 := (pd_str [97])) (h2 := (pda_cons (h1 := (pd_str [98])) (h2 := (pda_cons (h1 := (pd_str [99])) (h2 := (pda_cons (h1 := (pd_str [100])) (h2 := pda_nil))))))))))) (pd_one (pd_cmp op_eq rs_eqS (nomark _) (h1 := (pd_cl c_format_list mono_format_list hr (by decide) (by rfl) (h := (pda_cons (h1 := (pd_tup (pda_cons (h1 := (pd_str [97, 98, 99, 100])) (h2 := pda_nil)))) (h2 := pda_nil))))) (h2 := (pd_str [97, 98, 99, 100])))))))))))))))), ?_⟩
  obtain ⟨ns, rfl, h63, hQ⟩ := hF
  walk_at "d"
  refine ⟨ns, rfl, h63, fun ts0 hT0 p => ⟨ns, 0, 7, 6, rfl, by omega, by omega, by omega, by omega, h63, hT0, by omega, fun ws ts1 hne hlen hall hpw hT1 => ?_⟩⟩
  have hw : WL ws := ⟨List.length_pos_iff.mpr hne, by omega, fun w hw => ⟨(hall w hw).1, by have := (hall w hw).2.1; omega, (hall w hw).2.2⟩, hpw⟩
  walk_at "d"
  have lets : ∀ w ∈ ws, LetAll w := fun w hw => (hall w hw).2.2
  have hsum : ∀ l : List Wd, (∀ w ∈ l, w.length ≤ 6) → (l.map List.length).sum ≤ 6 * l.length := fun l => by
    induction l with
    | nil => intro _; simp
    | cons a l ih =>
      intro h
      have h1 := h a (by simp)
      have h2 := ih fun w hw => h w (by simp [hw])
      simp only [List.map_cons, List.sum_cons, List.length_cons]
      omega
  have hsum := hsum ws fun w h => (hall w h).2.1
  have hnd := kc.nd
  obtain ⟨line, eline⟩ : ∃ line : Wd, line = DL.joinW sepW ws := ⟨_, rfl⟩
  rw [show DL.joinW [44, 32] ws = line from eline.symm]
  have hll : line.length ≤ 64 := by
    rw [eline]
    have := joinW_len (S := sepW) (ws := ws) (m := 6) fun w h => (hall w h).2.1
    have : ws.length * (6 + sepW.length) ≤ 8 * 8 := Nat.mul_le_mul (by omega) (by decide)
    omega
  have hlc : ∀ c ∈ line, c < 1000 := by
    rw [eline]
    exact joinW_chars (by decide) fun w hw c hc => by
      have := lets w hw c hc
      have := of_decide_eq_true this
      simp at this
      omega
  have hspl : spW sepW line = ws := by rw [eline]; exact split_joinW hne fun w hw => nocomma (lets w hw)
  have okT : ∀ l : List Wd, (∀ w ∈ l, ∀ c ∈ w, c < 1000) → OkD (.tuple [sD wReturned, .tuple (l.map sD)]) 2 := fun l hl => okD_tup fun d hd => by
    simp only [List.mem_cons, List.not_mem_nil, or_false] at hd
    rcases hd with rfl | rfl
    · exact okD_strc (by decide)
    · refine okD_tup fun d hd => ?_
      obtain ⟨w, hw, rfl⟩ := List.mem_map.mp hd
      exact okD_strc fun c hc => by have := hl w hw c hc; omega
  have okE : ∀ k : Int, OkD (.tuple [sD wRaised, .int k]) 1 := fun k => okD_tup fun d hd => by
    simp only [List.mem_cons, List.not_mem_nil, or_false] at hd
    rcases hd with rfl | rfl
    · exact okD_strc (by decide)
    · exact okD_int
  have let1000 : ∀ w ∈ ws, ∀ c ∈ w, c < 1000 := fun w hw c hc => by
    have := of_decide_eq_true (lets w hw c hc)
    simp at this
    omega
  refine ⟨⟨_, rfl⟩, by omega, ?_⟩
  refine ⟨.tuple (ws.map sD), rfl, ?_, fun ws' e hw' => ?_, fun h => ?_⟩
  · intro l e
    cases e
    refine ⟨by rw [List.length_map]; omega, fun z hz => ?_⟩
    obtain ⟨w, hw0, e⟩ := List.mem_map.mp hz
    cases e
    have := (hall w hw0).2.1
    show w.length ≤ 100000
    omega
  · cases map_sD_inj (PyData.tuple.inj e)
    rw [show DL.joinW sepW ws = line from eline.symm]
    walk_at "d"
    try rw [if_neg (by simp)]
    refine out_text hnd (by omega) (fun _ => ?_) fun z => absurd (by rw [hspl]; exact hw) z
    rw [hspl]
    refine same_step (okT ws let1000) (by omega) ?_
    refine ⟨by omega, by omega, ?_⟩
    rw [show Int.toNat 10 = 10 from rfl]
    obtain ⟨W, eW⟩ : ∃ W : Nat → DCtx → Prop, W = fun i Γ => ∃ (ts : List D) (s4 s6 s7 s8 s9 s10 s11 : Option DCell), Town ns (100000 + 10 * i) ts ∧ Γ = [some (DCell.val (PyData.list (iD ns))), some (DCell.own p (DOb.lst ts)), some (DCell.val (PyData.tuple (ws.map sD))), some (DCell.val (PyData.str (T line))), s4, none, s6, s7, s8, s9, s10, s11, none, none] := ⟨_, rfl⟩
    refine for_use (List.range 10) (fun i => .int ((i : Nat) : Int)) W (by rw [eW]; exact ⟨_, _, _, _, _, _, _, _, hT1.mono (by omega), rfl⟩) ?_ ?_
    · intro i k Γ2 hi hW
      rw [eW] at hW
      obtain ⟨ts2, s4, s6, s7, s8, s9, s10, s11, hT2, rfl⟩ := hW
      have hi5 : i < 10 := by simpa using (List.getElem?_eq_some_iff.mp hi).1
      walk_at "d"
      refine ⟨by omega, ns, _, _, rfl, h63, hT2, by omega, by omega, by omega, fun r ts3 hr0 hr1 hT3 => ?_⟩
      obtain ⟨at0, rfl⟩ : ∃ m : Nat, r = ((m : Nat) : Int) := ⟨r.toNat, by omega⟩
      walk_at "d"
      refine ⟨ns, _, _, _, rfl, .inl rfl, h63, hT3, by omega, by simp, by simp, fun d ts4 hd hT4 => ?_⟩
      obtain ⟨sg, rfl, hsl, hsc⟩ : ∃ sg : Wd, d = sD sg ∧ sg.length ≤ 2 ∧ ∀ c ∈ sg, c < 1000 := by
        simp only [List.mem_cons, List.not_mem_nil, or_false] at hd
        rcases hd with rfl | rfl | rfl | rfl | rfl | rfl | rfl | rfl | rfl
        all_goals exact ⟨_, rfl, by decide, by decide⟩
      walk_at "d"
      have hcut := cut_len line none (some ((at0 : Nat) : Int))
      refine ⟨by omega, by omega, ns, _, _, rfl, h63, hT4, by omega, by omega, by omega, fun r ts5 hr0' hr1' hT5 => ?_⟩
      have hcut2 := cut_len line (some (((at0 : Nat) : Int) + r)) none
      walk_at "d"
      have mem1 : ∀ c ∈ cut line none (some ((at0 : Nat) : Int)), c ∈ line := fun c hc => by
        rw [cut_to _ _ (by omega)] at hc
        exact List.mem_of_mem_take hc
      have mem2 : ∀ c ∈ cut line (some (((at0 : Nat) : Int) + r)) none, c ∈ line := fun c hc => by
        rw [cut_from _ _ (by omega)] at hc
        exact List.mem_of_mem_drop hc
      have hol : (cut line none (some ((at0 : Nat) : Int)) ++ sg ++ cut line (some (((at0 : Nat) : Int) + r)) none).length ≤ 200 := by
        rw [List.length_append, List.length_append]
        omega
      have hoc : ∀ c ∈ cut line none (some ((at0 : Nat) : Int)) ++ sg ++ cut line (some (((at0 : Nat) : Int) + r)) none, c < 1000 := fun c hc => by
        rcases List.mem_append.mp hc with hc | hc
        · rcases List.mem_append.mp hc with hc | hc
          · exact hlc c (mem1 c hc)
          · exact hsc c hc
        · exact hlc c (mem2 c hc)
      refine ⟨by omega, by rw [List.length_append]; omega, by omega, ?_⟩
      generalize cut line none (some ((at0 : Nat) : Int)) ++ sg ++ cut line (some (((at0 : Nat) : Int) + r)) none = o at hol hoc ⊢
      have hT6 : Town ns (100000 + 10 * i + 10) ts5 := hT5.mono (by omega)
      have hsmc : ∀ w ∈ spW sepW o, ∀ c ∈ w, c < 1000 := fun w hw c hc => by
        rcases spl_chars sepW o 0 [] w hw c hc with h | h
        · cases h
        · exact hoc c h
      have hsml : (spW sepW o).length ≤ 201 := by
        have := spl_len sepW o 0 []
        unfold spW
        omega
      have hsmw : ∀ w ∈ spW sepW o, w.length ≤ 200 := fun w hw => by
        have := spl_part sepW o 0 [] w hw
        simp only [List.length_nil] at this
        omega
      have hsmn : spW sepW o ≠ [] := spl_ne sepW o 0 []
      have okS : ∀ l : List Wd, (∀ w ∈ l, ∀ c ∈ w, c < 1000) → OkD (.list (l.map sD)) 1 := fun l hl => okD_lst fun d hd => by
        obtain ⟨w, hw, rfl⟩ := List.mem_map.mp hd
        exact okD_strc fun c hc => by have := hl w hw c hc; omega
      refine ss_use (ws := spW sepW o) (.inl rfl) (by omega) fun v hv1 hv2 => ?_
      walk_at "d"
      have okv := okS v fun w hw => hsmc w ((hv2 w).mp hw)
      refine ⟨(okS _ hsmc).shaped, okv.shaped, ?_⟩
      rw [show PyData.eqv (.list (List.map (fun v => PyData.str (T v)) (spW [44, 32] o))) (.list (v.map sD)) = decide (spW sepW o = v) from eqv_txL _ _]
      have easc : spW sepW o = v ↔ (spW sepW o).Pairwise (· < ·) := ⟨fun e => by rw [e]; exact hv1, fun h => (asc_uniq hv1 h hv2).symm⟩
      refine ite2 (fun he => ?_) fun he => ?_
      · have hdv : decide (((List.length (List.map (fun v => PyData.str (T v)) (spW [44, 32] o)) : Nat) : Int) ≤ 8) = true ↔ ((spW sepW o).Pairwise (· < ·) ∧ (spW sepW o).length ≤ 8) ∧ ∀ w ∈ (spW sepW o).take 0, 1 ≤ w.length ∧ w.length ≤ 6 ∧ LetAll w := by
          rw [decide_eq_true_eq, List.length_map]
          have := easc.mp (of_decide_eq_true he)
          exact ⟨fun z => ⟨⟨this, by show (spW [44, 32] o).length ≤ 8; omega⟩, by simp⟩, fun z => by have := z.1.2; show (((spW [44, 32] o).length : Nat) : Int) ≤ 8; unfold sepW at this; omega⟩
        obtain ⟨V, eV⟩ : ∃ V : Nat → DCtx → Prop, V = fun j Γ => ∃ (dv : Bool) (s11 : Option DCell), (dv = true ↔ ((spW sepW o).Pairwise (· < ·) ∧ (spW sepW o).length ≤ 8) ∧ ∀ w ∈ (spW sepW o).take j, 1 ≤ w.length ∧ w.length ≤ 6 ∧ LetAll w) ∧ Γ = [some (DCell.val (PyData.list (iD ns))), some (DCell.own p (DOb.lst ts5)), some (DCell.val (PyData.tuple (ws.map sD))), some (DCell.val (PyData.str (T line))), some (DCell.val (PyData.int ((k : Nat) : Int))), none, some (DCell.val (PyData.int ((at0 : Nat) : Int))), some (DCell.val (PyData.str (T sg))), some (DCell.val (PyData.str (T o))), some (DCell.val (PyData.list ((spW sepW o).map sD))), some (DCell.val (PyData.bool dv)), s11, none, none] := ⟨_, rfl⟩
        refine for_use (spW sepW o) sD V (by rw [eV]; exact ⟨_, _, hdv, rfl⟩) ?_ ?_
        · intro j w Γ3 hj hV
          rw [eV] at hV
          obtain ⟨dv, s11, hdv, rfl⟩ := hV
          have hwm := List.mem_of_getElem? hj
          have hwl := hsmw w hwm
          have tk1 : (spW sepW o).take (j + 1) = (spW sepW o).take j ++ [w] := by rw [List.take_add_one, hj]; rfl
          have stepV : ∀ b : Bool, (b = true ↔ dv = true ∧ (1 ≤ w.length ∧ w.length ≤ 6 ∧ LetAll w)) → V (j + 1) [some (DCell.val (PyData.list (iD ns))), some (DCell.own p (DOb.lst ts5)), some (DCell.val (PyData.tuple (ws.map sD))), some (DCell.val (PyData.str (T line))), some (DCell.val (PyData.int ((k : Nat) : Int))), none, some (DCell.val (PyData.int ((at0 : Nat) : Int))), some (DCell.val (PyData.str (T sg))), some (DCell.val (PyData.str (T o))), some (DCell.val (PyData.list ((spW sepW o).map sD))), some (DCell.val (PyData.bool b)), some (DCell.val (PyData.str (T w))), none, none] := fun b hb => by
            rw [eV]
            refine ⟨b, _, ?_, rfl⟩
            rw [hb, hdv, tk1]
            constructor
            · rintro ⟨⟨h1, h2⟩, h3⟩
              refine ⟨h1, fun x hx => ?_⟩
              rcases List.mem_append.mp hx with hx | hx
              · exact h2 x hx
              · rw [List.mem_singleton.mp hx]; exact h3
            · rintro ⟨h1, h2⟩
              exact ⟨⟨h1, fun x hx => h2 x (List.mem_append_left _ hx)⟩, h2 w (by simp)⟩
          walk_at "d"
          refine ite2 (fun hd => ⟨by omega, ite2 (fun h1 => ite2 (fun h6 => ?_) fun h6 => ?_) fun h1 => ?_⟩) fun hd => ?_
          · refine lc_useM w (fun c => .str (T [c])) (fun c => !isLet c) (fun c => .str (T [c])) (by simp) (by omega) (fun c hc acc P hy hn => ?_) ?_
            · walk_at "d"
              exact ite2 hy fun h => hn (Bool.eq_false_iff.mpr h)
            walk_at "d"
            refine ⟨(okD_lst (n := 1) fun d hd => ?_).shaped, okLst0.shaped, ?_⟩
            · obtain ⟨c, hc, rfl⟩ := List.mem_map.mp hd
              exact okD_strc fun x hx => by
                rw [List.mem_singleton.mp hx]
                have := hsmc w hwm c (List.mem_filter.mp hc).1
                omega
            refine stepV _ ?_
            rw [eqv_nilL, decide_eq_true_eq, List.map_eq_nil_iff, List.filter_eq_nil_iff]
            have h1 := of_decide_eq_true h1
            have h6 := of_decide_eq_true h6
            constructor
            · intro h
              exact ⟨hd, by omega, by omega, fun c hc => show isLet c = true by simpa using h c hc⟩
            · rintro ⟨_, _, _, h⟩ c hc
              rw [show isLet c = true from h c hc]
              decide
          · refine stepV false ⟨fun z => (nomatch z), fun z => absurd (decide_eq_true (by omega)) h6⟩
          · refine stepV false ⟨fun z => (nomatch z), fun z => absurd (decide_eq_true (by omega)) h1⟩
          · refine stepV false ⟨fun z => (nomatch z), fun z => absurd z.1 hd⟩
        intro Γ3 hV
        rw [eV] at hV
        obtain ⟨dv, s11, hdv, rfl⟩ := hV
        rw [List.take_length] at hdv
        have hWL : dv = true ↔ WL (spW sepW o) := by
          rw [hdv]
          exact ⟨fun ⟨⟨h1, h2⟩, h3⟩ => ⟨List.length_pos_iff.mpr hsmn, h2, h3, h1⟩, fun h => ⟨⟨h.2.2.2, h.2.1⟩, h.2.2.1⟩⟩
        walk_at "d"
        have fin : W (i + 1) [some (DCell.val (PyData.list (iD ns))), some (DCell.own p (DOb.lst ts5)), some (DCell.val (PyData.tuple (ws.map sD))), some (DCell.val (PyData.str (T line))), some (DCell.val (PyData.int ((k : Nat) : Int))), none, some (DCell.val (PyData.int ((at0 : Nat) : Int))), some (DCell.val (PyData.str (T sg))), some (DCell.val (PyData.str (T o))), some (DCell.val (PyData.list ((spW sepW o).map sD))), some (DCell.val (PyData.bool dv)), s11, none, none] := by
          rw [eW]
          exact ⟨ts5, _, _, _, _, _, _, _, hT6.mono (by omega), rfl⟩
        refine out_text hnd (by omega) (fun h => ?_) fun h => ?_
        · rw [if_pos (hWL.mpr h)]
          exact same_step (okT _ hsmc) (by omega) fin
        · rw [if_neg fun z => h (hWL.mp z)]
          exact raises_text (same_step (okE 3) (by omega) fin)
      · have hdv : false = true ↔ ((spW sepW o).Pairwise (· < ·) ∧ (spW sepW o).length ≤ 8) ∧ ∀ w ∈ (spW sepW o).take 0, 1 ≤ w.length ∧ w.length ≤ 6 ∧ LetAll w := ⟨fun z => (nomatch z), fun z => absurd (decide_eq_true (easc.mpr z.1.1)) he⟩
        obtain ⟨V, eV⟩ : ∃ V : Nat → DCtx → Prop, V = fun j Γ => ∃ (dv : Bool) (s11 : Option DCell), (dv = true ↔ ((spW sepW o).Pairwise (· < ·) ∧ (spW sepW o).length ≤ 8) ∧ ∀ w ∈ (spW sepW o).take j, 1 ≤ w.length ∧ w.length ≤ 6 ∧ LetAll w) ∧ Γ = [some (DCell.val (PyData.list (iD ns))), some (DCell.own p (DOb.lst ts5)), some (DCell.val (PyData.tuple (ws.map sD))), some (DCell.val (PyData.str (T line))), some (DCell.val (PyData.int ((k : Nat) : Int))), none, some (DCell.val (PyData.int ((at0 : Nat) : Int))), some (DCell.val (PyData.str (T sg))), some (DCell.val (PyData.str (T o))), some (DCell.val (PyData.list ((spW sepW o).map sD))), some (DCell.val (PyData.bool dv)), s11, none, none] := ⟨_, rfl⟩
        refine for_use (spW sepW o) sD V (by rw [eV]; exact ⟨_, _, hdv, rfl⟩) ?_ ?_
        · intro j w Γ3 hj hV
          rw [eV] at hV
          obtain ⟨dv, s11, hdv, rfl⟩ := hV
          have hwm := List.mem_of_getElem? hj
          have hwl := hsmw w hwm
          have tk1 : (spW sepW o).take (j + 1) = (spW sepW o).take j ++ [w] := by rw [List.take_add_one, hj]; rfl
          have stepV : ∀ b : Bool, (b = true ↔ dv = true ∧ (1 ≤ w.length ∧ w.length ≤ 6 ∧ LetAll w)) → V (j + 1) [some (DCell.val (PyData.list (iD ns))), some (DCell.own p (DOb.lst ts5)), some (DCell.val (PyData.tuple (ws.map sD))), some (DCell.val (PyData.str (T line))), some (DCell.val (PyData.int ((k : Nat) : Int))), none, some (DCell.val (PyData.int ((at0 : Nat) : Int))), some (DCell.val (PyData.str (T sg))), some (DCell.val (PyData.str (T o))), some (DCell.val (PyData.list ((spW sepW o).map sD))), some (DCell.val (PyData.bool b)), some (DCell.val (PyData.str (T w))), none, none] := fun b hb => by
            rw [eV]
            refine ⟨b, _, ?_, rfl⟩
            rw [hb, hdv, tk1]
            constructor
            · rintro ⟨⟨h1, h2⟩, h3⟩
              refine ⟨h1, fun x hx => ?_⟩
              rcases List.mem_append.mp hx with hx | hx
              · exact h2 x hx
              · rw [List.mem_singleton.mp hx]; exact h3
            · rintro ⟨h1, h2⟩
              exact ⟨⟨h1, fun x hx => h2 x (List.mem_append_left _ hx)⟩, h2 w (by simp)⟩
          walk_at "d"
          refine ite2 (fun hd => ⟨by omega, ite2 (fun h1 => ite2 (fun h6 => ?_) fun h6 => ?_) fun h1 => ?_⟩) fun hd => ?_
          · refine lc_useM w (fun c => .str (T [c])) (fun c => !isLet c) (fun c => .str (T [c])) (by simp) (by omega) (fun c hc acc P hy hn => ?_) ?_
            · walk_at "d"
              exact ite2 hy fun h => hn (Bool.eq_false_iff.mpr h)
            walk_at "d"
            refine ⟨(okD_lst (n := 1) fun d hd => ?_).shaped, okLst0.shaped, ?_⟩
            · obtain ⟨c, hc, rfl⟩ := List.mem_map.mp hd
              exact okD_strc fun x hx => by
                rw [List.mem_singleton.mp hx]
                have := hsmc w hwm c (List.mem_filter.mp hc).1
                omega
            refine stepV _ ?_
            rw [eqv_nilL, decide_eq_true_eq, List.map_eq_nil_iff, List.filter_eq_nil_iff]
            have h1 := of_decide_eq_true h1
            have h6 := of_decide_eq_true h6
            constructor
            · intro h
              exact ⟨hd, by omega, by omega, fun c hc => show isLet c = true by simpa using h c hc⟩
            · rintro ⟨_, _, _, h⟩ c hc
              rw [show isLet c = true from h c hc]
              decide
          · refine stepV false ⟨fun z => (nomatch z), fun z => absurd (decide_eq_true (by omega)) h6⟩
          · refine stepV false ⟨fun z => (nomatch z), fun z => absurd (decide_eq_true (by omega)) h1⟩
          · refine stepV false ⟨fun z => (nomatch z), fun z => absurd z.1 hd⟩
        intro Γ3 hV
        rw [eV] at hV
        obtain ⟨dv, s11, hdv, rfl⟩ := hV
        rw [List.take_length] at hdv
        have hWL : dv = true ↔ WL (spW sepW o) := by
          rw [hdv]
          exact ⟨fun ⟨⟨h1, h2⟩, h3⟩ => ⟨List.length_pos_iff.mpr hsmn, h2, h3, h1⟩, fun h => ⟨⟨h.2.2.2, h.2.1⟩, h.2.2.1⟩⟩
        walk_at "d"
        have fin : W (i + 1) [some (DCell.val (PyData.list (iD ns))), some (DCell.own p (DOb.lst ts5)), some (DCell.val (PyData.tuple (ws.map sD))), some (DCell.val (PyData.str (T line))), some (DCell.val (PyData.int ((k : Nat) : Int))), none, some (DCell.val (PyData.int ((at0 : Nat) : Int))), some (DCell.val (PyData.str (T sg))), some (DCell.val (PyData.str (T o))), some (DCell.val (PyData.list ((spW sepW o).map sD))), some (DCell.val (PyData.bool dv)), s11, none, none] := by
          rw [eW]
          exact ⟨ts5, _, _, _, _, _, _, _, hT6.mono (by omega), rfl⟩
        refine out_text hnd (by omega) (fun h => ?_) fun h => ?_
        · rw [if_pos (hWL.mpr h)]
          exact same_step (okT _ hsmc) (by omega) fin
        · rw [if_neg fun z => h (hWL.mp z)]
          exact raises_text (same_step (okE 3) (by omega) fin)
    · intro Γ2 hW
      rw [eW] at hW
      obtain ⟨ts2, s4, s6, s7, s8, s9, s10, s11, hT2, rfl⟩ := hW
      walk_at "d"
      refine ⟨by omega, by omega, ?_⟩
      have hsb := space_back hw
      have hsf := space_front hw
      rw [show DL.joinW sepW ws = line from eline.symm] at hsb hsf
      have nol : ∀ t : Wd, isLB (.tuple ((spW sepW t).map sD)) = false → ¬ WL (spW sepW t) := fun t h z => by
        rw [isLB_iff.mpr ⟨_, rfl, z⟩] at h
        cases h
      refine lc_useD (fun _ => false) (fun d => d) (by simp) (by simp) (fun g hg acc P hy hn => ?_) ?_
      · walk_at "d"
        simp only [List.mem_cons, List.not_mem_nil, or_false] at hg
        have key : isStrD g = false ∨ ∃ t : Wd, g = sD t ∧ t.length ≤ 500 ∧ ¬ WL (spW sepW t) := by
          rcases hg with rfl | rfl | rfl | rfl | rfl | rfl | rfl | rfl | rfl | rfl | rfl | rfl | rfl | rfl | rfl | rfl | rfl | rfl | rfl | rfl | rfl | rfl
          all_goals first
            | exact .inl rfl
            | exact .inr ⟨_, rfl, by decide, nol _ (by decide +kernel)⟩
            | exact .inr ⟨_, rfl, by rw [List.length_append, List.length_singleton]; omega, hsb⟩
            | exact .inr ⟨_, rfl, by rw [List.length_cons]; omega, hsf⟩
        rcases key with h | ⟨t, rfl, hl, h⟩
        · exact out_bad hnd h (raises_text (same_step (okE 3) (by omega) (hn rfl)))
        · exact out_text hnd hl (fun z => absurd z h) fun _ => raises_text (same_step (okE 3) (by omega) (hn rfl))
      rw [List.filter_eq_nil_iff.mpr (by simp)]
      walk_at "d"
      refine same_step okLst0 (by omega) ?_
      refine out_list hnd ?_ (by decide +kernel) (raises_list (same_step (okE 1) (by omega) ?_))
      · intro l e
        cases e
        refine ⟨by simp, fun z hz => ?_⟩
        simp only [List.mem_cons, List.not_mem_nil, or_false] at hz
        rcases hz with e | e
        all_goals cases e; decide
      refine out_list hnd ?_ (by decide +kernel) (raises_list (same_step (okE 1) (by omega) ?_))
      · intro l e
        cases e
        exact ⟨by simp, fun z hz => by cases hz⟩
      have ec : cut [97, 44, 32, 98, 44, 32, 99, 44, 32, 100, 44, 32, 97, 97, 97, 97, 97, 97] none (some 10) = [97, 44, 32, 98, 44, 32, 99, 44, 32, 100] := by
        rw [cut_to _ _ (by omega)]
        rfl
      rw [ec]
      have es : spW sepW [97, 44, 32, 98, 44, 32, 99, 44, 32, 100] = [[97], [98], [99], [100]] := by decide +kernel
      have w4 : WL [[97], [98], [99], [100]] := wl_of (by decide +kernel)
      refine ⟨_, rfl, fun z e => by cases e; decide, fun t e hw4 => ?_, fun h => h _ rfl (by rw [es]; exact w4)⟩
      cases Tw_inj (PyData.str.inj e)
      rw [es]
      have ok4 : OkD (.tuple ([[97], [98], [99], [100]].map sD)) 1 := okD_txT fun w hw => (w4.2.2.1 w hw).2.2
      refine ⟨ok4.shaped, ok4.shaped, ?_⟩
      rw [if_pos (show PyData.eqv (.tuple ([[97], [98], [99], [100]].map sD)) (.tuple [.str (T [97]), .str (T [98]), .str (T [99]), .str (T [100])]) = true from ok4.eqv)]
      have w1 : WL [[97, 98, 99, 100]] := wl_of (by decide +kernel)
      refine ⟨_, rfl, ?_, fun ws2 e hw2 => ?_, fun h => ?_⟩
      · intro l e
        cases e
        refine ⟨by simp, fun z hz => ?_⟩
        simp only [List.mem_cons, List.not_mem_nil, or_false] at hz
        cases hz
        decide
      · have e2 : [[97, 98, 99, 100]] = ws2 := map_sD_inj (PyData.tuple.inj e)
        subst e2
        walk_at "d"
        exact hQ
      · have := isLB_iff.mpr ⟨[[97, 98, 99, 100]], rfl, w1⟩
        rw [show isLB (.tuple ([[97, 98, 99, 100]].map sD)) = false from h] at this
        cases this
  · rw [isLB_iff.mpr ⟨ws, rfl, hw⟩] at h
    cases h
end
theorem all_mk {l : PySem.W.OpenLaw} {w : World} {K : PySem.W.Frag} {h : Heap} {mg : Str → Option Value} {fa f1 f2 f3 f4 f5 f6 f7 f8 f9 f10 f11 f12 f13 f14 f15 f16 c_word c_list c_number c_text c_one c_already c_there c_many c_doubtful c_undo c_slip : Addr} (X : K.In h) (G : h.Ns mainGlobals mg) (hfa : mg "law" = some (.ref fa))
    {od1 an1 od2 an2 od3 an3 od4 an4 od5 an5 od6 an6 od7 an7 od8 an8 od9 an9 od10 an10 od11 an11 od12 an12 od13 an13 od14 an14 od15 an15 od16 an16 : Option Addr} {sl1 sl2 sl3 sl4 sl5 sl6 sl7 sl8 sl9 sl10 sl11 sl12 sl13 sl14 sl15 sl16 : Array (Option Value)} {oc1 kV1 dc1 pm1 cd1 ct1 oc2 kV2 dc2 pm2 cd2 ct2 oc3 kV3 dc3 pm3 cd3 ct3 oc4 kV4 dc4 pm4 cd4 ct4 oc5 kV5 dc5 pm5 cd5 ct5 oc6 kV6 dc6 pm6 cd6 ct6 oc7 kV7 dc7 pm7 cd7 ct7 oc8 kV8 dc8 pm8 cd8 ct8 oc9 kV9 dc9 pm9 cd9 ct9 oc10 kV10 dc10 pm10 cd10 ct10 oc11 kV11 dc11 pm11 cd11 ct11 oc12 kV12 dc12 pm12 cd12 ct12 oc13 kV13 dc13 pm13 cd13 ct13 oc14 kV14 dc14 pm14 cd14 ct14 oc15 kV15 dc15 pm15 cd15 ct15 oc16 kV16 dc16 pm16 cd16 ct16 : Value} {t_LETTERS : Tok}
    (a1 : PySem.W.nsIn K mainGlobals "_law_town" = some (some (.ref f1))) (l1 : K.lookup f1 = some ⟨oc1, od1, .func (PySem.W.fnOf "_law_town" "_law_town" (defArgs s__law_town) (defBody s__law_town) (defScope s__law_town) .none kV1 dc1 pm1 an1 cd1 ct1), sl1⟩) (c1 : PySem.W.codeIn K cd1 "_law_town" = true) (k1 : PySem.W.keepIn K (.ref f1) = true)
    (a2 : PySem.W.nsIn K mainGlobals "_law_draw" = some (some (.ref f2))) (l2 : K.lookup f2 = some ⟨oc2, od2, .func (PySem.W.fnOf "_law_draw" "_law_draw" (defArgs s__law_draw) (defBody s__law_draw) (defScope s__law_draw) .none kV2 dc2 pm2 an2 cd2 ct2), sl2⟩) (c2 : PySem.W.codeIn K cd2 "_law_draw" = true) (k2 : PySem.W.keepIn K (.ref f2) = true)
    (a3 : PySem.W.nsIn K mainGlobals "_law_pick" = some (some (.ref f3))) (l3 : K.lookup f3 = some ⟨oc3, od3, .func (PySem.W.fnOf "_law_pick" "_law_pick" (defArgs s__law_pick) (defBody s__law_pick) (defScope s__law_pick) .none kV3 dc3 pm3 an3 cd3 ct3), sl3⟩) (c3 : PySem.W.codeIn K cd3 "_law_pick" = true) (k3 : PySem.W.keepIn K (.ref f3) = true)
    (a4 : PySem.W.nsIn K mainGlobals "_law_letters" = some (some (.ref f4))) (l4 : K.lookup f4 = some ⟨oc4, od4, .func (PySem.W.fnOf "_law_letters" "_law_letters" (defArgs s__law_letters) (defBody s__law_letters) (defScope s__law_letters) .none kV4 dc4 pm4 an4 cd4 ct4), sl4⟩) (c4 : PySem.W.codeIn K cd4 "_law_letters" = true) (k4 : PySem.W.keepIn K (.ref f4) = true)
    (a5 : PySem.W.nsIn K mainGlobals "_law_slip" = some (some (.ref f5))) (l5 : K.lookup f5 = some ⟨oc5, od5, .func (PySem.W.fnOf "_law_slip" "_law_slip" (defArgs s__law_slip) (defBody s__law_slip) (defScope s__law_slip) .none kV5 dc5 pm5 an5 cd5 ct5), sl5⟩) (c5 : PySem.W.codeIn K cd5 "_law_slip" = true) (k5 : PySem.W.keepIn K (.ref f5) = true)
    (a6 : PySem.W.nsIn K mainGlobals "_law_list" = some (some (.ref f6))) (l6 : K.lookup f6 = some ⟨oc6, od6, .func (PySem.W.fnOf "_law_list" "_law_list" (defArgs s__law_list) (defBody s__law_list) (defScope s__law_list) .none kV6 dc6 pm6 an6 cd6 ct6), sl6⟩) (c6 : PySem.W.codeIn K cd6 "_law_list" = true) (k6 : PySem.W.keepIn K (.ref f6) = true)
    (a7 : PySem.W.nsIn K mainGlobals "_law_name" = some (some (.ref f7))) (l7 : K.lookup f7 = some ⟨oc7, od7, .func (PySem.W.fnOf "_law_name" "_law_name" (defArgs s__law_name) (defBody s__law_name) (defScope s__law_name) .none kV7 dc7 pm7 an7 cd7 ct7), sl7⟩) (c7 : PySem.W.codeIn K cd7 "_law_name" = true) (k7 : PySem.W.keepIn K (.ref f7) = true)
    (a8 : PySem.W.nsIn K mainGlobals "are_letters" = some (some (.ref f8))) (l8 : K.lookup f8 = some ⟨oc8, od8, .func (PySem.W.fnOf "are_letters" "are_letters" (defArgs s_are_letters) (defBody s_are_letters) (defScope s_are_letters) .none kV8 dc8 pm8 an8 cd8 ct8), sl8⟩) (c8 : PySem.W.codeIn K cd8 "are_letters" = true) (k8 : PySem.W.keepIn K (.ref f8) = true)
    (a9 : PySem.W.nsIn K mainGlobals "is_list" = some (some (.ref f9))) (l9 : K.lookup f9 = some ⟨oc9, od9, .func (PySem.W.fnOf "is_list" "is_list" (defArgs s_is_list) (defBody s_is_list) (defScope s_is_list) .none kV9 dc9 pm9 an9 cd9 ct9), sl9⟩) (c9 : PySem.W.codeIn K cd9 "is_list" = true) (k9 : PySem.W.keepIn K (.ref f9) = true)
    (a10 : PySem.W.nsIn K mainGlobals "parse_list" = some (some (.ref f10))) (l10 : K.lookup f10 = some ⟨oc10, od10, .func (PySem.W.fnOf "parse_list" "parse_list" (defArgs s_parse_list) (defBody s_parse_list) (defScope s_parse_list) .none kV10 dc10 pm10 an10 cd10 ct10), sl10⟩) (c10 : PySem.W.codeIn K cd10 "parse_list" = true) (k10 : PySem.W.keepIn K (.ref f10) = true)
    (a11 : PySem.W.nsIn K mainGlobals "check_list" = some (some (.ref f11))) (l11 : K.lookup f11 = some ⟨oc11, od11, .func (PySem.W.fnOf "check_list" "check_list" (defArgs s_check_list) (defBody s_check_list) (defScope s_check_list) .none kV11 dc11 pm11 an11 cd11 ct11), sl11⟩) (c11 : PySem.W.codeIn K cd11 "check_list" = true) (k11 : PySem.W.keepIn K (.ref f11) = true)
    (a12 : PySem.W.nsIn K mainGlobals "format_list" = some (some (.ref f12))) (l12 : K.lookup f12 = some ⟨oc12, od12, .func (PySem.W.fnOf "format_list" "format_list" (defArgs s_format_list) (defBody s_format_list) (defScope s_format_list) .none kV12 dc12 pm12 an12 cd12 ct12), sl12⟩) (c12 : PySem.W.codeIn K cd12 "format_list" = true) (k12 : PySem.W.keepIn K (.ref f12) = true)
    (a13 : PySem.W.nsIn K mainGlobals "_law_call" = some (some (.ref f13))) (l13 : K.lookup f13 = some ⟨oc13, od13, .func (PySem.W.fnOf "_law_call" "_law_call" (defArgs s__law_call) (defBody s__law_call) (defScope s__law_call) .none kV13 dc13 pm13 an13 cd13 ct13), sl13⟩) (c13 : PySem.W.codeIn K cd13 "_law_call" = true) (k13 : PySem.W.keepIn K (.ref f13) = true)
    (a14 : PySem.W.nsIn K mainGlobals "_law_outcome" = some (some (.ref f14))) (l14 : K.lookup f14 = some ⟨oc14, od14, .func (PySem.W.fnOf "_law_outcome" "_law_outcome" (defArgs s__law_outcome) (defBody s__law_outcome) (defScope s__law_outcome) .none kV14 dc14 pm14 an14 cd14 ct14), sl14⟩) (c14 : PySem.W.codeIn K cd14 "_law_outcome" = true) (k14 : PySem.W.keepIn K (.ref f14) = true)
    (a15 : PySem.W.nsIn K mainGlobals "_law_raises" = some (some (.ref f15))) (l15 : K.lookup f15 = some ⟨oc15, od15, .func (PySem.W.fnOf "_law_raises" "_law_raises" (defArgs s__law_raises) (defBody s__law_raises) (defScope s__law_raises) .none kV15 dc15 pm15 an15 cd15 ct15), sl15⟩) (c15 : PySem.W.codeIn K cd15 "_law_raises" = true) (k15 : PySem.W.keepIn K (.ref f15) = true)
    (a16 : PySem.W.nsIn K mainGlobals "law" = some (some (.ref f16))) (l16 : K.lookup f16 = some ⟨oc16, od16, .func (PySem.W.fnOf "law" "law" (defArgs s_law) (defBody s_law) (defScope s_law) .none kV16 dc16 pm16 an16 cd16 ct16), sl16⟩) (c16 : PySem.W.codeIn K cd16 "law" = true) (k16 : PySem.W.keepIn K (.ref f16) = true)
    (z_list : PySem.W.nsIn K mainGlobals "list" = some none)
    (z_len : PySem.W.nsIn K mainGlobals "len" = some none)
    (z_range : PySem.W.nsIn K mainGlobals "range" = some none)
    (z_tuple : PySem.W.nsIn K mainGlobals "tuple" = some none)
    (z_sorted : PySem.W.nsIn K mainGlobals "sorted" = some none)
    (z_isinstance : PySem.W.nsIn K mainGlobals "isinstance" = some none)
    (z_ValueError : PySem.W.nsIn K mainGlobals "ValueError" = some none)
    (z_all : PySem.W.nsIn K mainGlobals "all" = some none)
    (z_str : PySem.W.nsIn K mainGlobals "str" = some none)
    (z_set : PySem.W.nsIn K mainGlobals "set" = some none)
    (y_LETTERS : PySem.W.nsIn K mainGlobals "LETTERS" = some (some (.str (T [97, 98, 99, 100]) t_LETTERS)))
    (n_word : PySem.W.nsIn K mainGlobals "InvalidWord" = some (some (.ref c_word)))
    (n_list : PySem.W.nsIn K mainGlobals "InvalidList" = some (some (.ref c_list)))
    (n_number : PySem.W.nsIn K mainGlobals "InvalidNumber" = some (some (.ref c_number)))
    (n_text : PySem.W.nsIn K mainGlobals "InvalidText" = some (some (.ref c_text)))
    (n_one : PySem.W.nsIn K mainGlobals "OneWord" = some (some (.ref c_one)))
    (n_already : PySem.W.nsIn K mainGlobals "AlreadyThere" = some (some (.ref c_already)))
    (n_there : PySem.W.nsIn K mainGlobals "NotThere" = some (some (.ref c_there)))
    (n_many : PySem.W.nsIn K mainGlobals "TooMany" = some (some (.ref c_many)))
    (n_doubtful : PySem.W.nsIn K mainGlobals "Doubtful" = some (some (.ref c_doubtful)))
    (n_undo : PySem.W.nsIn K mainGlobals "NothingToUndo" = some (some (.ref c_undo)))
    (n_slip : PySem.W.nsIn K mainGlobals "SlipError" = some (some (.ref c_slip)))
    (hB : csB K ⟨c_word, c_list, c_number, c_text, c_one, c_already, c_there, c_many, c_doubtful, c_undo, c_slip⟩ = true)
    : ∃ fd : FuncData, (∀ (s : Shared) (v : Value), BindsTo s fd ⟨[v], []⟩ [("script", v)]) ∧ ∀ base : Heap, K.In base → base.Ns mainGlobals mg → FnOk l.prog w K mg base CX0 7 fa fd ["script"] (spD K 1 F_law) := by
  have e := hfa.symm.trans (PySem.W.mg_of X G a16)
  cases e
  have F1 := fun_mk (st := s__law_town) l1 c1 k1
  have F2 := fun_mk (st := s__law_draw) l2 c2 k2
  have F3 := fun_mk (st := s__law_pick) l3 c3 k3
  have F4 := fun_mk (st := s__law_letters) l4 c4 k4
  have F5 := fun_mk (st := s__law_slip) l5 c5 k5
  have F6 := fun_mk (st := s__law_list) l6 c6 k6
  have F7 := fun_mk (st := s__law_name) l7 c7 k7
  have F8 := fun_mk (st := s_are_letters) l8 c8 k8
  have F9 := fun_mk (st := s_is_list) l9 c9 k9
  have F10 := fun_mk (st := s_parse_list) l10 c10 k10
  have F11 := fun_mk (st := s_check_list) l11 c11 k11
  have F12 := fun_mk (st := s_format_list) l12 c12 k12
  have F13 := fun_mk (st := s__law_call) l13 c13 k13
  have F14 := fun_mk (st := s__law_outcome) l14 c14 k14
  have F15 := fun_mk (st := s__law_raises) l15 c15 k15
  have F16 := fun_mk (st := s_law) l16 c16 k16
  have m_list := PySem.W.mg_none_of X G z_list
  have m_len := PySem.W.mg_none_of X G z_len
  have m_range := PySem.W.mg_none_of X G z_range
  have m_tuple := PySem.W.mg_none_of X G z_tuple
  have m_sorted := PySem.W.mg_none_of X G z_sorted
  have m_isinstance := PySem.W.mg_none_of X G z_isinstance
  have m_ValueError := PySem.W.mg_none_of X G z_ValueError
  have m_all := PySem.W.mg_none_of X G z_all
  have m_str := PySem.W.mg_none_of X G z_str
  have m_set := PySem.W.mg_none_of X G z_set
  have g_LETTERS := PySem.W.mg_of X G y_LETTERS
  have kc : CsOk K mg ⟨c_word, c_list, c_number, c_text, c_one, c_already, c_there, c_many, c_doubtful, c_undo, c_slip⟩ := ⟨hB, PySem.W.mg_of X G n_word, PySem.W.mg_of X G n_list, PySem.W.mg_of X G n_number, PySem.W.mg_of X G n_text, PySem.W.mg_of X G n_one, PySem.W.mg_of X G n_already, PySem.W.mg_of X G n_there, PySem.W.mg_of X G n_many, PySem.W.mg_of X G n_doubtful, PySem.W.mg_of X G n_undo, PySem.W.mg_of X G n_slip⟩
  have b1 := F1.binds (ps := ["script"]) fun _ _ _ _ _ _ us hl => match us, hl with | [_], _ => rfl
  have b2 := F2.binds (ps := ["script", "town", "limit"]) fun _ _ _ _ _ _ us hl => match us, hl with | [_, _, _], _ => rfl
  have b3 := F3.binds (ps := ["script", "town", "choices"]) fun _ _ _ _ _ _ us hl => match us, hl with | [_, _, _], _ => rfl
  have b4 := F4.binds (ps := ["script", "town", "many"]) fun _ _ _ _ _ _ us hl => match us, hl with | [_, _, _], _ => rfl
  have b5 := F5.binds (ps := ["script", "town", "text"]) fun _ _ _ _ _ _ us hl => match us, hl with | [_, _, _], _ => rfl
  have b6 := F6.binds (ps := ["script", "town", "many", "most"]) fun _ _ _ _ _ _ us hl => match us, hl with | [_, _, _, _], _ => rfl
  have b7 := F7.binds (ps := ["caught"]) fun _ _ _ _ _ _ us hl => match us, hl with | [_], _ => rfl
  have b8 := F8.binds (ps := ["value", "low", "high"]) fun _ _ _ _ _ _ us hl => match us, hl with | [_, _, _], _ => rfl
  have b9 := F9.binds (ps := ["value"]) fun _ _ _ _ _ _ us hl => match us, hl with | [_], _ => rfl
  have b10 := F10.binds (ps := ["text"]) fun _ _ _ _ _ _ us hl => match us, hl with | [_], _ => rfl
  have b11 := F11.binds (ps := ["value"]) fun _ _ _ _ _ _ us hl => match us, hl with | [_], _ => rfl
  have b12 := F12.binds (ps := ["words"]) fun _ _ _ _ _ _ us hl => match us, hl with | [_], _ => rfl
  have b13 := F13.binds (ps := ["branch", "arguments"]) fun _ _ _ _ _ _ us hl => match us, hl with | [_, _], _ => rfl
  have b14 := F14.binds (ps := ["branch", "arguments"]) fun _ _ _ _ _ _ us hl => match us, hl with | [_, _], _ => rfl
  have b15 := F15.binds (ps := ["name"]) fun _ _ _ _ _ _ us hl => match us, hl with | [_], _ => rfl
  refine ⟨PySem.W.fnOf "law" "law" (defArgs s_law) (defBody s_law) (defScope s_law) .none kV16 dc16 pm16 an16 cd16 ct16, fun s v => ?B, fun base _ _ => ?C⟩
  case C =>
    have C1 := Cl.mk' (P := l.prog) (w := w) (base := base) F1 (PySem.W.mg_of X G a1) b1 (ok__law_town F1 m_list)
    have C2 := Cl.mk' (P := l.prog) (w := w) (base := base) F2 (PySem.W.mg_of X G a2) b2 (ok__law_draw F2 m_len)
    have C3 := Cl.mk' (P := l.prog) (w := w) (base := base) F3 (PySem.W.mg_of X G a3) b3 (ok__law_pick F3 m_len C2)
    have C4 := Cl.mk' (P := l.prog) (w := w) (base := base) F4 (PySem.W.mg_of X G a4) b4 (ok__law_letters F4 m_list m_range C3)
    have C5 := Cl.mk' (P := l.prog) (w := w) (base := base) F5 (PySem.W.mg_of X G a5) b5 (ok__law_slip F5 m_len C2 C4)
    have C6 := Cl.mk' (P := l.prog) (w := w) (base := base) F6 (PySem.W.mg_of X G a6) b6 (ok__law_list F6 m_range m_len m_tuple m_sorted C4 C2 C5 C3)
    have C7 := Cl.mk' (P := l.prog) (w := w) (base := base) F7 (PySem.W.mg_of X G a7) b7 (ok__law_name F7 m_isinstance m_ValueError kc)
    have C8 := Cl.mk' (P := l.prog) (w := w) (base := base) F8 (PySem.W.mg_of X G a8) b8 (ok_are_letters F8 m_all m_len m_isinstance m_str g_LETTERS)
    have C9 := Cl.mk' (P := l.prog) (w := w) (base := base) F9 (PySem.W.mg_of X G a9) b9 (ok_is_list F9 m_all m_len m_isinstance m_tuple m_range C8)
    have C10 := ClX.mk' (P := l.prog) (w := w) (base := base) F10 (PySem.W.mg_of X G a10) b10 (ok_parse_list F10 m_tuple m_isinstance m_str kc C9)
    have C11 := ClX.mk' (P := l.prog) (w := w) (base := base) F11 (PySem.W.mg_of X G a11) b11 (ok_check_list F11 kc C9)
    have C12 := ClX.mk' (P := l.prog) (w := w) (base := base) F12 (PySem.W.mg_of X G a12) b12 (ok_format_list F12 kc C11)
    have C13 := ClX.mk' (P := l.prog) (w := w) (base := base) F13 (PySem.W.mg_of X G a13) b13 (ok__law_call F13 kc C10 C12)
    have C14 := Cl.mk' (P := l.prog) (w := w) (base := base) F14 (PySem.W.mg_of X G a14) b14 (ok__law_outcome F14 kc C13 C7)
    have C15 := Cl.mk' (P := l.prog) (w := w) (base := base) F15 (PySem.W.mg_of X G a15) b15 (ok__law_raises F15)
    exact ok_law F16 m_range m_len m_list m_sorted m_set m_tuple kc C1 C6 C14 (C12.pure monox_format_list) C2 C3 C15 (C10.pure monox_parse_list)
  case B => exact .of_eq rfl
end SWk
open PySem PySem.W PyProof.Rows
set_option maxHeartbeats 0 in
theorem PySem.Challenge.cw_slipwords_k72_whole_texts_holds : PySem.Challenge.rw_slipwords_k72_whole_texts.Holds := by
  w_on; o_law; k_head; (case hw => w_witness2)
  k_fill
  refine L2.walk_ofB (l := PySem.Challenge.rw_slipwords_k72_whole_texts) (n := 63) (k := 7) (x := "script") (CX := fun _ => L2.CX0) (sp := fun w => DL.spD _ 1 SWk.F_law) rfl (by decide) rfl ⟨rfl, by decide, by decide⟩ (fun w h Y => PySem.W.kIn_of Y) ?F (fun _ _ a ns hl _ hO hS => SWk.law_in (by kernel_rfl) hl hO hS) (fun _ _ _ _ _ h => h)
  case F =>
    intro w mg fa h KX G hmg
    refine' SWk.all_mk KX G hmg ?a1 ?l1 ?c1 ?k1 ?a2 ?l2 ?c2 ?k2 ?a3 ?l3 ?c3 ?k3 ?a4 ?l4 ?c4 ?k4 ?a5 ?l5 ?c5 ?k5 ?a6 ?l6 ?c6 ?k6 ?a7 ?l7 ?c7 ?k7 ?a8 ?l8 ?c8 ?k8 ?a9 ?l9 ?c9 ?k9 ?a10 ?l10 ?c10 ?k10 ?a11 ?l11 ?c11 ?k11 ?a12 ?l12 ?c12 ?k12 ?a13 ?l13 ?c13 ?k13 ?a14 ?l14 ?c14 ?k14 ?a15 ?l15 ?c15 ?k15 ?a16 ?l16 ?c16 ?k16 ?z_list ?z_len ?z_range ?z_tuple ?z_sorted ?z_isinstance ?z_ValueError ?z_all ?z_str ?z_set ?y_LETTERS ?n_word ?n_list ?n_number ?n_text ?n_one ?n_already ?n_there ?n_many ?n_doubtful ?n_undo ?n_slip ?hB
    case a1 => k_is
    case l1 => k_is
    case c1 => k_is
    case k1 => k_is
    case a2 => k_is
    case l2 => k_is
    case c2 => k_is
    case k2 => k_is
    case a3 => k_is
    case l3 => k_is
    case c3 => k_is
    case k3 => k_is
    case a4 => k_is
    case l4 => k_is
    case c4 => k_is
    case k4 => k_is
    case a5 => k_is
    case l5 => k_is
    case c5 => k_is
    case k5 => k_is
    case a6 => k_is
    case l6 => k_is
    case c6 => k_is
    case k6 => k_is
    case a7 => k_is
    case l7 => k_is
    case c7 => k_is
    case k7 => k_is
    case a8 => k_is
    case l8 => k_is
    case c8 => k_is
    case k8 => k_is
    case a9 => k_is
    case l9 => k_is
    case c9 => k_is
    case k9 => k_is
    case a10 => k_is
    case l10 => k_is
    case c10 => k_is
    case k10 => k_is
    case a11 => k_is
    case l11 => k_is
    case c11 => k_is
    case k11 => k_is
    case a12 => k_is
    case l12 => k_is
    case c12 => k_is
    case k12 => k_is
    case a13 => k_is
    case l13 => k_is
    case c13 => k_is
    case k13 => k_is
    case a14 => k_is
    case l14 => k_is
    case c14 => k_is
    case k14 => k_is
    case a15 => k_is
    case l15 => k_is
    case c15 => k_is
    case k15 => k_is
    case a16 => k_is
    case l16 => k_is
    case c16 => k_is
    case k16 => k_is
    case z_list => k_is
    case z_len => k_is
    case z_range => k_is
    case z_tuple => k_is
    case z_sorted => k_is
    case z_isinstance => k_is
    case z_ValueError => k_is
    case z_all => k_is
    case z_str => k_is
    case z_set => k_is
    case y_LETTERS => k_is
    case n_word => k_is
    case n_list => k_is
    case n_number => k_is
    case n_text => k_is
    case n_one => k_is
    case n_already => k_is
    case n_there => k_is
    case n_many => k_is
    case n_doubtful => k_is
    case n_undo => k_is
    case n_slip => k_is
    case hB => first | k_is | kernel_rfl | decide +kernel
