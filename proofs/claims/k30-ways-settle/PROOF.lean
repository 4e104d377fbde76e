import PyProof.Rows.All
import Wide.All
import OpenK.AllK
import Wide.FinOn
import HandS.ForMost
import HandS.Gcd
import HandS.Codes
import HandS.SetKeys
import HandS.DictComp
import HandS.IsInst
import HandS.SortInts
import HandS.SortRule
import HandS.Conv
import HandS.Flow
import HandS.Small
import HandS.More
import HandS.Sort
import HandS.Walk
import PySem.Challenge.RW_papersat_k30_ways_settle
set_option Elab.async false
set_option linter.all false
set_option maxRecDepth 100000
set_option maxHeartbeats 4000000
namespace WM
/-! limits, heights, rings: the mathematics of settling, with no program in sight -/
structure Lim where
  x : Int
  y : Int
  k : Int
  l : Int

def Fits (h : Int → Int) (t : Lim) : Prop := h t.x - h t.y ≤ t.k

structure Ring (ts : List Lim) : Prop where
  ne : ts ≠ []
  rot : ts.map (·.y) = (ts.map (·.x)).tail ++ (ts.map (·.x)).take 1
  nd : (ts.map (·.x)).Nodup
  sum : (ts.map (·.k)).sum < 0

theorem sum_fits {h : Int → Int} : ∀ ts : List Lim, (∀ t ∈ ts, Fits h t) → ((ts.map (·.x)).map h).sum - ((ts.map (·.y)).map h).sum ≤ (ts.map (·.k)).sum
  | [], _ => by simp
  | t :: r, hf => by
    have h1 := sum_fits r (fun u hu => hf u (List.mem_cons_of_mem _ hu))
    have h2 := hf t List.mem_cons_self
    unfold Fits at h2
    simp only [List.map_cons, List.sum_cons]
    omega

/-- a ring cannot hold -/
theorem Ring.no {ts : List Lim} (R : Ring ts) {h : Int → Int} (hf : ∀ t ∈ ts, Fits h t) : False := by
  have h1 := sum_fits ts hf
  have h2 := R.sum
  have h3 : ((ts.map (·.x)).map h).sum = ((ts.map (·.y)).map h).sum := by
    rw [R.rot]
    cases hx : ts.map (·.x) with
    | nil => simp
    | cons a r => simp [List.sum_append]; omega
  omega

theorem Ring.chain {ts : List Lim} (R : Ring ts) {i : Nat} {t : Lim} (hi : ts[i]? = some t) : ∃ u, ts[(i + 1) % ts.length]? = some u ∧ t.y = u.x := by
  have hl : i < ts.length := (List.getElem?_eq_some_iff.mp hi).1
  have e : (ts.map (·.y))[i]? = some t.y := by rw [List.getElem?_map, hi]; rfl
  rw [R.rot] at e
  obtain ⟨a, r, rfl⟩ : ∃ a r, ts = a :: r := by
    cases ts with
    | nil => exact absurd rfl R.ne
    | cons a r => exact ⟨a, r, rfl⟩
  simp only [List.map_cons, List.tail_cons, List.take_succ_cons, List.take_zero] at e
  by_cases h : i + 1 < (a :: r).length
  · rw [Nat.mod_eq_of_lt h]
    rw [List.getElem?_append_left (by simpa using h), List.getElem?_map] at e
    cases e2 : r[i]? with
    | none => rw [e2] at e; cases e
    | some u =>
      rw [e2] at e
      refine ⟨u, by simpa using e2, ?_⟩
      simpa using e.symm
  · have h4 : i + 1 = (a :: r).length := by simp at h hl ⊢; omega
    rw [← h4, Nat.mod_self]
    have h5 : i = (r.map (·.x)).length := by simp at h4 ⊢; omega
    rw [h5, List.getElem?_append_right (Nat.le_refl _)] at e
    refine ⟨a, rfl, ?_⟩
    simpa using e.symm

/-! ### one more limit -/
abbrev Ent := Int × Int × Nat

inductive Back (L : Nat → Lim) (S : Nat) (ca : Int → Option Nat) : Int → List Nat → Prop where
  | base : ca (L S).x = some S → Back L S ca (L S).x [S]
  | step {n : Nat} {ns : List Nat} : ca (L n).x = some n → n < S → Back L S ca (L n).y ns → Back L S ca (L n).x (n :: ns)

theorem Back.head {L : Nat → Lim} {S : Nat} {ca : Int → Option Nat} {p : Int} {ns : List Nat} (b : Back L S ca p ns) :
    ∃ r, (ns.map L).map (·.x) = p :: r ∧ (ns.map L).map (·.y) = r ++ [(L S).y] := by
  induction b with
  | base _ => exact ⟨[], rfl, rfl⟩
  | @step n ns _ _ b ih =>
    obtain ⟨r, h1, h2⟩ := ih
    refine ⟨(L n).y :: r, ?_, ?_⟩
    · simp only [List.map_cons] at h1 ⊢; rw [h1]
    · simp only [List.map_cons] at h2 ⊢; rw [h2]; rfl

theorem Back.mono {L : Nat → Lim} {S : Nat} {ca ca' : Int → Option Nat} {p : Int} {ns : List Nat} (b : Back L S ca p ns) (hc : ∀ q ∈ (ns.map L).map (·.x), ca' q = ca q) : Back L S ca' p ns := by
  induction b with
  | base e => exact .base (by rw [hc _ (by simp)]; exact e)
  | @step n ns e lt b ih => exact .step (by rw [hc _ (by simp)]; exact e) lt (ih fun q hq => hc q (by simp only [List.map_cons]; exact List.mem_cons_of_mem _ hq))

theorem Back.le {L : Nat → Lim} {S : Nat} {ca : Int → Option Nat} {p : Int} {ns : List Nat} (b : Back L S ca p ns) : ∀ n ∈ ns, n ≤ S := by
  induction b with
  | base _ => intro n hn; simp at hn; omega
  | step _ lt _ ih => intro n hn; rcases List.mem_cons.mp hn with z | hn; (· rw [z]; exact Nat.le_of_lt lt); exact ih n hn

/-- where the walk along the causes stands: it ends at S -/
theorem Back.cases {L : Nat → Lim} {S : Nat} {ca : Int → Option Nat} {p : Int} {ns : List Nat} (b : Back L S ca p ns) :
    ∃ n r, ns = n :: r ∧ ca p = some n ∧ ((n = S ∧ r = []) ∨ (n < S ∧ Back L S ca (L n).y r)) := by
  cases b with
  | base e => exact ⟨S, [], rfl, e, .inl ⟨rfl, rfl⟩⟩
  | @step n ns e lt b => exact ⟨n, ns, rfl, e, .inr ⟨lt, b⟩⟩

def Src (L : Nat → Lim) (S : Nat) (h : Int → Int) (lo : Int → Option Int) (e : Ent) : Prop :=
  (e.2.2 = S ∧ (L S).x = e.2.1 ∧ e.1 = h (L S).y + (L S).k - h e.2.1) ∨ (e.2.2 < S ∧ (L e.2.2).x = e.2.1 ∧ ∃ b, lo (L e.2.2).y = some b ∧ e.1 = b + (L e.2.2).k - h e.2.1)

structure St (L : Nat → Lim) (S : Nat) (h : Int → Int) (q : List Ent) (ca : Int → Option Nat) (lo : Int → Option Int) (od : List Int) : Prop where
  fall : h (L S).y + (L S).k < h (L S).x
  held : ∀ n, n < S → Fits h (L n)
  lod : ∀ p, p ∈ od ↔ ∃ a, lo p = some a
  nod : od.Nodup
  ny : (L S).y ∉ od
  neg : ∀ p a, lo p = some a → a < h p
  ent : ∀ e ∈ q, e.1 < 0 ∧ Src L S h lo e
  mono : ∀ e ∈ q, ∀ p a, lo p = some a → a - h p ≤ e.1
  cl : ∀ n, n < S → ∀ b, lo (L n).y = some b → (∃ a, lo (L n).x = some a ∧ a ≤ b + (L n).k) ∨ (lo (L n).x = none ∧ (h (L n).x ≤ b + (L n).k ∨ (b + (L n).k - h (L n).x, (L n).x, n) ∈ q))
  fst : (od = [] ∧ ∃ e ∈ q, e.2.1 = (L S).x) ∨ lo (L S).x = some (h (L S).y + (L S).k)
  fst0 : od = [] → ∀ e ∈ q, e = (h (L S).y + (L S).k - h (L S).x, (L S).x, S)
  back : ∀ p a, lo p = some a → ∃ ns, Back L S ca p ns ∧ (∀ z ∈ (ns.map L).map (·.x), z ∈ od) ∧ ((ns.map L).map (·.x)).Nodup ∧ ((ns.map L).map (·.k)).sum = a - h (L S).y

theorem St.start {L : Nat → Lim} {S : Nat} {h : Int → Int} (hf : h (L S).y + (L S).k < h (L S).x) (held : ∀ n, n < S → Fits h (L n)) :
    St L S h [(-(h (L S).x - h (L S).y - (L S).k), (L S).x, S)] (fun _ => none) (fun _ => none) [] where
  fall := hf
  held := held
  lod := fun p => by simp
  nod := List.nodup_nil
  ny := by simp
  neg := fun p a e => by cases e
  ent := fun e he => by
    simp at he; subst he
    refine ⟨?_, .inl ⟨rfl, rfl, ?_⟩⟩
    · show -(h (L S).x - h (L S).y - (L S).k) < 0
      omega
    · show -(h (L S).x - h (L S).y - (L S).k) = h (L S).y + (L S).k - h (L S).x
      omega
  mono := fun e he p a z => by cases z
  cl := fun n hn b z => by cases z
  fst := .inl ⟨rfl, _, List.mem_singleton.mpr rfl, rfl⟩
  fst0 := fun _ e he => by
    simp at he; subst he
    have : -(h (L S).x - h (L S).y - (L S).k) = h (L S).y + (L S).k - h (L S).x := by omega
    rw [this]
  back := fun p a z => by cases z

/-- an entry of a place that is lowered already: passed over -/
theorem St.skip {L : Nat → Lim} {S : Nat} {h : Int → Int} {q q' : List Ent} {ca lo od} (I : St L S h q ca lo od) {e : Ent} (hp : q.Perm (e :: q')) {a : Int} (hl : lo e.2.1 = some a) : St L S h q' ca lo od := by
  have hs : ∀ e' ∈ q', e' ∈ q := fun e' he => hp.mem_iff.mpr (List.mem_cons_of_mem _ he)
  have hne : od ≠ [] := fun z => by
    have := (I.lod e.2.1).mpr ⟨a, hl⟩
    rw [z] at this; cases this
  refine { I with ent := fun e' he => I.ent e' (hs e' he), mono := fun e' he => I.mono e' (hs e' he), cl := fun n hn b hb => ?_, fst := ?_, fst0 := fun z => absurd z hne }
  · rcases I.cl n hn b hb with h1 | ⟨h1, h2⟩
    · exact .inl h1
    · refine .inr ⟨h1, ?_⟩
      rcases h2 with h2 | h2
      · exact .inl h2
      · refine .inr ?_
        rcases List.mem_cons.mp (hp.mem_iff.mp h2) with h3 | h3
        · rw [← h3] at hl
          simp only at hl
          rw [h1] at hl; cases hl
        · exact h3
  · rcases I.fst with ⟨z, _⟩ | z
    · exact absurd z hne
    · exact .inr z

def put {α : Type} (f : Int → Option α) (p : Int) (v : α) : Int → Option α := fun z => if z = p then some v else f z
theorem put_same {α : Type} {f : Int → Option α} {p : Int} {v : α} : put f p v p = some v := if_pos rfl
theorem put_ne {α : Type} {f : Int → Option α} {p z : Int} {v : α} (h : z ≠ p) : put f p v z = f z := if_neg h

/-- the path that a popped entry tells -/
theorem St.path {L : Nat → Lim} {S : Nat} {h : Int → Int} {q q' : List Ent} {ca lo od} (I : St L S h q ca lo od) {e : Ent} (hp : q.Perm (e :: q')) (hl : lo e.2.1 = none) :
    ∃ ns, Back L S (put ca e.2.1 e.2.2) e.2.1 ns ∧ (∀ z ∈ (ns.map L).map (·.x), z ∈ e.2.1 :: od) ∧ ((ns.map L).map (·.x)).Nodup ∧ ((ns.map L).map (·.k)).sum = h e.2.1 + e.1 - h (L S).y := by
  have he : e ∈ q := hp.mem_iff.mpr List.mem_cons_self
  have hno : e.2.1 ∉ od := fun z => by
    obtain ⟨a, ha⟩ := (I.lod _).mp z
    rw [hl] at ha; cases ha
  rcases (I.ent e he).2 with ⟨h1, h2, h3⟩ | ⟨h1, h2, b, h3, h4⟩
  · refine ⟨[S], ?_, ?_, ?_, ?_⟩
    · rw [← h2, h1]; exact .base put_same
    · intro z hz; simp at hz; rw [hz, h2]; exact List.mem_cons_self
    · simp
    · simp; rw [h3]; omega
  · obtain ⟨ns, b1, b2, b3, b4⟩ := I.back _ b h3
    refine ⟨e.2.2 :: ns, ?_, ?_, ?_, ?_⟩
    · have hb := Back.step (L := L) (S := S) (ca := put ca e.2.1 e.2.2) (n := e.2.2) (ns := ns) (by rw [h2]; exact put_same) h1 (b1.mono fun z hz => put_ne fun w => hno (w ▸ b2 z hz))
      rw [h2] at hb; exact hb
    · intro z hz
      simp only [List.map_cons] at hz
      rcases List.mem_cons.mp hz with hz | hz
      · rw [hz, h2]; exact List.mem_cons_self
      · exact List.mem_cons_of_mem _ (b2 z hz)
    · simp only [List.map_cons]
      refine List.nodup_cons.mpr ⟨fun z => ?_, b3⟩
      rw [h2] at z
      exact hno (b2 _ z)
    · simp only [List.map_cons, List.sum_cons]
      rw [b4, h4]; omega

/-- the second place of the new limit falls: a ring -/
theorem St.ring {L : Nat → Lim} {S : Nat} {h : Int → Int} {q q' : List Ent} {ca lo od} (I : St L S h q ca lo od) {e : Ent} (hp : q.Perm (e :: q')) (hl : lo e.2.1 = none) (hy : e.2.1 = (L S).y) :
    ∃ ns, Back L S (put ca e.2.1 e.2.2) e.2.1 ns ∧ Ring (ns.map L) := by
  obtain ⟨ns, b1, b2, b3, b4⟩ := I.path hp hl
  have he : e ∈ q := hp.mem_iff.mpr List.mem_cons_self
  have hneg := (I.ent e he).1
  obtain ⟨r, h1, h2⟩ := b1.head
  refine ⟨ns, b1, ?_, ?_, b3, ?_⟩
  · intro z; rw [z] at h1; cases h1
  · rw [h1, h2, hy]; rfl
  · rw [b4, hy]; omega

/-- a place is lowered, what must follow is put on the queue -/
theorem St.low {L : Nat → Lim} {S : Nat} {h : Int → Int} {q q' q'' : List Ent} {ca lo od} (I : St L S h q ca lo od) {e : Ent} (hp : q.Perm (e :: q')) (hmin : ∀ e' ∈ q', e.1 ≤ e'.1) (hl : lo e.2.1 = none) (hy : e.2.1 ≠ (L S).y)
    (hq : ∀ e', e' ∈ q'' ↔ e' ∈ q' ∨ ∃ n, n < S ∧ (L n).y = e.2.1 ∧ put lo e.2.1 (h e.2.1 + e.1) (L n).x = none ∧ h e.2.1 + e.1 + (L n).k - h (L n).x < 0 ∧ e' = (h e.2.1 + e.1 + (L n).k - h (L n).x, (L n).x, n)) :
    St L S h q'' (put ca e.2.1 e.2.2) (put lo e.2.1 (h e.2.1 + e.1)) (e.2.1 :: od) := by
  have he : e ∈ q := hp.mem_iff.mpr List.mem_cons_self
  have hs : ∀ e' ∈ q', e' ∈ q := fun e' he => hp.mem_iff.mpr (List.mem_cons_of_mem _ he)
  have hneg := (I.ent e he).1
  have hno : e.2.1 ∉ od := fun z => by
    obtain ⟨a, ha⟩ := (I.lod _).mp z
    rw [hl] at ha; cases ha
  have old : ∀ p a, lo p = some a → p ≠ e.2.1 := fun p a hpa z => by rw [z, hl] at hpa; cases hpa
  -- what is lowered now, and by how much
  have low : ∀ p a, put lo e.2.1 (h e.2.1 + e.1) p = some a → (p = e.2.1 ∧ a = h e.2.1 + e.1) ∨ (p ≠ e.2.1 ∧ lo p = some a) := fun p a hpa => by
    by_cases z : p = e.2.1
    · rw [z, put_same] at hpa; cases hpa; exact .inl ⟨z, rfl⟩
    · rw [put_ne z] at hpa; exact .inr ⟨z, hpa⟩
  have chg : ∀ p a, put lo e.2.1 (h e.2.1 + e.1) p = some a → a - h p ≤ e.1 := fun p a hpa => by
    rcases low p a hpa with ⟨z1, z2⟩ | ⟨_, z⟩
    · rw [z1, z2]; omega
    · exact I.mono e he p a z
  refine { fall := I.fall, held := I.held, lod := fun p => ?_, nod := List.nodup_cons.mpr ⟨hno, I.nod⟩, ny := ?_, neg := fun p a hpa => ?_, ent := fun e' he' => ?_, mono := fun e' he' p a hpa => ?_, cl := fun n hn b hb => ?_, fst := ?_, fst0 := fun z => (by cases z), back := fun p a hpa => ?_ }
  · constructor
    · intro hm
      rcases List.mem_cons.mp hm with z | z
      · exact ⟨_, by rw [z]; exact put_same⟩
      · obtain ⟨a, ha⟩ := (I.lod p).mp z
        exact ⟨a, by rw [put_ne (old p a ha)]; exact ha⟩
    · rintro ⟨a, ha⟩
      rcases low p a ha with ⟨z, _⟩ | ⟨_, z⟩
      · rw [z]; exact List.mem_cons_self
      · exact List.mem_cons_of_mem _ ((I.lod p).mpr ⟨a, z⟩)
  · intro z
    rcases List.mem_cons.mp z with z | z
    · exact hy z.symm
    · exact I.ny z
  · rcases low p a hpa with ⟨z1, z2⟩ | ⟨_, z⟩
    · rw [z1, z2]; omega
    · exact I.neg p a z
  · rcases (hq e').mp he' with z | ⟨n, n1, n2, n3, n4, rfl⟩
    · obtain ⟨s1, s2⟩ := I.ent e' (hs e' z)
      refine ⟨s1, ?_⟩
      rcases s2 with s2 | ⟨t1, t2, b, t3, t4⟩
      · exact .inl s2
      · exact .inr ⟨t1, t2, b, by rw [put_ne (old _ b t3)]; exact t3, t4⟩
    · refine ⟨n4, .inr ⟨n1, rfl, h e.2.1 + e.1, by rw [n2]; exact put_same, rfl⟩⟩
  · have c := chg p a hpa
    rcases (hq e').mp he' with z | ⟨n, n1, n2, n3, n4, rfl⟩
    · have := hmin e' z; omega
    · have := I.held n n1
      unfold Fits at this
      rw [n2] at this
      show a - h p ≤ h e.2.1 + e.1 + (L n).k - h (L n).x
      omega
  · rcases low _ b hb with ⟨z1, z2⟩ | ⟨z1, z2⟩
    · -- the limit leads out of the new place
      have hh := I.held n hn
      unfold Fits at hh
      rw [z1] at hh
      cases hx : put lo e.2.1 (h e.2.1 + e.1) (L n).x with
      | some a =>
        have c := chg _ a hx
        exact .inl ⟨a, rfl, by omega⟩
      | none =>
        refine .inr ⟨rfl, ?_⟩
        by_cases z : h (L n).x ≤ b + (L n).k
        · exact .inl z
        · refine .inr ((hq _).mpr (.inr ⟨n, hn, z1, hx, by omega, by rw [z2]⟩))
    · rcases I.cl n hn b z2 with ⟨a, a1, a2⟩ | ⟨a1, a2⟩
      · exact .inl ⟨a, by rw [put_ne (old _ a a1)]; exact a1, a2⟩
      · by_cases z : (L n).x = e.2.1
        · refine .inl ⟨h e.2.1 + e.1, by rw [z]; exact put_same, ?_⟩
          rcases a2 with a2 | a2
          · rw [z] at a2; omega
          · rcases List.mem_cons.mp (hp.mem_iff.mp a2) with w | w
            · have : b + (L n).k - h (L n).x = e.1 := by rw [← w]
              rw [z] at this; omega
            · have := hmin _ w
              simp only at this
              rw [z] at this; omega
        · refine .inr ⟨by rw [put_ne z]; exact a1, ?_⟩
          rcases a2 with a2 | a2
          · exact .inl a2
          · rcases List.mem_cons.mp (hp.mem_iff.mp a2) with w | w
            · exact absurd (by rw [← w]) z
            · exact .inr ((hq _).mpr (.inl w))
  · refine .inr ?_
    rcases I.fst with ⟨z, _⟩ | z
    · have := I.fst0 z e he
      have e1 : e.1 = h (L S).y + (L S).k - h (L S).x := by rw [this]
      have e2 : e.2.1 = (L S).x := by rw [this]
      rw [e2, put_same, e1]
      congr 1; omega
    · rw [put_ne (old _ _ z)]; exact z
  · rcases low p a hpa with ⟨z1, z2⟩ | ⟨z1, z2⟩
    · obtain ⟨ns, b1, b2, b3, b4⟩ := I.path hp hl
      exact ⟨ns, by rw [z1]; exact b1, b2, b3, by rw [b4, z2]⟩
    · obtain ⟨ns, b1, b2, b3, b4⟩ := I.back p a z2
      exact ⟨ns, b1.mono fun z hz => put_ne fun w => hno (w ▸ b2 z hz), fun z hz => List.mem_cons_of_mem _ (b2 z hz), b3, b4⟩

/-- the queue is empty: the new heights hold -/
theorem St.done {L : Nat → Lim} {S : Nat} {h : Int → Int} {ca lo od} (I : St L S h [] ca lo od) : ∀ n, n ≤ S → Fits (fun p => (lo p).getD (h p)) (L n) := by
  intro n hn
  show (lo (L n).x).getD (h (L n).x) - (lo (L n).y).getD (h (L n).y) ≤ (L n).k
  rcases Nat.lt_or_ge n S with h1 | h1
  · have hh := I.held n h1
    unfold Fits at hh
    cases hu : lo (L n).y with
    | none =>
      cases hx : lo (L n).x with
      | none => exact hh
      | some a =>
        have := I.neg _ a hx
        show a - h (L n).y ≤ (L n).k
        omega
    | some b =>
      rcases I.cl n h1 b hu with ⟨a, a1, a2⟩ | ⟨a1, a2⟩
      · rw [a1]; simp; omega
      · rw [a1]
        rcases a2 with a2 | a2
        · simp; omega
        · cases a2
  · have e : n = S := Nat.le_antisymm hn h1
    subst e
    have hy : lo (L n).y = none := by
      cases z : lo (L n).y with
      | none => rfl
      | some a => exact absurd ((I.lod _).mpr ⟨a, z⟩) I.ny
    rcases I.fst with ⟨_, e, he, _⟩ | z
    · cases he
    · rw [hy, z]; simp; omega

/-- what falls: entries of the queue, and limits that lead out of places not lowered yet -/
def meas (L : Nat → Lim) (S : Nat) (q : List Ent) (od : List Int) : Nat := q.length + ((List.range S).filter fun n => decide ((L n).y ∉ od)).length
theorem filter_split (od : List Int) (p : Int) (hp : p ∉ od) (L : Nat → Lim) : ∀ l : List Nat, (l.filter fun n => decide ((L n).y ∉ p :: od)).length + (l.filter fun n => decide ((L n).y = p)).length = (l.filter fun n => decide ((L n).y ∉ od)).length
  | [] => rfl
  | n :: r => by
    have ih := filter_split od p hp L r
    by_cases h1 : (L n).y = p
    · have a1 : decide ((L n).y ∉ p :: od) = false := by simp [h1]
      have a2 : decide ((L n).y ∉ od) = true := by simp [h1, hp]
      have a3 : decide ((L n).y = p) = true := by simp [h1]
      simp only [List.filter_cons, a1, a2, a3, if_true, List.length_cons]
      simp only [Bool.false_eq_true, if_false]
      omega
    · by_cases h2 : (L n).y ∈ od
      · have a1 : decide ((L n).y ∉ p :: od) = false := by simp [h2]
        have a2 : decide ((L n).y ∉ od) = false := by simp [h2]
        have a3 : decide ((L n).y = p) = false := by simp [h1]
        simp only [List.filter_cons, a1, a2, a3]
        simp only [Bool.false_eq_true, if_false]
        exact ih
      · have a1 : decide ((L n).y ∉ p :: od) = true := by simp [h1, h2]
        have a2 : decide ((L n).y ∉ od) = true := by simp [h2]
        have a3 : decide ((L n).y = p) = false := by simp [h1]
        simp only [List.filter_cons, a1, a2, a3, if_true, List.length_cons]
        simp only [Bool.false_eq_true, if_false]
        omega
theorem meas_low {L : Nat → Lim} {S : Nat} {q q' fs : List Ent} {e : Ent} {od : List Int} (hp : q.Perm (e :: q')) (ho : e.2.1 ∉ od) (hf : fs.length ≤ ((List.range S).filter fun n => decide ((L n).y = e.2.1)).length) {q'' : List Ent} (hq : q''.length = q'.length + fs.length) :
    meas L S q'' (e.2.1 :: od) < meas L S q od := by
  have h1 := filter_split od e.2.1 ho L (List.range S)
  have h2 := hp.length_eq
  simp at h2
  unfold meas
  omega
theorem meas_skip {L : Nat → Lim} {S : Nat} {q q' : List Ent} {e : Ent} {od : List Int} (hp : q.Perm (e :: q')) : meas L S q' od < meas L S q od := by
  have h2 := hp.length_eq
  simp at h2
  unfold meas
  omega

def Feas (L : List Lim) : Prop := ∃ h : Int → Int, ∀ t ∈ L, Fits h t
def low1 (g : Int → Int) (t : Lim) : Int → Int := fun z => if z = t.x then g t.y + t.k else g z
def rel1 (s : (Int → Int) × Bool) (t : Lim) : (Int → Int) × Bool := if s.1 t.x > s.1 t.y + t.k then (low1 s.1 t, true) else s
def round (L : List Lim) (s : (Int → Int) × Bool) : (Int → Int) × Bool := L.foldl rel1 s
theorem round_cons (t : Lim) (L : List Lim) (s) : round (t :: L) s = round L (rel1 s t) := rfl
theorem rel1_le (s) (t : Lim) (z : Int) : (rel1 s t).1 z ≤ s.1 z := by
  unfold rel1
  split
  · rename_i h
    show low1 s.1 t z ≤ s.1 z
    unfold low1
    split
    · rename_i e; subst e; omega
    · exact Int.le_refl _
  · exact Int.le_refl _
theorem round_le : ∀ (L : List Lim) (s) (z : Int), (round L s).1 z ≤ s.1 z
  | [], _, _ => Int.le_refl _
  | t :: L, s, z => Int.le_trans (round_le L (rel1 s t) z) (rel1_le s t z)
theorem rel1_true {s : (Int → Int) × Bool} (t : Lim) (h : s.2 = true) : (rel1 s t).2 = true := by
  unfold rel1
  split
  · rfl
  · exact h
theorem round_true : ∀ (L : List Lim) {s : (Int → Int) × Bool}, s.2 = true → (round L s).2 = true
  | [], _, h => h
  | t :: L, _, h => round_true L (rel1_true t h)
theorem round_still : ∀ (L : List Lim) {s : (Int → Int) × Bool}, (round L s).2 = false → ∀ t ∈ L, Fits s.1 t
  | [], _, _, t, ht => by cases ht
  | u :: L, s, h, t, ht => by
    by_cases c : s.1 u.x > s.1 u.y + u.k
    · have e : rel1 s u = (low1 s.1 u, true) := if_pos c
      rw [round_cons, e, round_true L rfl] at h
      cases h
    · have e : rel1 s u = s := if_neg c
      rw [round_cons, e] at h
      rcases List.mem_cons.mp ht with z | ht
      · rw [z]; unfold Fits; omega
      · exact round_still L h t ht
theorem round_fits : ∀ (L : List Lim) {s : (Int → Int) × Bool}, (∀ t ∈ L, Fits s.1 t) → round L s = s
  | [], _, _ => rfl
  | u :: L, s, h => by
    have c : ¬ s.1 u.x > s.1 u.y + u.k := by
      have := h u List.mem_cons_self
      unfold Fits at this; omega
    have e : rel1 s u = s := if_neg c
    rw [round_cons, e]
    exact round_fits L fun t ht => h t (List.mem_cons_of_mem _ ht)
theorem rel1_above {d : Int → Int} {s : (Int → Int) × Bool} {t : Lim} {P : List Int} (hy : t.y ∈ P) (hd : Fits d t) (h : ∀ z ∈ P, d z ≤ s.1 z) : ∀ z ∈ P, d z ≤ (rel1 s t).1 z := by
  intro z hz
  unfold rel1
  split
  · show d z ≤ low1 s.1 t z
    unfold low1
    split
    · rename_i e; subst e
      have h1 := h _ hy
      unfold Fits at hd; omega
    · exact h z hz
  · exact h z hz
theorem round_above {d : Int → Int} {P : List Int} : ∀ (L : List Lim) {s : (Int → Int) × Bool}, (∀ t ∈ L, t.x ∈ P ∧ t.y ∈ P) → (∀ t ∈ L, Fits d t) → (∀ z ∈ P, d z ≤ s.1 z) → ∀ z ∈ P, d z ≤ (round L s).1 z
  | [], _, _, _, h => h
  | t :: L, _, hp, hd, h => round_above L (fun u hu => hp u (List.mem_cons_of_mem _ hu)) (fun u hu => hd u (List.mem_cons_of_mem _ hu)) (rel1_above (hp t List.mem_cons_self).2 (hd t List.mem_cons_self) h)
theorem round_at : ∀ (L : List Lim) {s : (Int → Int) × Bool} {t : Lim} {b : Int}, t ∈ L → s.1 t.y ≤ b → (round L s).1 t.x ≤ b + t.k
  | u :: L, s, t, b, ht, hb => by
    rw [round_cons]
    rcases List.mem_cons.mp ht with z | ht
    · subst z
      refine Int.le_trans (round_le L _ _) ?_
      unfold rel1
      split
      · show low1 s.1 t t.x ≤ b + t.k
        unfold low1
        rw [if_pos rfl]; omega
      · omega
    · exact round_at L ht (Int.le_trans (rel1_le s u t.y) hb)

/-- the highest heights below zero -/
structure Top (L : List Lim) (P : List Int) (d : Int → Int) : Prop where
  fits : ∀ t ∈ L, Fits d t
  neg : ∀ z ∈ P, d z ≤ 0
  max : ∀ d' : Int → Int, (∀ t ∈ L, Fits d' t) → (∀ z ∈ P, d' z ≤ 0) → (P.map d').sum ≤ (P.map d).sum
theorem sum_neg {d : Int → Int} : ∀ P : List Int, (∀ z ∈ P, d z ≤ 0) → (P.map d).sum ≤ 0
  | [], _ => by simp
  | z :: P, h => by
    have h1 := sum_neg P fun u hu => h u (List.mem_cons_of_mem _ hu)
    have h2 := h z List.mem_cons_self
    simp only [List.map_cons, List.sum_cons]; omega
theorem top_of (L : List Lim) (P : List Int) : ∀ (n : Nat) (d : Int → Int), (-(P.map d).sum).toNat ≤ n → (∀ t ∈ L, Fits d t) → (∀ z ∈ P, d z ≤ 0) → ∃ d, Top L P d
  | 0, d, hn, h1, h2 => ⟨d, h1, h2, fun d' _ h4 => by
    have := sum_neg P h4
    have := sum_neg P h2
    omega⟩
  | n + 1, d, hn, h1, h2 => by
    by_cases c : ∃ d' : Int → Int, (∀ t ∈ L, Fits d' t) ∧ (∀ z ∈ P, d' z ≤ 0) ∧ (P.map d).sum < (P.map d').sum
    · obtain ⟨d', a1, a2, a3⟩ := c
      have := sum_neg P a2
      exact top_of L P n d' (by omega) a1 a2
    · refine ⟨d, h1, h2, fun d' h3 h4 => ?_⟩
      rcases Int.lt_or_le (P.map d).sum (P.map d').sum with z | z
      · exact absurd ⟨d', h3, h4, z⟩ c
      · exact z
theorem bound_of (f : Int → Int) : ∀ P : List Int, ∃ M, ∀ z ∈ P, f z ≤ M
  | [] => ⟨0, fun _ h => by cases h⟩
  | z :: P => by
    obtain ⟨M, h⟩ := bound_of f P
    by_cases c : f z ≤ M
    · exact ⟨M, fun u hu => by
        rcases List.mem_cons.mp hu with e | hu
        · rw [e]; exact c
        · exact h u hu⟩
    · exact ⟨f z, fun u hu => by
        rcases List.mem_cons.mp hu with e | hu
        · rw [e]; exact Int.le_refl _
        · have := h u hu; omega⟩
theorem Feas.top {L : List Lim} (F : Feas L) (P : List Int) : ∃ d, Top L P d := by
  obtain ⟨f, hf⟩ := F
  obtain ⟨M, hM⟩ := bound_of f P
  refine top_of L P _ (fun z => f z - M) (Nat.le_refl _) (fun t ht => ?_) (fun z hz => ?_)
  · have := hf t ht
    show f t.x - M - (f t.y - M) ≤ t.k
    unfold Fits at this; omega
  · have := hM z hz
    show f z - M ≤ 0
    omega
def fin (P : List Int) (d g : Int → Int) : Nat := (P.filter fun z => decide (g z = d z)).length
theorem sum_up {d : Int → Int} {p : Int → Bool} : ∀ P : List Int, (P.map fun z => if p z = true then d z + 1 else d z).sum = (P.map d).sum + (P.filter p).length
  | [] => by simp
  | z :: P => by
    have ih := sum_up (d := d) (p := p) P
    simp only [List.map_cons, List.sum_cons, List.filter_cons]
    by_cases c : p z = true
    · rw [if_pos c, if_pos c, ih]; simp only [List.length_cons]; omega
    · rw [if_neg c, if_neg c, ih]; omega
/-- some place that is not at rest is made so by a limit that leads out of one at rest -/
theorem Top.next {L : List Lim} {P : List Int} {d g : Int → Int} (T : Top L P d) (hP : ∀ t ∈ L, t.x ∈ P ∧ t.y ∈ P) (hg : ∀ z ∈ P, g z ≤ 0) (hd : ∀ z ∈ P, d z ≤ g z) (hx : ∃ z ∈ P, g z ≠ d z) :
    ∃ t ∈ L, g t.x ≠ d t.x ∧ g t.y = d t.y ∧ d t.x = d t.y + t.k := by
  refine Classical.byContradiction fun hno => ?_
  have key := T.max (fun z => if (decide (g z ≠ d z)) = true then d z + 1 else d z) (fun t ht => ?_) (fun z hz => ?_)
  · rw [sum_up] at key
    obtain ⟨z, hz, hn⟩ := hx
    have : 0 < (P.filter fun z => decide (g z ≠ d z)).length := List.length_pos_of_mem (List.mem_filter.mpr ⟨hz, by simpa using hn⟩)
    omega
  · have h1 := T.fits t ht
    unfold Fits at h1
    show (if (decide (g t.x ≠ d t.x)) = true then d t.x + 1 else d t.x) - (if (decide (g t.y ≠ d t.y)) = true then d t.y + 1 else d t.y) ≤ t.k
    by_cases c1 : g t.x = d t.x
    · by_cases c2 : g t.y = d t.y
      · simp [c1, c2]; omega
      · simp [c1, c2]; omega
    · by_cases c2 : g t.y = d t.y
      · have : d t.x ≠ d t.y + t.k := fun e => hno ⟨t, ht, c1, c2, e⟩
        simp [c1, c2]; omega
      · simp [c1, c2]; omega
  · show (if (decide (g z ≠ d z)) = true then d z + 1 else d z) ≤ 0
    have h1 := hg z hz
    have h2 := hd z hz
    have h3 := T.neg z hz
    by_cases c : g z = d z
    · simp [c]; exact h3
    · simp [c]; omega
theorem filter_len_lt {α : Type} {p q : α → Bool} : ∀ {l : List α} {v : α}, (∀ z ∈ l, p z = true → q z = true) → v ∈ l → p v = false → q v = true → (l.filter p).length + 1 ≤ (l.filter q).length
  | z :: l, v, h, hv, h1, h2 => by
    have mono : ∀ l : List α, (∀ z ∈ l, p z = true → q z = true) → (l.filter p).length ≤ (l.filter q).length := by
      intro l
      induction l with
      | nil => intro _; exact Nat.le_refl _
      | cons z l ih =>
        intro h
        have := ih fun u hu => h u (List.mem_cons_of_mem _ hu)
        have hz := h z List.mem_cons_self
        simp only [List.filter_cons]
        by_cases c : p z = true
        · rw [if_pos c, if_pos (hz c)]; simp only [List.length_cons]; omega
        · rw [if_neg c]; split <;> (try simp only [List.length_cons]) <;> omega
    simp only [List.filter_cons]
    rcases List.mem_cons.mp hv with e | hv
    · subst e
      rw [h1, h2]
      have := mono l fun u hu => h u (List.mem_cons_of_mem _ hu)
      simp; omega
    · have ih := filter_len_lt (fun u hu => h u (List.mem_cons_of_mem _ hu)) hv h1 h2
      have hz := h z List.mem_cons_self
      by_cases c : p z = true
      · rw [if_pos c, if_pos (hz c)]; simp only [List.length_cons]; omega
      · rw [if_neg c]; split <;> (try simp only [List.length_cons]) <;> omega
/-- ahead of round i -/
structure RS (L : List Lim) (P : List Int) (i : Nat) (g : Int → Int) : Prop where
  neg : ∀ z ∈ P, g z ≤ 0
  top : ∀ d, Top L P d → (∀ z ∈ P, d z ≤ g z) ∧ i ≤ fin P d g
theorem RS.start (L : List Lim) (P : List Int) : RS L P 0 (fun _ => 0) := ⟨fun _ _ => Int.le_refl _, fun _ T => ⟨fun z hz => T.neg z hz, Nat.zero_le _⟩⟩
theorem RS.turn {L : List Lim} {P : List Int} {i : Nat} {g : Int → Int} (R : RS L P i g) (hP : ∀ t ∈ L, t.x ∈ P ∧ t.y ∈ P) (hc : (round L (g, false)).2 = true) : RS L P (i + 1) (round L (g, false)).1 := by
  refine ⟨fun z hz => Int.le_trans (round_le L _ z) (R.neg z hz), fun d T => ?_⟩
  obtain ⟨h1, h2⟩ := R.top d T
  have ab := round_above L (s := (g, false)) hP T.fits h1
  refine ⟨ab, ?_⟩
  have hx : ∃ z ∈ P, g z ≠ d z := by
    refine Classical.byContradiction fun hno => ?_
    have all : ∀ z ∈ P, g z = d z := fun z hz => Classical.byContradiction fun c => hno ⟨z, hz, c⟩
    have : round L (g, false) = (g, false) := round_fits L fun t ht => by
      have h3 := T.fits t ht
      have h4 := hP t ht
      show g t.x - g t.y ≤ t.k
      rw [all _ h4.1, all _ h4.2]; exact h3
    rw [this] at hc; cases hc
  obtain ⟨t, ht, t1, t2, t3⟩ := T.next hP R.neg h1 hx
  have hv := (hP t ht).1
  have at1 : (round L (g, false)).1 t.x = d t.x := by
    have a1 := round_at L (s := (g, false)) (b := d t.y) ht (Int.le_of_eq t2)
    have a2 := ab _ hv
    omega
  have := filter_len_lt (p := fun z => decide (g z = d z)) (q := fun z => decide ((round L (g, false)).1 z = d z)) (l := P) (v := t.x) (fun z hz hp => ?_) hv (by simpa using t1) (by simpa using at1)
  · unfold fin at h2 ⊢; omega
  · have e : g z = d z := by simpa using hp
    have a1 := round_le L (g, false) z
    have a2 := ab z hz
    have : (round L (g, false)).1 z = d z := by
      have : (round L (g, false)).1 z ≤ g z := a1
      omega
    simpa using this
theorem RS.end {L : List Lim} {P : List Int} {g : Int → Int} (R : RS L P (P.length + 1) g) : ¬ Feas L := fun F => by
  obtain ⟨d, T⟩ := F.top P
  have h1 := (R.top d T).2
  have h2 := List.length_filter_le (fun z => decide (g z = d z)) P
  unfold fin at h1
  omega
theorem feas_still {L : List Lim} {g : Int → Int} (h : (round L (g, false)).2 = false) : Feas L := ⟨g, round_still L h⟩
end WM

/-! a heap in a list: what a push and a pop leave, by any order (plain Lean) -/
namespace HQ
structure Ord (α : Type) (lt : α → α → Bool) : Prop where
  asym : ∀ x y, lt x y = true → lt y x = false
  trans : ∀ x y z, lt y x = false → lt z y = false → lt z x = false
section
variable {α : Type} {lt : α → α → Bool}
def Hp0 (lt : α → α → Bool) (l : List α) : Prop := ∀ (i : Nat) (x y : α), 0 < i → l[i]? = some x → l[(i - 1) / 2]? = some y → lt x y = false
structure He (lt : α → α → Bool) (l : List α) (p : Nat) : Prop where
  a : ∀ (i : Nat) (x y : α), 0 < i → i ≠ p → (i - 1) / 2 ≠ p → l[i]? = some x → l[(i - 1) / 2]? = some y → lt x y = false
  b : ∀ (c : Nat) (x y : α), 0 < c → (c - 1) / 2 = p → 0 < p → l[c]? = some x → l[(p - 1) / 2]? = some y → lt x y = false
structure Hu (lt : α → α → Bool) (l : List α) (p : Nat) : Prop extends He lt l p where
  c : ∀ (c : Nat) (x y : α), 0 < c → (c - 1) / 2 = p → l[c]? = some x → l[p]? = some y → lt x y = false
def swp (l : List α) (i j : Nat) (x y : α) : List α := (l.set i y).set j x
theorem swp_len (l : List α) (i j : Nat) (x y : α) : (swp l i j x y).length = l.length := by unfold swp; simp
theorem swp_at {l : List α} {i j : Nat} {x y : α} (hi : i < l.length) (hj : j < l.length) (k : Nat) : (swp l i j x y)[k]? = if k = j then some x else if k = i then some y else l[k]? := by
  unfold swp
  by_cases h1 : k = j
  · rw [h1, if_pos rfl, List.getElem?_set_self (by simpa using hj)]
  · rw [if_neg h1, List.getElem?_set_ne (Ne.symm h1)]
    by_cases h2 : k = i
    · rw [h2, if_pos rfl, List.getElem?_set_self hi]
    · rw [if_neg h2, List.getElem?_set_ne (Ne.symm h2)]
theorem swp_perm {l : List α} {i j : Nat} {x y : α} (hi : l[i]? = some x) (hj : l[j]? = some y) (hij : i ≠ j) : (swp l i j x y).Perm l := by
  obtain ⟨hi1, hi2⟩ := List.getElem?_eq_some_iff.mp hi
  obtain ⟨hj1, hj2⟩ := List.getElem?_eq_some_iff.mp hj
  unfold swp
  have := List.set_set_perm (as := l) hi1 hj1
  rw [hi2, hj2] at this
  exact this
theorem up_end (O : Ord α lt) {l : List α} {p : Nat} (h : Hu lt l p) (he : p = 0 ∨ ∃ x y, l[p]? = some x ∧ l[(p - 1) / 2]? = some y ∧ lt x y = false) : Hp0 lt l := by
  intro i x y hi hx hy
  by_cases h1 : i = p
  · rcases he with he | ⟨x', y', e1, e2, e3⟩
    · omega
    · rw [h1] at hx hy; rw [hx] at e1; rw [hy] at e2; cases e1; cases e2; exact e3
  · by_cases h2 : (i - 1) / 2 = p
    · rw [h2] at hy; exact h.c i x y hi h2 hx hy
    · exact h.a i x y hi h1 h2 hx hy
theorem up_step (O : Ord α lt) {l : List α} {p q : Nat} (h : Hu lt l p) (hp : 0 < p) (hq : q = (p - 1) / 2) {x y : α} (hx : l[p]? = some x) (hy : l[q]? = some y) (hlt : lt x y = true) : Hu lt (swp l q p y x) q := by
  have lp := (List.getElem?_eq_some_iff.mp hx).1
  have lq := (List.getElem?_eq_some_iff.mp hy).1
  have A := fun k => swp_at (x := y) (y := x) lq lp k
  refine ⟨⟨fun i u v hi h1 h2 hu hv => ?_, fun c u v hc h1 h2 hu hv => ?_⟩, fun c u v hc h1 hu hv => ?_⟩
  · rw [A] at hu hv
    by_cases e1 : i = p
    · omega
    · rw [if_neg e1, if_neg h1] at hu
      rw [if_neg h2] at hv
      by_cases e2 : (i - 1) / 2 = p
      · rw [if_pos e2] at hv
        cases hv
        exact h.b i u y hi e2 hp hu (by rw [← hq]; exact hy)
      · rw [if_neg e2] at hv
        exact h.a i u v hi e1 e2 hu hv
  · rw [A] at hu hv
    have q1 : (q - 1) / 2 ≠ p := by omega
    have q2 : (q - 1) / 2 ≠ q := by omega
    rw [if_neg q1, if_neg q2] at hv
    have hpar : lt y v = false := h.a q y v h2 (by omega) q1 hy hv
    by_cases e1 : c = p
    · rw [if_pos e1] at hu; cases hu; exact hpar
    · have e2 : c ≠ q := by omega
      rw [if_neg e1, if_neg e2] at hu
      have h3 : lt u y = false := h.a c u y hc e1 (by omega) hu (by rw [h1]; exact hy)
      exact O.trans v y u hpar h3
  · rw [A] at hu hv
    have e0 : q ≠ p := by omega
    rw [if_neg e0, if_pos rfl] at hv
    cases hv
    by_cases e1 : c = p
    · rw [if_pos e1] at hu; cases hu; exact O.asym _ _ hlt
    · have e2 : c ≠ q := by omega
      rw [if_neg e1, if_neg e2] at hu
      have h3 : lt u y = false := h.a c u y hc e1 (by omega) hu (by rw [h1]; exact hy)
      exact O.trans _ _ _ (O.asym _ _ hlt) h3
/-- down: the lesser child comes up -/
theorem down_step (O : Ord α lt) {l : List α} {p c : Nat} (h : He lt l p) (hc : 0 < c) (hcp : (c - 1) / 2 = p) {x y : α} (hx : l[p]? = some x) (hy : l[c]? = some y)
    (hmin : ∀ (d : Nat) (z : α), 0 < d → (d - 1) / 2 = p → l[d]? = some z → lt z y = false) : He lt (swp l c p y x) c := by
  have lp := (List.getElem?_eq_some_iff.mp hx).1
  have lc := (List.getElem?_eq_some_iff.mp hy).1
  have A := fun k => swp_at (x := y) (y := x) lc lp k
  have npc : p ≠ c := by omega
  refine ⟨fun i u v hi h1 h2 hu hv => ?_, fun d u v hd h1 h2 hu hv => ?_⟩
  · rw [A] at hu hv
    rw [if_neg h1] at hu
    rw [if_neg h2] at hv
    by_cases e1 : i = p
    · rw [if_pos e1] at hu; cases hu
      have e3 : (i - 1) / 2 ≠ p := by omega
      rw [if_neg e3] at hv
      rw [e1] at hv
      exact h.b c y v hc hcp (by omega) hy hv
    · rw [if_neg e1] at hu
      by_cases e2 : (i - 1) / 2 = p
      · rw [if_pos e2] at hv; cases hv
        exact hmin i u hi e2 hu
      · rw [if_neg e2] at hv
        exact h.a i u v hi e1 e2 hu hv
  · rw [A] at hu hv
    have e1 : d ≠ p := by omega
    have e2 : d ≠ c := by omega
    rw [if_neg e1, if_neg e2] at hu
    rw [hcp, if_pos rfl] at hv
    cases hv
    exact h.a d u y hd e1 (by omega) hu (by rw [h1]; exact hy)
theorem down_end {l : List α} {p : Nat} (h : He lt l p) (hp : ¬ p < l.length / 2) : Hu lt l p := by
  refine ⟨h, fun c x y hc h1 hx _ => ?_⟩
  have := (List.getElem?_eq_some_iff.mp hx).1
  omega
theorem root_least (O : Ord α lt) (irr : ∀ x, lt x x = false) {l : List α} (h : Hp0 lt l) {r : α} (hr : l[0]? = some r) : ∀ (i : Nat) (x : α), l[i]? = some x → lt x r = false := by
  intro i
  induction i using Nat.strongRecOn with
  | ind i ih =>
    intro x hx
    by_cases h0 : i = 0
    · rw [h0] at hx; rw [hx] at hr; cases hr; exact irr _
    · have hl := (List.getElem?_eq_some_iff.mp hx).1
      have hp : (i - 1) / 2 < l.length := by omega
      have e : l[(i - 1) / 2]? = some l[(i - 1) / 2] := List.getElem?_eq_getElem hp
      exact O.trans _ _ _ (ih ((i - 1) / 2) (by omega) _ e) (h i x _ (by omega) hx e)
/-- one more at the end -/
theorem push_start {l : List α} (h : Hp0 lt l) (x : α) : Hu lt (l ++ [x]) l.length := by
  refine ⟨⟨fun i u v hi h1 h2 hu hv => ?_, fun c u v hc h1 h2 hu hv => ?_⟩, fun c u v hc h1 hu hv => ?_⟩
  · have l1 := (List.getElem?_eq_some_iff.mp hu).1
    rw [List.length_append, List.length_singleton] at l1
    rw [List.getElem?_append_left (by omega)] at hu
    rw [List.getElem?_append_left (by omega)] at hv
    exact h i u v hi hu hv
  · have l1 := (List.getElem?_eq_some_iff.mp hu).1
    rw [List.length_append, List.length_singleton] at l1
    omega
  · have l1 := (List.getElem?_eq_some_iff.mp hu).1
    rw [List.length_append, List.length_singleton] at l1
    omega
/-- the last one is taken to the front -/
theorem pop_start {l : List α} {x : α} (h : Hp0 lt (x :: l)) {z : α} {r : List α} (hl : l = r ++ [z]) : He lt (z :: r) 0 := by
  refine ⟨fun i u v hi h1 h2 hu hv => ?_, fun c u v hc h1 h2 hu hv => absurd h2 (Nat.lt_irrefl _)⟩
  have l1 := (List.getElem?_eq_some_iff.mp hu).1
  rw [List.length_cons] at l1
  have e1 : (x :: l)[i]? = some u := by
    rw [hl]
    obtain ⟨j, rfl⟩ : ∃ j, i = j + 1 := ⟨i - 1, by omega⟩
    rw [List.getElem?_cons_succ] at hu ⊢
    rw [List.getElem?_append_left (by omega)]; exact hu
  have e2 : (x :: l)[(i - 1) / 2]? = some v := by
    rw [hl]
    obtain ⟨j, hj⟩ : ∃ j, (i - 1) / 2 = j + 1 := ⟨(i - 1) / 2 - 1, by omega⟩
    rw [hj] at hv ⊢
    rw [List.getElem?_cons_succ] at hv ⊢
    rw [List.getElem?_append_left (by omega)]; exact hv
  exact h i u v hi e1 e2
end
end HQ

namespace HQ
open PySem PySem.Spec PyProof.Rows L2
theorem entry_push : entryFor table "_heapq.heappush" = some Builtin.«_heapq.heappush» := entryFor_of_tree (by kernel_rfl)
theorem kind_push : builtinKind "_heapq.heappush" = none := by kernel_rfl
theorem plain_push : plainId "_heapq.heappush" = true := by decide +kernel
theorem args_push (a b : Value) : argsOk "_heapq.heappush" ⟨[a, b], []⟩ := by unfold argsOk; kernel_rfl
theorem entry_pop : entryFor table "_heapq.heappop" = some Builtin.«_heapq.heappop» := entryFor_of_tree (by kernel_rfl)
theorem kind_pop : builtinKind "_heapq.heappop" = none := by kernel_rfl
theorem plain_pop : plainId "_heapq.heappop" = true := by decide +kernel
theorem args_pop (a : Value) : argsOk "_heapq.heappop" ⟨[a], []⟩ := by unfold argsOk; kernel_rfl
theorem entry_sift : entryFor table "_heapq.heapify.sift" = some Builtin.«_heapq.heapify.sift» := entryFor_of_tree (by kernel_rfl)
theorem plain_sift : plainId "_heapq.heapify.sift" = true := by decide +kernel

structure Sim (prog : Program) (w : World) (A : Around) (l : Addr) (lt : Value → Value → Bool) (J : List Value → Shared → Prop) : Prop where
  get : ∀ its s, J its s → its.length ≤ sizeLine ∧ ∃ n, s.heap.get? l = some { cls := .type "list", dict := none, data := .seq its.toArray n, slots := #[] }
  put : ∀ its its' f s, J its s → its'.Perm its → f its.toArray = its'.toArray → J its' { s with heap := s.heap.update l (Obj.mapSeq f) }
  cmp : ∀ its s x y (Q : Value → Shared → Prop) (E : Value → Shared → Prop), J its s → x ∈ its → y ∈ its → Q (.bool (lt x y)) s → wpAny (model prog w) A.in1 (richCompare .Lt x y) Q E s
def upCode (l : Addr) (p : Nat) (v : Value) : Code := .builtin "_heapq.heapify.sift" ⟨[.ref l, .bool false, .bool false, rawInt (p : Int), rawInt 0, v, rawInt (-1)], []⟩
def downCode (l : Addr) (p : Nat) (v : Value) : Code := .builtin "_heapq.heapify.sift" ⟨[.ref l, .bool false, .bool true, rawInt (p : Int), rawInt 0, v, rawInt (-1)], []⟩
section
variable {prog : Program} {w : World} {A : Around} {l : Addr} {lt : Value → Value → Bool} {J : List Value → Shared → Prop}
theorem sift_up (S : Sim prog w A l lt J) (O : Ord Value lt) (v : Value) (R : Result → Shared → Prop) : ∀ (p : Nat) (its : List Value) (s : Shared), J its s → p < its.length → Hu lt its p →
    (∀ its' s', J its' s' → its'.Perm its → Hp0 lt its' → R (.ok (.ret v)) s') → codeAny (model prog w) A (upCode l p v) R s := by
  intro p
  induction p using Nat.strongRecOn with
  | ind p ih =>
  intro its s j hp hu hR
  obtain ⟨hz, n, hl⟩ := S.get its s j
  obtain ⟨hh, g, d, tk, os⟩ := s
  refine codeAny_builtin entry_sift ?_
  rw [Around.under_plainId plain_sift]
  unfold Builtin.«_heapq.heapify.sift»
  have e0 : ((p : Int)).toNat = p := Int.toNat_natCast p
  by_cases h0 : p = 0
  · subst h0
    have hend := hR its _ j (.refl _) (up_end O hu (.inl rfl))
    wp_walk
    exact hend
  · have hp0 : 0 < p := Nat.pos_of_ne_zero h0
    have hx : its[p]? = some its[p] := List.getElem?_eq_getElem hp
    have hq : (p - 1) / 2 < its.length := by omega
    have hy : its[(p - 1) / 2]? = some its[(p - 1) / 2] := List.getElem?_eq_getElem hq
    have hx' : its.toArray[p]? = some its[p] := by rw [List.getElem?_toArray]; exact hx
    have hy' : its.toArray[(p - 1) / 2]? = some its[(p - 1) / 2] := by rw [List.getElem?_toArray]; exact hy
    wp_walk
    rw [e0, hx']
    wp_walk
    rw [hy']
    have mx : its[p] ∈ its := List.getElem_mem hp
    have my : its[(p - 1) / 2] ∈ its := List.getElem_mem hq
    have hc := fun Q E => S.cmp its _ its[p] its[(p - 1) / 2] Q E j mx my
    cases hlt : lt its[p] its[(p - 1) / 2] with
    | false =>
      rw [hlt] at hc
      have hend := hR its _ j (.refl _) (up_end O hu (.inr ⟨_, _, hx, hy, hlt⟩))
      wp_walk using hc
      exact hend
    | true =>
      rw [hlt] at hc
      have hsw : ((its.toArray.setIfInBounds ((p - 1) / 2) its[p]).setIfInBounds p its[(p - 1) / 2]) = (swp its ((p - 1) / 2) p its[(p - 1) / 2] its[p]).toArray := by unfold swp; simp
      have hz1 : its.toArray.size ≤ sizeLine := by rw [List.size_toArray]; exact hz
      have hz2 : ((fun xs : Array Value => (xs.setIfInBounds ((p - 1) / 2) its[p]).setIfInBounds p its[(p - 1) / 2]) its.toArray).size ≤ sizeLine + 1 := by
        show ((its.toArray.setIfInBounds ((p - 1) / 2) its[p]).setIfInBounds p its[(p - 1) / 2]).size ≤ sizeLine + 1
        rw [Array.size_setIfInBounds, Array.size_setIfInBounds]; omega
      have pm := swp_perm hy hx (by omega)
      have nxt := ih ((p - 1) / 2) (by omega) (swp its ((p - 1) / 2) p its[(p - 1) / 2] its[p]) _ (S.put its _ (fun xs => (xs.setIfInBounds ((p - 1) / 2) its[p]).setIfInBounds p its[(p - 1) / 2]) _ j pm hsw) (by rw [swp_len]; exact hq)
        (up_step O hu hp0 rfl hx hy hlt) fun its' s' j' p' h' => hR its' s' j' (p'.trans pm) h'
      wp_walk using hc
      rw [hy']
      wp_walk
      rw [hx']
      wp_walk using (wpAny_updateSeq hl rfl (hz := hz1) (_hz' := hz2))
      exact ⟨plainId_quiet plain_sift _, nxt⟩
theorem sift_down (S : Sim prog w A l lt J) (O : Ord Value lt) (v : Value) (R : Result → Shared → Prop) : ∀ (m p : Nat) (its : List Value) (s : Shared), its.length - p ≤ m → J its s → p < its.length → He lt its p →
    (∀ its' s', J its' s' → its'.Perm its → Hp0 lt its' → R (.ok (.ret v)) s') → codeAny (model prog w) A (downCode l p v) R s := by
  intro m
  induction m with
  | zero => intro p its s hm _ hp; omega
  | succ m ih =>
  intro p its s hm j hp hu hR
  obtain ⟨hz, n, hl⟩ := S.get its s j
  obtain ⟨hh, g, d, tk, os⟩ := s
  refine codeAny_builtin entry_sift ?_
  rw [Around.under_plainId plain_sift]
  unfold Builtin.«_heapq.heapify.sift»
  have e0 : ((p : Int)).toNat = p := Int.toNat_natCast p
  have hx : its[p]? = some its[p] := List.getElem?_eq_getElem hp
  have hx' : its.toArray[p]? = some its[p] := by rw [List.getElem?_toArray]; exact hx
  have hsz : its.toArray.size = its.length := List.size_toArray
  have hz1 : its.toArray.size ≤ sizeLine := by rw [hsz]; exact hz
  by_cases h0 : p < its.length / 2
  · -- the swap with the child c
    have go : ∀ c, 0 < c → (c - 1) / 2 = p → ∀ hc : c < its.length, (∀ (d : Nat) (z : Value), 0 < d → (d - 1) / 2 = p → its[d]? = some z → lt z its[c] = false) →
        codeAny (model prog w) A (downCode l c v) R { heap := hh.update l (Obj.mapSeq fun xs => (xs.setIfInBounds c its[p]).setIfInBounds p its[c]), gens := g, drawn := d, toks := tk, os := os } := by
      intro c c0 c1 hc hmin
      have hy : its[c]? = some its[c] := List.getElem?_eq_getElem hc
      have hsw : ((its.toArray.setIfInBounds c its[p]).setIfInBounds p its[c]) = (swp its c p its[c] its[p]).toArray := by unfold swp; simp
      have pm := swp_perm hy hx (by omega)
      exact ih c (swp its c p its[c] its[p]) _ (by rw [swp_len]; omega) (S.put its _ (fun xs => (xs.setIfInBounds c its[p]).setIfInBounds p its[c]) _ j pm hsw) (by rw [swp_len]; exact hc)
        (down_step O hu c0 c1 hx hy hmin) fun its' s' j' p' h' => hR its' s' j' (p'.trans pm) h'
    have hz2 : ∀ (c : Nat) (a b : Value), ((fun xs : Array Value => (xs.setIfInBounds c a).setIfInBounds p b) its.toArray).size ≤ sizeLine + 1 := fun c a b => by
      show ((its.toArray.setIfInBounds c a).setIfInBounds p b).size ≤ sizeLine + 1
      rw [Array.size_setIfInBounds, Array.size_setIfInBounds]; omega
    have hL : 2 * p + 1 < its.length := by omega
    have hl1 : its.toArray[2 * p + 1]? = some its[2 * p + 1] := by rw [List.getElem?_toArray]; exact List.getElem?_eq_getElem hL
    by_cases h1 : 2 * p + 1 + 1 < its.length
    · have hr1 : its.toArray[2 * p + 1 + 1]? = some its[2 * p + 1 + 1] := by rw [List.getElem?_toArray]; exact List.getElem?_eq_getElem h1
      have hc := fun Q E => S.cmp its _ its[2 * p + 1] its[2 * p + 1 + 1] Q E j (List.getElem_mem hL) (List.getElem_mem h1)
      cases hlt : lt its[2 * p + 1] its[2 * p + 1 + 1] with
      | true =>
        rw [hlt] at hc
        have nxt := go (2 * p + 1) (by omega) (by omega) hL fun d z d0 d1 hd => by
          have : d = 2 * p + 1 ∨ d = 2 * p + 1 + 1 := by omega
          rcases this with rfl | rfl
          · rw [List.getElem?_eq_getElem hL] at hd; cases hd
            cases q : lt its[2 * p + 1] its[2 * p + 1] with
            | false => rfl
            | true => rw [O.asym _ _ q] at q; cases q
          · rw [List.getElem?_eq_getElem h1] at hd; cases hd
            exact O.asym _ _ hlt
        wp_walk
        rw [e0, hl1]
        wp_walk
        rw [hr1]
        wp_walk using hc
        rw [hl1]
        wp_walk
        rw [hx']
        wp_walk using (wpAny_updateSeq hl rfl (hz := hz1) (_hz' := hz2 _ _ _))
        exact ⟨plainId_quiet plain_sift _, nxt⟩
      | false =>
        rw [hlt] at hc
        have nxt := go (2 * p + 1 + 1) (by omega) (by omega) h1 fun d z d0 d1 hd => by
          have : d = 2 * p + 1 ∨ d = 2 * p + 1 + 1 := by omega
          rcases this with rfl | rfl
          · rw [List.getElem?_eq_getElem hL] at hd; cases hd
            exact hlt
          · rw [List.getElem?_eq_getElem h1] at hd; cases hd
            cases q : lt its[2 * p + 1 + 1] its[2 * p + 1 + 1] with
            | false => rfl
            | true => rw [O.asym _ _ q] at q; cases q
        wp_walk
        rw [e0, hl1]
        wp_walk
        rw [hr1]
        wp_walk using hc
        rw [hr1]
        wp_walk
        rw [hx']
        wp_walk using (wpAny_updateSeq hl rfl (hz := hz1) (_hz' := hz2 _ _ _))
        exact ⟨plainId_quiet plain_sift _, nxt⟩
    · have nxt := go (2 * p + 1) (by omega) (by omega) hL fun d z d0 d1 hd => by
        have h3 := (List.getElem?_eq_some_iff.mp hd).1
        have : d = 2 * p + 1 := by omega
        subst this
        rw [List.getElem?_eq_getElem hL] at hd; cases hd
        cases q : lt its[2 * p + 1] its[2 * p + 1] with
        | false => rfl
        | true => rw [O.asym _ _ q] at q; cases q
      wp_walk
      rw [e0, hl1]
      wp_walk
      rw [hx']
      wp_walk using (wpAny_updateSeq hl rfl (hz := hz1) (_hz' := hz2 _ _ _))
      exact ⟨plainId_quiet plain_sift _, nxt⟩
  · have nxt := sift_up S O v R p its _ j hp (down_end hu h0) hR
    wp_walk
    rw [e0]
    exact ⟨plainId_quiet plain_sift _, nxt⟩
end
end HQ

namespace HQ
open PySem PySem.Spec PyProof.Rows L2
theorem lex_irr : ∀ x : List Int, HT.lexLt x x = false
  | [] => rfl
  | a :: x => by unfold HT.lexLt; rw [if_pos rfl]; exact lex_irr x
theorem lex_asym : ∀ x y : List Int, HT.lexLt x y = true → HT.lexLt y x = false
  | [], [], h => by cases h
  | [], _ :: _, _ => rfl
  | _ :: _, [], h => by cases h
  | a :: x, b :: y, h => by
    unfold HT.lexLt at h ⊢
    by_cases e : a = b
    · rw [if_pos e] at h; rw [if_pos e.symm]; exact lex_asym x y h
    · rw [if_neg e] at h; rw [if_neg (Ne.symm e)]
      have := of_decide_eq_true h
      exact decide_eq_false (by omega)
theorem lex_trans : ∀ x y z : List Int, HT.lexLt y x = false → HT.lexLt z y = false → HT.lexLt z x = false
  | [], _, [], _, _ => rfl
  | [], _, _ :: _, _, _ => rfl
  | a :: x, [], _, h, _ => by cases h
  | a :: x, b :: y, [], _, h => by cases h
  | a :: x, b :: y, c :: z, h1, h2 => by
    unfold HT.lexLt at h1 h2 ⊢
    by_cases e1 : b = a
    · rw [if_pos e1] at h1
      by_cases e2 : c = b
      · rw [if_pos e2] at h2
        rw [if_pos (e2.trans e1)]; exact lex_trans x y z h1 h2
      · rw [if_neg e2] at h2
        have e3 : c ≠ a := by omega
        rw [if_neg e3]
        have := of_decide_eq_false h2
        exact decide_eq_false (by omega)
    · rw [if_neg e1] at h1
      have g1 := of_decide_eq_false h1
      by_cases e2 : c = b
      · have e3 : c ≠ a := by omega
        rw [if_neg e3]; exact decide_eq_false (by omega)
      · rw [if_neg e2] at h2
        have g2 := of_decide_eq_false h2
        have e3 : c ≠ a := by omega
        rw [if_neg e3]; exact decide_eq_false (by omega)
def vv : Value → V
  | .ref a => .ref a
  | _ => .non
def ltv (kf : V → List Int) (u v : Value) : Bool := HT.lexLt (kf (vv u)) (kf (vv v))
def ltk (kf : V → List Int) (u v : V) : Bool := HT.lexLt (kf u) (kf v)
theorem ord_v (kf : V → List Int) : Ord Value (ltv kf) := ⟨fun _ _ h => lex_asym _ _ h, fun _ _ _ h1 h2 => lex_trans _ _ _ h1 h2⟩
theorem ord_k (kf : V → List Int) : Ord V (ltk kf) := ⟨fun _ _ h => lex_asym _ _ h, fun _ _ _ h1 h2 => lex_trans _ _ _ h1 h2⟩
/-- a list of tuples of ints -/
def Tups (K : PySem.W.Frag) (H : Hp) (kf : V → List Int) (xs : List V) : Prop := ∀ x ∈ xs, ∃ t, x = .ref t ∧ SqT K H t ((kf x).map V.int)
theorem vals_refs : ∀ {ys : List V} {its : List Value}, (∀ y ∈ ys, ∃ t, y = V.ref t) → Vals ys its → its.map vv = ys ∧ Vals (its.map vv) its
  | _, _, _, .nil => ⟨rfl, .nil⟩
  | y :: ys, u :: us, h, .cons r t => by
    obtain ⟨a, rfl⟩ := h y List.mem_cons_self
    obtain ⟨e1, e2⟩ := vals_refs (fun z hz => h z (List.mem_cons_of_mem _ hz)) t
    cases r
    exact ⟨by rw [List.map_cons, e1]; rfl, .cons rfl e2⟩
theorem vals_back : ∀ {its : List Value}, (∀ u ∈ its, ∃ t, u = Value.ref t) → Vals (its.map vv) its
  | [], _ => .nil
  | u :: us, h => by
    obtain ⟨a, rfl⟩ := h u List.mem_cons_self
    exact .cons rfl (vals_back fun z hz => h z (List.mem_cons_of_mem _ hz))
theorem refs_of : ∀ {ys : List V} {its : List Value}, (∀ y ∈ ys, ∃ t, y = V.ref t) → Vals ys its → ∀ u ∈ its, ∃ t, u = Value.ref t
  | _, _, _, .nil, _, hu => by cases hu
  | y :: ys, u :: us, h, .cons r t, v, hv => by
    obtain ⟨a, rfl⟩ := h y List.mem_cons_self
    rcases List.mem_cons.mp hv with e | hv
    · cases r; exact ⟨a, e⟩
    · exact refs_of (fun z hz => h z (List.mem_cons_of_mem _ hz)) t v hv
theorem sqt_upd {K : PySem.W.Frag} {H : Hp} {l u : Addr} {xs ys zs : List V} (h : SqT K H u xs) (hl : H l = some (.lst ys)) : SqT K (upd H l (.lst zs)) u xs := by
  rcases h with (h | ⟨o, h⟩) | h
  · exact .inl (.inl (by rw [upd_ne (ne_of h hl (by intro z; cases z))]; exact h))
  · exact .inl (.inr ⟨o, by rw [upd_ne (ne_of h hl (by intro z; cases z))]; exact h⟩)
  · exact .inr h
section
variable {X : Cx}
/-- the simulation: the list at l holds some order of xs -/
def JL (X : Cx) (pins : List (Addr × Obj)) (σ : L2.St) (H : Hp) (l : Addr) (xs : List V) (its : List Value) (s : Shared) : Prop := (∀ u ∈ its, ∃ t, u = Value.ref t) ∧ (its.map vv).Perm xs ∧ Inv X pins σ (upd H l (.lst (its.map vv))) s
theorem jl_get {pins σ H l s} {its : List Value} (h1 : ∀ u ∈ its, ∃ t, u = Value.ref t) (I : Inv X pins σ (upd H l (.lst (its.map vv))) s) :
    ∃ n, its.length ≤ sizeLine ∧ s.heap.get? l = some { cls := .type "list", dict := none, data := .seq its.toArray n, slots := #[] } := by
  obtain ⟨z, its', n, r, e1, e2⟩ := I.lstM upd_same
  rw [List.length_map] at z
  have q : ∀ y ∈ its.map vv, ∃ t, y = V.ref t := fun y hy => by
    obtain ⟨u, hu1, hu2⟩ := List.mem_map.mp hy
    obtain ⟨t, rfl⟩ := h1 u hu1
    exact ⟨t, hu2.symm⟩
  have b1 := (vals_refs q r).1
  have a1 := refs_of q r
  have e3 : its' = its := by
    clear e1 e2 r z I q
    induction its generalizing its' with
    | nil => cases its' with
      | nil => rfl
      | cons _ _ => cases b1
    | cons u us ih =>
      cases its' with
      | nil => cases b1
      | cons v vs =>
        rw [List.map_cons, List.map_cons] at b1
        injection b1 with b1 b2
        obtain ⟨t1, rfl⟩ := h1 u List.mem_cons_self
        obtain ⟨t2, rfl⟩ := a1 v List.mem_cons_self
        have : t2 = t1 := by injection b1
        rw [this, ih (fun z hz => h1 z (List.mem_cons_of_mem _ hz)) vs b2 fun z hz => a1 z (List.mem_cons_of_mem _ hz)]
  subst e3
  exact ⟨n, z, e2⟩
theorem sim {pins σ H l xs kf} {ys : List V} (hl : H l = some (.lst ys)) (hx : Tups X.K H kf xs) (hu : X.A.in1.units < cLine) : Sim X.prog X.w X.A l (ltv kf) (JL X pins σ H l xs) := by
  refine ⟨fun its s j => ?_, fun its its' f s j p e => ?_, fun its s x y Q E j mx my q => ?_⟩
  · obtain ⟨h1, h2, I⟩ := j
    obtain ⟨n, z, e⟩ := jl_get h1 I
    exact ⟨z, n, e⟩
  · obtain ⟨h1, h2, I⟩ := id j
    obtain ⟨n, z, e1⟩ := jl_get h1 I
    have h1' : ∀ u ∈ its', ∃ t, u = Value.ref t := fun u hu => h1 u (p.mem_iff.mp hu)
    refine ⟨h1', (p.map vv).trans h2, ?_⟩
    have := I.lset (ys := its'.map vv) (its' := its') (f := f) (t' := s.toks) upd_same e1 e (vals_back h1') (by rw [List.length_map, p.length_eq]; exact z)
    rw [upd_upd] at this
    exact this
  · obtain ⟨h1, h2, I⟩ := j
    obtain ⟨a, rfl⟩ := h1 x mx
    obtain ⟨b, rfl⟩ := h1 y my
    obtain ⟨t1, e1, s1⟩ := hx (.ref a) (h2.mem_iff.mp (List.mem_map.mpr ⟨_, mx, rfl⟩))
    obtain ⟨t2, e2, s2⟩ := hx (.ref b) (h2.mem_iff.mp (List.mem_map.mpr ⟨_, my, rfl⟩))
    cases e1
    cases e2
    obtain ⟨its1, r1, p1, _⟩ := I.tuple (sqt_upd s1 hl)
    obtain ⟨its2, r2, p2, _⟩ := I.tuple (sqt_upd s2 hl)
    exact HT.lt_tupInts p1 p2 (intsAre_of r1) (intsAre_of r2) hu q
end
section
variable {X : Cx}
@[irreducible] def rHPush (K : PySem.W.Frag) : List V → Hp → VK → Prop := fun vs H Q => ∃ (l : Addr) (xs : List V) (x : V) (kf : V → List Int), vs = [.ref l, x] ∧ H l = some (.lst xs) ∧ xs.length < sizeLine ∧ Tups K H kf (xs ++ [x]) ∧ Hp0 (ltk kf) xs ∧
  ∀ ys, ys.Perm (xs ++ [x]) → Hp0 (ltk kf) ys → Q .non (upd H l (.lst ys))
@[irreducible] def rHPop (K : PySem.W.Frag) : List V → Hp → VK → Prop := fun vs H Q => ∃ (l : Addr) (xs : List V) (kf : V → List Int), vs = [.ref l] ∧ H l = some (.lst xs) ∧ xs ≠ [] ∧ Tups K H kf xs ∧ Hp0 (ltk kf) xs ∧
  ∀ y ys, xs.Perm (y :: ys) → (∀ z ∈ ys, ltk kf z y = false) → Hp0 (ltk kf) ys → Q y (upd H l (.lst ys))
theorem hp0_map {kf : V → List Int} {its : List Value} : Hp0 (ltv kf) its ↔ Hp0 (ltk kf) (its.map vv) := by
  constructor
  · intro h i x y hi hx hy
    rw [List.getElem?_map] at hx hy
    obtain ⟨u, hu, rfl⟩ := Option.map_eq_some_iff.mp hx
    obtain ⟨v, hv, rfl⟩ := Option.map_eq_some_iff.mp hy
    exact h i u v hi hu hv
  · intro h i u v hi hu hv
    exact h i (vv u) (vv v) hi (by rw [List.getElem?_map, hu]; rfl) (by rw [List.getElem?_map, hv]; rfl)
theorem call_fun {prog : Program} {w : World} {A : Around} {E : Value → Shared → Prop} {s : Shared} {id : String} {B : Builtin} {args : List Value} {Q : Value → Shared → Prop} (kind : builtinKind id = none) (plain : plainId id = true) (entry : entryFor table id = some B) (ok : argsOk id ⟨args, []⟩)
    (h : wpAny (model prog w) A.in1 (B ⟨args, []⟩) (fun fin s' => match fin with | .done f => wants Q E (.ok f) s' | .again c' => c'.quiet = true ∧ codeAny (model prog w) A c' (wants Q E) s') (fun e s' => wants Q E (.error e) s') s) :
    wpAny (model prog w) A (call (.builtin id) args) Q E s := by
  refine wpAny_call (codeAny_call_builtin plain entry (R := wants Q E) ?_)
  simp only [checkBuiltinCall, kind]
  cases hsig : Manifest.signature? id with
  | none => exact wpAny_pure h
  | some sig =>
    simp only [argsOk, hsig] at ok
    have h2 : Bind.checkArgs id sig ⟨args, []⟩ = pure () := ok
    show wpAny _ _ (Bind.checkArgs id sig ⟨args, []⟩) _ _ s
    rw [h2]; exact wpAny_pure h
theorem cr_push (hu : X.A.units + 1 < cLine) : CallR X (.builtin "_heapq.heappush") (rHPush X.K) := by
  intro pins s σ H vs us Q I r h
  unfold rHPush at h
  obtain ⟨l, xs, x, kf, rfl, hl, hz, ht, hp, q⟩ := h
  obtain ⟨u1, u2, rfl, r1, r2⟩ := Vals.two r
  cases r1
  obtain ⟨z, its, n, rv, e1, e⟩ := I.lstM hl
  obtain ⟨a, rfl, _⟩ := ht x (List.mem_append.mpr (.inr List.mem_cons_self))
  cases r2
  have refs : ∀ y ∈ xs ++ [V.ref a], ∃ t, y = V.ref t := fun y hy => let ⟨t, e, _⟩ := ht y hy; ⟨t, e⟩
  have rv2 : Vals (xs ++ [V.ref a]) (its ++ [Value.ref a]) := rv.append (.cons rfl .nil)
  have em := (vals_refs refs rv2).1
  have S := sim (X := X) (pins := pins) (σ := σ) (xs := xs ++ [V.ref a]) hl ht hu
  have hz1 : its.toArray.size ≤ sizeLine := by rw [List.size_toArray, ← e1]; exact z
  have hz2 : (its.toArray.push (Value.ref a)).size ≤ sizeLine + 1 := by rw [Array.size_push]; omega
  have I2 := I.lset (ys := xs ++ [V.ref a]) (its' := its ++ [Value.ref a]) (f := fun x => x.push (Value.ref a)) (t' := s.toks) hl e (by simp) rv2 (by rw [List.length_append, List.length_singleton]; omega)
  have hup : Hu (ltv kf) (its ++ [Value.ref a]) its.length := push_start (hp0_map.mpr (by
    have := (vals_refs (fun y hy => refs y (List.mem_append.mpr (.inl hy))) rv).1
    rw [this]; exact hp)) _
  have nxt := fun (R : Result → Shared → Prop) hR => sift_up S (ord_v kf) Value.none R its.length (its ++ [Value.ref a]) { s with heap := s.heap.update l (Obj.mapSeq fun x => x.push (Value.ref a)) }
    ⟨refs_of refs rv2, by rw [em], by rw [em]; exact I2⟩ (by simp) hup hR
  refine call_fun kind_push plain_push entry_push (args_push _ _) ?_
  have nx := nxt (wants (EP X pins σ Q) X.xe) fun its' s' j' p' h' => ⟨.non, _, j'.2.2, rfl, q _ j'.2.1 (hp0_map.mp h')⟩
  obtain ⟨hh, g, d, tk, os⟩ := s
  unfold Builtin.«_heapq.heappush»
  have i1 := AutoSeq1.sub_list_list
  wp_walk using (wpAny_updateSeq e rfl (hz := hz1) (_hz' := hz2))
  have esz : ((fun x : Array Value => x.push (Value.ref a)) its.toArray).size - 1 = its.length := by simp
  refine ⟨plainId_quiet plain_sift _, ?_⟩
  rw [esz]
  exact nx
theorem cr_pop (hu : X.A.units + 1 < cLine) : CallR X (.builtin "_heapq.heappop") (rHPop X.K) := by
  intro pins s σ H vs us Q I r h
  unfold rHPop at h
  obtain ⟨l, xs, kf, rfl, hl, hne, ht, hp, q⟩ := h
  obtain ⟨u1, rfl, r1⟩ := Vals.one r
  cases r1
  obtain ⟨z, its, n, rv, e1, e⟩ := I.lstM hl
  have refs : ∀ y ∈ xs, ∃ t, y = V.ref t := fun y hy => let ⟨t, e, _⟩ := ht y hy; ⟨t, e⟩
  have em := (vals_refs refs rv).1
  have hr := refs_of refs rv
  have S := sim (X := X) (pins := pins) (σ := σ) (xs := xs) hl ht hu
  have hz1 : its.toArray.size ≤ sizeLine := by rw [List.size_toArray, ← e1]; exact z
  have i1 := AutoSeq1.sub_list_list
  have hq0 := hp0_map.mpr (show Hp0 (ltk kf) (its.map vv) by rw [em]; exact hp)
  refine call_fun kind_pop plain_pop entry_pop (args_pop _) ?_
  rcases List.eq_nil_or_concat its with rfl | ⟨r0, zz, rfl⟩
  · exact absurd (by rw [← em]; rfl) hne
  have hback : (r0.concat zz).toArray.back? = some zz := by simp
  have hz2 : (r0.concat zz).toArray.pop.size ≤ sizeLine + 1 := by rw [Array.size_pop]; omega
  have I2 := I.lset (ys := r0.map vv) (its' := r0) (f := fun x => x.pop) (t' := s.toks) hl e (by simp) (vals_back fun u hu => hr u (by simp [hu])) (by
    rw [List.length_map]; rw [List.length_concat] at e1; omega)
  have e2 := PySem.IsL.update e (fun x : Array Value => x.pop)
  have ep : (r0.concat zz).toArray.pop = r0.toArray := by simp
  rw [ep] at e2
  cases r0 with
  | nil =>
    obtain ⟨b, rfl⟩ := hr zz (by simp)
    have hq := q (.ref b) [] (by rw [← em]; exact .refl _) (fun _ h => by cases h) (fun i x y _ h => by simp at h)
    obtain ⟨hh, g, d, tk, os⟩ := s
    unfold Builtin.«_heapq.heappop»
    wp_walk using (wpAny_updateSeq e rfl (hz := hz1) (_hz' := hz2))
    exact ⟨.ref b, _, I2, rfl, hq⟩
  | cons u r1 =>
    obtain ⟨b, rfl⟩ := hr u (by simp)
    have hns : ¬ ((Value.ref b :: r1).concat zz).length = 1 := by rw [List.length_concat, List.length_cons]; omega
    have hr1 : ∀ u ∈ zz :: r1, ∃ t, u = Value.ref t := fun u hu => hr u (by
      rcases List.mem_cons.mp hu with e | hu
      · rw [e]; simp
      · simp [hu])
    have hz3 : (Value.ref b :: r1).toArray.size ≤ sizeLine := by
      rw [List.size_toArray]; rw [List.size_toArray, List.length_concat] at hz1; omega
    have hz4 : ((Value.ref b :: r1).toArray.setIfInBounds 0 zz).size ≤ sizeLine + 1 := by rw [Array.size_setIfInBounds]; omega
    have I3 := I2.lset (ys := (zz :: r1).map vv) (its' := zz :: r1) (f := fun x => x.setIfInBounds 0 zz) (t' := s.toks) upd_same e2 (by simp) (vals_back hr1) (by
      rw [List.length_map, List.length_cons]; rw [List.size_toArray, List.length_cons] at hz3; omega)
    rw [upd_upd] at I3
    have hdn : He (ltv kf) (zz :: r1) 0 := pop_start (x := Value.ref b) (by rw [List.concat_eq_append] at hq0; exact hq0) (l := r1 ++ [zz]) rfl
    have pmx : xs.Perm (vv (Value.ref b) :: (zz :: r1).map vv) := by
      rw [← em]
      have p0 : ((Value.ref b :: r1).concat zz).Perm (Value.ref b :: zz :: r1) := by
        rw [List.concat_eq_append, List.cons_append]
        exact List.Perm.cons _ (List.perm_append_singleton _ _)
      exact p0.map vv
    have S1 := sim (X := X) (pins := pins) (σ := σ) (kf := kf) (xs := (zz :: r1).map vv) hl (fun y hy => ht y (pmx.mem_iff.mpr (List.mem_cons_of_mem _ hy))) hu
    have least := root_least (ord_k kf) (fun x => lex_irr _) hp (r := vv (Value.ref b)) (by rw [← em]; rfl)
    have nx := sift_down S1 (ord_v kf) (Value.ref b) (wants (EP X pins σ Q) X.xe) _ 0 (zz :: r1) _ (Nat.le_refl _) ⟨hr1, .refl _, I3⟩ (by simp) hdn fun its' s' j' p' h' =>
      ⟨.ref b, _, j'.2.2, rfl, q _ _ (pmx.trans (.cons _ (p'.map vv).symm)) (fun z hz => by
        have hz' : z ∈ xs := pmx.mem_iff.mpr (List.mem_cons_of_mem _ ((p'.map vv).mem_iff.mp hz))
        obtain ⟨i, hi⟩ := List.mem_iff_getElem?.mp hz'
        exact least i z hi) (hp0_map.mp h')⟩
    obtain ⟨hh, g, d, tk, os⟩ := s
    unfold Builtin.«_heapq.heappop»
    have hns' : (((Value.ref b :: r1).concat zz).toArray.size == 1) = false := by rw [List.size_toArray]; exact beq_eq_false_iff_ne.mpr hns
    have h0' : ((Value.ref b :: r1).concat zz).toArray[0]? = some (Value.ref b) := by simp
    wp_walk
    rw [hback]
    have e2' : IsL (hh.update l (Obj.mapSeq Array.pop)) l (Value.ref b :: r1).toArray (if ((Value.ref b :: r1).toArray.size == ((Value.ref b :: r1).concat zz).toArray.size) = true then n else n + 1) := e2
    wp_walk using (wpAny_updateSeq e2' rfl (hz := hz3) (_hz' := hz4)), (wpAny_updateSeq e rfl (hz := hz1) (_hz' := hz2))
    exact ⟨plainId_quiet plain_sift _, nx⟩
end
end HQ

section
namespace K30
theorem iteF' {A B : Prop} {i : Decidable (false = true)} (h : B) : @ite Prop (false = true) i A B := by rw [if_neg Bool.false_ne_true]; exact h
theorem iteT' {A B : Prop} {i : Decidable (true = true)} (h : A) : @ite Prop (true = true) i A B := by rw [if_pos rfl]; exact h
end K30
local macro_rules | `(tactic| walk_at "ne") => `(tactic| first | assumption | exact Ne.symm (by assumption) | exact L2.ne_of_none (by assumption) (by assumption) | exact Ne.symm (L2.ne_of_none (by assumption) (by assumption)) | (refine L2.ne_of (by assumption) (by assumption) ?_; intro z; cases z))
local macro_rules | `(tactic| walk_at "hp") => `(tactic| first | assumption | exact L2.upd_same | (refine (L2.upd_ne ?_).trans ?_; (walk_at "ne"); (walk_at "hp")))
local macro_rules | `(tactic| walk_at "sq") => `(tactic| first | assumption | exact L2.SqL.of (by walk_at "hp") | exact L2.SqT.of (by walk_at "hp"))
local macro_rules | `(tactic| walk_at "at") => `(tactic| first | assumption | exact rfl)
local macro_rules | `(tactic| walk_at "om") => `(tactic| first | omega | (dsimp only; omega) | decide)
local macro_rules | `(tactic| walk_at "sc") => `(tactic| first | omega | (dsimp only; omega) | assumption | decide | exact .inl ⟨by walk_at "om", by walk_at "om"⟩ | exact .inr ⟨by walk_at "om", by walk_at "om"⟩ | exact ⟨by walk_at "om", by walk_at "om"⟩ | exact ⟨by walk_at "om", by walk_at "om", by walk_at "om"⟩ | exact Nat.le_of_ble_eq_true rfl | (show L2.wipe _ _ = _; rfl) | (show L2.scal _ _ = true; rfl) | exact L2.small1000 (by simp only [List.length_map, List.length_append, List.length_cons, List.length_nil]; omega))
local macro_rules | `(tactic| walk_at "s1") => `(tactic| first
  | refine ⟨_, rfl, ?_⟩
  | refine ⟨_, _, rfl, rfl, ?_⟩
  | refine ⟨_, _, rfl, .inl (by walk_at "sq"), ?_⟩
  | refine ⟨_, _, rfl, .inr (by walk_at "sq"), ?_⟩
  | refine ⟨_, _, _, _, rfl, rfl, (by walk_at "sq"), (by walk_at "at"), ?_⟩
  | refine ⟨_, _, _, _, rfl, rfl, (by walk_at "hp"), (by walk_at "at"), ?_⟩
  | refine ⟨_, _, _, rfl, rfl, (by walk_at "hp"), (by walk_at "sc"), ?_⟩
  | refine .inl ⟨_, rfl, ?_⟩
  | refine K30.iteF' ?_
  | refine K30.iteT' ?_
  | refine And.intro (by walk_at "sc") ?_
  | refine And.intro ⟨_, by walk_at "sq"⟩ ?_
  | refine And.intro (.inl ⟨rfl, _, by walk_at "sq"⟩) ?_)
local macro_rules | `(tactic| walk_at "s") => `(tactic| repeat (walk_at "s1"))

namespace K30
open PySem L2
def topS (i : Nat) : Stmt := PySem.Challenge.pw_papersat_k30_ways_settle.main.body.getD i (.Pass ⟨0, 0, 0, 0⟩)
structure DefA (K : PySem.W.Frag) (mg : Str → Option Value) (x : Str) (st : Stmt) (ps : List Str) : Prop where
  ex : ∃ (f : Addr) (fd : FuncData), C8.Def K mg x st f fd ∧ Binds K fd ps []
structure Bi (mg : Str → Option Value) : Prop where
  b_len : mg "len" = none
  b_int : mg "int" = none
  b_range : mg "range" = none
  b_sorted : mg "sorted" = none
  b_list : mg "list" = none
  b_isinstance : mg "isinstance" = none
  b_dict : mg "dict" = none
  b_bool : mg "bool" = none
theorem t_len : bootBuiltins "len" = some (.builtin "len") := by decide +kernel
theorem t_int : bootBuiltins "int" = some (.type "int") := by decide +kernel
theorem t_sorted : bootBuiltins "sorted" = some (.builtin "sorted") := by decide +kernel
theorem t_list : bootBuiltins "list" = some (.type "list") := by decide +kernel
theorem t_isinstance : bootBuiltins "isinstance" = some (.builtin "isinstance") := by decide +kernel
theorem t_dict : bootBuiltins "dict" = some (.type "dict") := by decide +kernel
theorem t_bool : bootBuiltins "bool" = some (.type "bool") := by decide +kernel
/-- the script: it stands as it is (frozen or of the module) -/
def Scr (K : PySem.W.Frag) (H : Hp) (a : Addr) (ns : List Int) : Prop := (∃ o, H a = some (.frz o (.lst (ns.map V.int)))) ∨ (∃ (o : Obj) (its : Array Value) (n : Nat), K.lookup a = some o ∧ o.cls = .type "list" ∧ o.dict = none ∧ o.data = .seq its n ∧ its.size ≤ sizeLine ∧ Vals (ns.map V.int) its.toList)
theorem Scr.sq {K : PySem.W.Frag} {H : Hp} {a : Addr} {ns : List Int} (h : Scr K H a ns) : SqL K H a (ns.map V.int) := by
  rcases h with ⟨o, h⟩ | h
  · exact .inl (.inr ⟨o, h⟩)
  · exact .inr h
/-- all but p is as it was -/
def But (p : Addr) (H H' : Hp) : Prop := ∀ b o, H b = some o → b ≠ p → H' b = some o
/-- a source of draws -/
def Pool (H : Hp) (p : Addr) : Prop := ∃ (c k : Int) (b : Bool) (s : Int), H p = some (.lst [.int c, .int k, .bl b, .int s])
theorem But.refl (p : Addr) (H : Hp) : But p H H := fun _ _ e _ => e
theorem But.trans {p : Addr} {H H1 H2 : Hp} (a : But p H H1) (b : But p H1 H2) : But p H H2 := fun c o e h => b c o (a c o e h) h
theorem But.same {p : Addr} {H H1 : Hp} (a : Same H H1) : But p H H1 := fun c o e _ => a c o e
theorem But.upd {p : Addr} {H : Hp} {o : HO} : But p H (upd H p o) := fun b o e hb => (upd_ne hb).trans e
theorem But.new {p q : Addr} {H H1 : Hp} {o : HO} (a : But p H H1) (h : H1 q = none) : But p H (L2.upd H1 q o) := fun b u e hb => (upd_ne (ne_of_none (a b u e hb) h)).trans (a b u e hb)
theorem same_new {q : Addr} {H H1 : Hp} {o : HO} (a : Same H H1) (h : H1 q = none) : Same H (L2.upd H1 q o) := fun b u e => (upd_ne (ne_of_none (a b u e) h)).trans (a b u e)
theorem But.free {p q : Addr} {H H1 : Hp} (a : But p H H1) (hp : q ≠ p) (h : H1 q = none) : H q = none := by
  cases e : H q with
  | none => rfl
  | some o => rw [a q o e hp] at h; cases h
/-- what p changes was not there: all is as it was -/
theorem But.off {p : Addr} {H H1 : Hp} (a : But p H H1) (h : H p = none) : Same H H1 := fun b o e => a b o e (ne_of_none e h)
theorem But.seq {K : PySem.W.Frag} {p : Addr} {H H1 : Hp} {a : Addr} {xs ys : List V} (e : But p H H1) (h : SqL K H a xs) (hp : H p = some (.lst ys)) (hf : (∃ o, H a = some (.frz o (.lst xs))) ∨ a ≠ p) : SqL K H1 a xs := by
  rcases h with (h | ⟨o, h⟩) | h
  · rcases hf with ⟨o, hf⟩ | hf
    · rw [h] at hf; cases hf
    · exact .inl (.inl (e _ _ h hf))
  · exact .inl (.inr ⟨o, e _ _ h (ne_of h hp (by intro z; cases z))⟩)
  · exact .inr h
def sp_pool (K : PySem.W.Frag) : Sp := fun vs H Q _ => ∃ (a : Addr) (ns : List Int) (k : Int), vs = [.ref a, .int k] ∧ SqL K H a (ns.map V.int) ∧ 0 ≤ k ∧ ∀ p H', H p = none → Same H H' → Pool H' p → Q (.ref p) H'
def sp_take : Sp := fun vs H Q _ => ∃ (p : Addr) (n : Int), vs = [.ref p, .int n] ∧ Pool H p ∧ 0 < n ∧ n < 1073741824 ∧ ∀ r H', 0 ≤ r → r < n → Pool H' p → But p H H' → Q (.int r) H'
abbrev n_init : List Str := ["self"]
abbrev p_init : List Str := ["self"]
abbrev s_init : Stmt := inClass (topS 2) 0
theorem sc_init : FnScope n_init p_init (C8.fnScope s_init) := C8.fnScope_by (by decide +kernel)
abbrev n_limit : List Str := ["self", "x", "y", "k", "label", "place"]
abbrev p_limit : List Str := ["self", "x", "y", "k", "label"]
abbrev s_limit : Stmt := inClass (topS 2) 1
theorem sc_limit : FnScope n_limit p_limit (C8.fnScope s_limit) := C8.fnScope_by (by decide +kernel)
abbrev n_limits : List Str := ["self"]
abbrev p_limits : List Str := ["self"]
abbrev s_limits : Stmt := inClass (topS 2) 2
theorem sc_limits : FnScope n_limits p_limits (C8.fnScope s_limits) := C8.fnScope_by (by decide +kernel)
abbrev n_settle : List Str := ["self", "ring"]
abbrev p_settle : List Str := ["self"]
abbrev s_settle : Stmt := inClass (topS 2) 5
theorem sc_settle : FnScope n_settle p_settle (C8.fnScope s_settle) := C8.fnScope_by (by decide +kernel)
abbrev n_next : List Str := ["self", "x", "y", "k", "_", "fall", "leading", "queue", "causes", "lowered", "change", "place", "number", "entry"]
abbrev p_next : List Str := ["self"]
abbrev s_next : Stmt := inClass (topS 2) 6
theorem sc_next : FnScope n_next p_next (C8.fnScope s_next) := C8.fnScope_by (by decide +kernel)
abbrev n_leading : List Str := ["self", "leading", "number"]
abbrev p_leading : List Str := ["self"]
abbrev s_leading : Stmt := inClass (topS 2) 7
theorem sc_leading : FnScope n_leading p_leading (C8.fnScope s_leading) := C8.fnScope_by (by decide +kernel)
abbrev n_falls : List Str := ["self", "numbers", "lowered", "entries", "number", "x", "y", "k", "_", "change"]
abbrev p_falls : List Str := ["self", "numbers", "lowered"]
abbrev s_falls : Stmt := inClass (topS 2) 8
theorem sc_falls : FnScope n_falls p_falls (C8.fnScope s_falls) := C8.fnScope_by (by decide +kernel)
abbrev n_ring : List Str := ["self", "place", "causes", "labels", "number"]
abbrev p_ring : List Str := ["self", "place", "causes"]
abbrev s_ring : Stmt := inClass (topS 2) 9
theorem sc_ring : FnScope n_ring p_ring (C8.fnScope s_ring) := C8.fnScope_by (by decide +kernel)
abbrev n_pool : List Str := ["_law_script", "_law_k", "_law_cell", "_law_spare"]
abbrev p_pool : List Str := ["_law_script", "_law_k"]
abbrev s_pool : Stmt := topS 4
theorem sc_pool : FnScope n_pool p_pool (C8.fnScope s_pool) := C8.fnScope_by (by decide +kernel)
abbrev n_take : List Str := ["_law_pool_here", "_law_size", "_law_k", "_law_cell", "_law_mixed_here"]
abbrev p_take : List Str := ["_law_pool_here", "_law_size"]
abbrev s_take : Stmt := topS 5
theorem sc_take : FnScope n_take p_take (C8.fnScope s_take) := C8.fnScope_by (by decide +kernel)
abbrev n_turn : List Str := ["_law_script", "_law_pool_here", "_law_k"]
abbrev p_turn : List Str := ["_law_script", "_law_pool_here", "_law_k"]
abbrev s_turn : Stmt := topS 6
theorem sc_turn : FnScope n_turn p_turn (C8.fnScope s_turn) := C8.fnScope_by (by decide +kernel)
abbrev n_mixed : List Str := ["_law_row", "_law_pool_here", "_law_turn_here", "_law_pairs", "_law_k", "_law_pair"]
abbrev p_mixed : List Str := ["_law_row", "_law_pool_here"]
abbrev s_mixed : Stmt := topS 7
theorem sc_mixed : FnScope n_mixed p_mixed (C8.fnScope s_mixed) := C8.fnScope_by (by decide +kernel)
abbrev n_height : List Str := ["_law_pool_here", "_law_great"]
abbrev p_height : List Str := ["_law_pool_here", "_law_great"]
abbrev s_height : Stmt := topS 8
theorem sc_height : FnScope n_height p_height (C8.fnScope s_height) := C8.fnScope_by (by decide +kernel)
abbrev n_places : List Str := ["_law_pool_here", "_law_most", "_law_wide", "_law_places_here", "_law_k"]
abbrev p_places : List Str := ["_law_pool_here", "_law_most"]
abbrev s_places : Stmt := topS 9
theorem sc_places : FnScope n_places p_places (C8.fnScope s_places) := C8.fnScope_by (by decide +kernel)
abbrev n_loose : List Str := ["_law_script", "_law_pool_here", "_law_places_here", "_law_heights_here", "_law_free", "_law_rows", "_law_k", "_law_turn_here", "_law_a", "_law_b", "_law_slack"]
abbrev p_loose : List Str := ["_law_script", "_law_pool_here", "_law_places_here", "_law_heights_here"]
abbrev s_loose : Stmt := topS 10
theorem sc_loose : FnScope n_loose p_loose (C8.fnScope s_loose) := C8.fnScope_by (by decide +kernel)
abbrev n_circle : List Str := ["_law_pool_here", "_law_places_here", "_law_heights_here", "_law_k", "_law_order", "_law_many", "_law_rest", "_law_rows", "_law_a", "_law_b", "_law_slack"]
abbrev p_circle : List Str := ["_law_pool_here", "_law_places_here", "_law_heights_here"]
abbrev s_circle : Stmt := topS 11
theorem sc_circle : FnScope n_circle p_circle (C8.fnScope s_circle) := C8.fnScope_by (by decide +kernel)
abbrev n_drawn : List Str := ["_law_script", "_law_pool_here", "_law_most", "_law_great", "_law_places_here", "_law_heights_here", "_law_rows", "_law_k", "_law_stride", "_law_shift", "_law_out", "_law_label", "_law_place"]
abbrev p_drawn : List Str := ["_law_script"]
abbrev s_drawn : Stmt := topS 12
theorem sc_drawn : FnScope n_drawn p_drawn (C8.fnScope s_drawn) := C8.fnScope_by (by decide +kernel)
abbrev n_whole : List Str := ["_law_value"]
abbrev p_whole : List Str := ["_law_value"]
abbrev s_whole : Stmt := topS 13
theorem sc_whole : FnScope n_whole p_whole (C8.fnScope s_whole) := C8.fnScope_by (by decide +kernel)
abbrev n_due : List Str := ["_law_rows", "_law_places_here", "_law_row", "_law_place"]
abbrev p_due : List Str := ["_law_rows"]
abbrev s_due : Stmt := topS 14
theorem sc_due : FnScope n_due p_due (C8.fnScope s_due) := C8.fnScope_by (by decide +kernel)
abbrev n_heights : List Str := ["_law_limits", "_law_places_here", "_law_heights_here", "_law_turn_here", "_law_changed", "_law_limit", "_law_x", "_law_y", "_law_place"]
abbrev p_heights : List Str := ["_law_limits", "_law_places_here"]
abbrev s_heights : Stmt := topS 15
theorem sc_heights : FnScope n_heights p_heights (C8.fnScope s_heights) := C8.fnScope_by (by decide +kernel)
abbrev n_lring : List Str := ["_law_told", "_law_rows", "_law_table", "_law_row", "_law_walk", "_law_label", "_law_firsts", "_law_total", "_law_k"]
abbrev p_lring : List Str := ["_law_told", "_law_rows"]
abbrev s_lring : Stmt := topS 16
theorem sc_lring : FnScope n_lring p_lring (C8.fnScope s_lring) := C8.fnScope_by (by decide +kernel)
abbrev n_holds : List Str := ["_law_ways", "_law_rows", "_law_heights_here", "_law_place", "_law_row"]
abbrev p_holds : List Str := ["_law_ways", "_law_rows"]
abbrev s_holds : Stmt := topS 17
theorem sc_holds : FnScope n_holds p_holds (C8.fnScope s_holds) := C8.fnScope_by (by decide +kernel)
abbrev n_settled : List Str := ["_law_ways", "_law_rows", "_law_possible", "_law_turn_here", "_law_told"]
abbrev p_settled : List Str := ["_law_ways", "_law_rows", "_law_possible"]
abbrev s_settled : Stmt := topS 18
theorem sc_settled : FnScope n_settled p_settled (C8.fnScope s_settled) := C8.fnScope_by (by decide +kernel)
abbrev n_law : List Str := ["_law_script", "_law_rows", "_law_possible", "_law_pair", "_law_k", "_law_side", "_law_row", "_law_ways", "_law_count"]
abbrev p_law : List Str := ["_law_script"]
abbrev s_law : Stmt := topS 19
theorem sc_law : FnScope n_law p_law (C8.fnScope s_law) := C8.fnScope_by (by decide +kernel)
abbrev n_wheights : List Str := ["self", "base", "place"]
abbrev p_wheights : List Str := ["self"]
abbrev s_wheights : Stmt := inClass (topS 2) 4
theorem sc_wheights : FnScope n_wheights p_wheights (C8.fnScope s_wheights) := C8.fnScope_by (by decide +kernel)

section
variable {P : Program} {w : World} {K : PySem.W.Frag} {mg : Str → Option Value} {base : Heap}
theorem c_pool (T : Bi mg) (D : DefA K mg "_law_pool" s_pool ["_law_script", "_law_k"]) : C8.Cal P w K mg base 1 "_law_pool" (sp_pool K) [] := by
  obtain ⟨f, fd, D, b⟩ := D.ex
  refine C8.cal0 D b .nil sc_pool (fun vs H Q E h => ?_) (fun cdv A outer s H vs Q E hr h => ?_)
  · obtain ⟨a, ns, k, rfl, _⟩ := h
    rfl
  · obtain ⟨a, ns, k, rfl, hS, h0, q⟩ := h
    refine ⟨_, (pss_cons (ps_set (i := 2) sc_pool.nd rfl (Or.inl rfl) (pe_op op_add (pe_op op_mul pe_int (pv 1)) pe_int))
      (pss_cons (ps_set (i := 3) sc_pool.nd rfl (Or.inl rfl) (pe_op op_add (pe_op op_mul pe_int (pv 1)) pe_int))
      (C8.pss_cut (ps_if (pt_cmpR op_lt (pv 1) (pe_callB call_len_seq (by rfl) T.b_len t_len (pa_cons (pv 0) pa_nil)) (nomark _)) (pss_one (ps_set (i := 2) sc_pool.nd rfl (Or.inl rfl) (pe_ix ix_list (pv 0) (pv 1) (fun _ _ => rfl)))) pss_nil)
      (C8.pss_cut (ps_if (pt_cmpR op_lt (pe_op op_add (pv 1) pe_int) (pe_callB call_len_seq (by rfl) T.b_len t_len (pa_cons (pv 0) pa_nil)) (nomark _)) (pss_one (ps_set (i := 3) sc_pool.nd rfl (Or.inl rfl) (pe_ix ix_list (pv 0) (pe_op op_add (pv 1) pe_int) (fun _ _ => rfl)))) pss_nil)
      (pss_one (ps_ret (pe_lst (pa_cons (pv 2) (pa_cons pe_int (pa_cons (pe_cmpR op_ge (pv 2) (pe_op op_pow pe_int pe_int) (nomark _)) (pa_cons (pv 3) pa_nil))))))))))), ?_⟩
    walk_at "s"
    refine ⟨fun σ' H' => H' = H ∧ ∃ c s : Int, σ' = [some (.ref a), some (.int k), some (.int c), some (.int s)], ?_, ?_⟩
    · walk_at "s"
      refine ite2 (fun hk => ?_) (fun _ => ⟨rfl, _, _, rfl⟩)
      have hk' := of_decide_eq_true hk
      rw [List.length_map] at hk'
      have hz : (ns.map V.int)[k.toNat]? = some (.int ns[k.toNat]) := by rw [List.getElem?_map, List.getElem?_eq_getElem (by omega)]; rfl
      have hat := atI_nat hz
      rw [Int.toNat_of_nonneg h0] at hat
      walk_at "s"
      exact ⟨rfl, _, _, rfl⟩
    · rintro σ1 H1 ⟨rfl, c, s, rfl⟩
      refine ⟨fun σ' H' => H' = H1 ∧ ∃ c s : Int, σ' = [some (.ref a), some (.int k), some (.int c), some (.int s)], ?_, ?_⟩
      · walk_at "s"
        refine ite2 (fun hk => ?_) (fun _ => ⟨rfl, _, _, rfl⟩)
        have hk' := of_decide_eq_true hk
        rw [List.length_map] at hk'
        have hz : (ns.map V.int)[(k + 1).toNat]? = some (.int ns[(k + 1).toNat]) := by rw [List.getElem?_map, List.getElem?_eq_getElem (by omega)]; rfl
        have hat := atI_nat hz
        rw [Int.toNat_of_nonneg (by omega)] at hat
        walk_at "s"
        exact ⟨rfl, _, _, rfl⟩
      · rintro σ2 H2 ⟨rfl, c2, s2, rfl⟩
        walk_at "s"
        exact fun p hp => q p _ hp (fun b o e => (upd_ne (ne_of_none e hp)).trans e) ⟨_, _, _, _, upd_same⟩
theorem c_take (T : Bi mg) (D : DefA K mg "_law_take" s_take ["_law_pool_here", "_law_size"]) : C8.Cal P w K mg base 1 "_law_take" sp_take [] := by
  obtain ⟨f, fd, D, b⟩ := D.ex
  refine C8.cal0 D b .nil sc_take (fun vs H Q E h => ?_) (fun cdv A outer s H vs Q E hr h => ?_)
  · obtain ⟨p, n, rfl, _⟩ := h
    rfl
  · obtain ⟨p, n, rfl, ⟨c, k, b, s, hp⟩, h0, h1, q⟩ := h
    refine ⟨_, (pss_cons (ps_set (i := 2) sc_take.nd rfl (Or.inl rfl) (pe_ix ix_list (pv 0) pe_int (fun _ _ => rfl)))
      (pss_cons (ps_asg (pe_op op_add (pv 2) pe_int) (pg_sub (pv 0) pe_int set_list))
      (pss_cons (ps_set (i := 3) sc_take.nd rfl (Or.inl rfl) (pe_ix ix_list (pv 0) pe_int (fun _ _ => rfl)))
      (C8.pss_cut (ps_if (PW.pt (pw_and (pt_val (pe_ix ix_list (pv 0) pe_int (fun _ _ => rfl))) (pw_and1 (pt_cmpR op_gt (pv 3) pe_int (nomark _))))) (pss_cons (ps_asg (pe_op op_fdiv (pv 3) (pv 1)) (pg_sub (pv 0) pe_int set_list))
          (pss_one (ps_ret (pe_op op_mod (pe_callTy call_int1 (by rfl) T.b_int t_int (pa_cons (pv 3) pa_nil)) (pv 1))))) pss_nil)
      (C8.pss_cut (ps_if (pt_val (pe_ix ix_list (pv 0) pe_int (fun _ _ => rfl))) (pss_one (ps_set (i := 3) sc_take.nd rfl (Or.inl rfl) (pe_ix ix_list (pv 0) pe_int (fun _ _ => rfl)))) pss_nil)
      (pss_cons (ps_set (i := 4) sc_take.nd rfl (Or.inl rfl) (pe_op op_mod (pe_callTy call_int1 (by rfl) T.b_int t_int (pa_cons (pe_op op_add (pe_op op_add (pv 3) (pe_op op_mul pe_int (pv 2))) pe_int) pa_nil)) pe_int))
      (pss_cons (ps_set (i := 4) sc_take.nd rfl (Or.inl rfl) (pe_op op_mod (pe_callTy call_int1 (by rfl) T.b_int t_int (pa_cons (pe_op op_mul (pv 4) (pe_op op_add (pv 4) pe_int)) pa_nil)) pe_int))
      (pss_cons (ps_set (i := 4) sc_take.nd rfl (Or.inl rfl) (pe_op op_mod (pe_callTy call_int1 (by rfl) T.b_int t_int (pa_cons (pe_op op_add (pe_op op_mul (pv 4) (pe_op op_add (pv 4) pe_int)) (pe_op op_mul pe_int (pv 2))) pa_nil)) pe_int))
      (pss_one (ps_ret (pe_op op_mod (pe_callTy call_int1 (by rfl) T.b_int t_int (pa_cons (pe_op op_fdiv (pv 4) pe_int) pa_nil)) (pv 1)))))))))))), ?_⟩
    walk_at "s"
    have bt : ∀ xs : List V, But p H (upd H p (.lst xs)) := fun xs b o e hb => (upd_ne hb).trans e
    refine ⟨fun σ' H' => σ' = [some (.ref p), some (.int n), some (.int k), some (.int c), none] ∧ H' = upd H p (.lst [.int c, .int (k + 1), .bl b, .int s]), ?_, ?_⟩
    · walk_at "s"
      refine ite2 (fun hb => ?_) (fun hb => ?_)
      · walk_at "s"
        refine ite2 (fun hc => ?_) (fun hc => ⟨rfl, rfl⟩)
        walk_at "s"
        rw [upd_upd]
        exact q _ _ (Int.emod_nonneg _ (by omega)) (Int.emod_lt_of_pos _ h0) ⟨_, _, _, _, upd_same⟩ (bt _)
      · walk_at "s"
        exact ⟨rfl, rfl⟩
    · rintro σ1 H1 ⟨rfl, rfl⟩
      refine ⟨fun σ' H' => (∃ c' : Int, σ' = [some (.ref p), some (.int n), some (.int k), some (.int c'), none]) ∧ H' = upd H p (.lst [.int c, .int (k + 1), .bl b, .int s]), ?_, ?_⟩
      · walk_at "s"
        refine ite2 (fun hb => ?_) (fun hb => ?_)
        · walk_at "s"
          exact ⟨⟨_, rfl⟩, rfl⟩
        · exact ⟨⟨_, rfl⟩, rfl⟩
      · rintro σ1 H1 ⟨⟨c', rfl⟩, rfl⟩
        walk_at "s"
        exact q _ _ (Int.emod_nonneg _ (by omega)) (Int.emod_lt_of_pos _ h0) ⟨_, _, _, _, upd_same⟩ (bt _)
end
end K30

end
section
local macro_rules | `(tactic| walk_at "ne") => `(tactic| first | assumption | exact Ne.symm (by assumption) | exact L2.ne_of_none (by assumption) (by assumption) | exact Ne.symm (L2.ne_of_none (by assumption) (by assumption)) | (refine L2.ne_of (by assumption) (by assumption) ?_; intro z; cases z))
local macro_rules | `(tactic| walk_at "hp") => `(tactic| first | assumption | exact L2.upd_same | (refine (L2.upd_ne ?_).trans ?_; (walk_at "ne"); (walk_at "hp")))
local macro_rules | `(tactic| walk_at "sq") => `(tactic| first | assumption | exact L2.SqL.of (by walk_at "hp") | exact L2.SqT.of (by walk_at "hp"))
local macro_rules | `(tactic| walk_at "at") => `(tactic| first | assumption | exact rfl)
local macro_rules | `(tactic| walk_at "om") => `(tactic| first | decide | omega | (dsimp only; omega))
local macro_rules | `(tactic| walk_at "sc") => `(tactic| first | assumption | decide | omega | (dsimp only; omega) | exact .inl ⟨by walk_at "om", by walk_at "om"⟩ | exact .inr ⟨by walk_at "om", by walk_at "om"⟩ | exact ⟨by walk_at "om", by walk_at "om"⟩ | exact ⟨by walk_at "om", by walk_at "om", by walk_at "om"⟩ | exact Nat.le_of_ble_eq_true rfl | exact L2.small1000 (by simp only [List.length_map, List.length_append, List.length_cons, List.length_nil]; omega))
local macro_rules | `(tactic| walk_at "s1") => `(tactic| first
  | refine ⟨_, rfl, ?_⟩
  | refine ⟨_, _, rfl, rfl, ?_⟩
  | refine ⟨_, _, rfl, .inl (by walk_at "sq"), ?_⟩
  | refine ⟨_, _, rfl, .inr (by walk_at "sq"), ?_⟩
  | refine ⟨_, _, _, _, rfl, rfl, (by walk_at "sq"), (by walk_at "at"), ?_⟩
  | refine ⟨_, _, _, _, rfl, rfl, (by walk_at "hp"), (by walk_at "at"), ?_⟩
  | refine ⟨_, _, _, rfl, rfl, (by walk_at "hp"), (by walk_at "sc"), ?_⟩
  | refine And.intro (.inl ⟨rfl, _, by walk_at "sq"⟩) ?_
  | refine .inl ⟨_, rfl, ?_⟩
  | refine L2.iteF ?_
  | refine L2.iteT ?_
  | refine And.intro (by walk_at "sc") ?_)
local macro_rules | `(tactic| walk_at "s") => `(tactic| repeat (walk_at "s1"))

namespace K30
open PySem L2
/-- two objects apart by what stands there -/
theorem pool_ne {H : Hp} {p l : Addr} {xs : List V} (h : Pool H p) (hl : H l = some (.lst xs)) (hx : xs.length ≠ 4 ∨ (∀ x ∈ xs, ∃ t, x = V.ref t) ∨ (∀ x ∈ xs, ∃ t, x = V.int t)) : l ≠ p := by
  rintro rfl
  obtain ⟨c, k, b, s, h⟩ := h
  rw [hl] at h
  injection h with h
  injection h with h
  subst h
  rcases hx with hx | hx | hx
  · exact hx rfl
  · obtain ⟨t, e⟩ := hx (.int c) (by simp); cases e
  · obtain ⟨t, e⟩ := hx (.bl b) (by simp); cases e
theorem ints_ne {H : Hp} {p l : Addr} {zs : List Int} (h : Pool H p) (hl : H l = some (.lst (zs.map V.int))) : l ≠ p :=
  pool_ne h hl (.inr (.inr fun x hx => let ⟨z, _, e⟩ := List.mem_map.mp hx; ⟨z, e.symm⟩))
theorem refs_ne {H : Hp} {p l : Addr} {zs : List Addr} (h : Pool H p) (hl : H l = some (.lst (zs.map V.ref))) : l ≠ p :=
  pool_ne h hl (.inr (.inl fun x hx => let ⟨z, _, e⟩ := List.mem_map.mp hx; ⟨z, e.symm⟩))
theorem tup_ne {H : Hp} {p t : Addr} {xs : List V} (h : Pool H p) (hl : H t = some (.tup xs)) : t ≠ p := by
  obtain ⟨c, k, b, s, h⟩ := h
  exact ne_of hl h (by intro z; cases z)
theorem Pool.new {H : Hp} {p q : Addr} {o : HO} (h : Pool H p) (hq : H q = none) : Pool (upd H q o) p := by
  obtain ⟨c, k, b, s, h⟩ := h
  exact ⟨c, k, b, s, (upd_ne (ne_of_none h hq)).trans h⟩
theorem Pool.same {H H1 : Hp} {p : Addr} (h : Pool H p) (e : Same H H1) : Pool H1 p := by
  obtain ⟨c, k, b, s, h⟩ := h
  exact ⟨c, k, b, s, e _ _ h⟩
/-- an object that was not there may change -/
theorem But.own {p l : Addr} {H H1 : Hp} {o : HO} (a : But p H H1) (h : H l = none) : But p H (L2.upd H1 l o) := fun b u e hb => (upd_ne (ne_of_none e h)).trans (a b u e hb)
theorem Pool.own {H : Hp} {p l : Addr} {o : HO} (h : Pool H p) (hl : l ≠ p) : Pool (L2.upd H l o) p := by
  obtain ⟨c, k, b, s, h⟩ := h
  exact ⟨c, k, b, s, (upd_ne hl.symm).trans h⟩
/-- a list of tuples of ints -/
def TL (H : Hp) (l : Addr) (rs : List (List Int)) : Prop := ∃ ts : List Addr, H l = some (.lst (ts.map V.ref)) ∧ Paired (fun t r => H t = some (.tup (r.map V.int))) ts rs
theorem paired_but {H H1 : Hp} {p : Addr} (b : But p H H1) (hP : Pool H p) : ∀ {ts : List Addr} {rs : List (List Int)}, Paired (fun t r => H t = some (.tup (r.map V.int))) ts rs → Paired (fun t r => H1 t = some (.tup (r.map V.int))) ts rs
  | _, _, .nil => .nil
  | _, _, .cons h t => .cons (b _ _ h (tup_ne hP h)) (paired_but b hP t)
theorem paired_same {H H1 : Hp} (b : Same H H1) : ∀ {ts : List Addr} {rs : List (List Int)}, Paired (fun t r => H t = some (.tup (r.map V.int))) ts rs → Paired (fun t r => H1 t = some (.tup (r.map V.int))) ts rs
  | _, _, .nil => .nil
  | _, _, .cons h t => .cons (b _ _ h) (paired_same b t)
theorem TL.but {H H1 : Hp} {p l : Addr} {rs : List (List Int)} (h : TL H l rs) (b : But p H H1) (hP : Pool H p) : TL H1 l rs := by
  obtain ⟨ts, h1, h2⟩ := h
  exact ⟨ts, b _ _ h1 (refs_ne hP h1), paired_but b hP h2⟩
theorem TL.same {H H1 : Hp} {l : Addr} {rs : List (List Int)} (h : TL H l rs) (b : Same H H1) : TL H1 l rs := by
  obtain ⟨ts, h1, h2⟩ := h
  exact ⟨ts, b _ _ h1, paired_same b h2⟩
theorem paired_app {α β : Type} {F : α → β → Prop} : ∀ {as cs : List α} {bs ds : List β}, Paired F as bs → Paired F cs ds → Paired F (as ++ cs) (bs ++ ds)
  | _, _, _, _, .nil, s => s
  | _, _, _, _, .cons r t, s => .cons r (paired_app t s)
def sp_turn (K : PySem.W.Frag) : Sp := fun vs H Q _ => ∃ (a : Addr) (ns : List Int) (p : Addr) (k : Int), vs = [.ref a, .ref p, .int k] ∧ SqL K H a (ns.map V.int) ∧ Pool H p ∧ 0 ≤ k ∧
  (∀ H', Same H H' → Pool H' p → ∀ r, (r = p ∨ H r = none) → Pool H' r → Q (.ref r) H')
def sp_height : Sp := fun vs H Q _ => ∃ (p : Addr) (g : Bool), vs = [.ref p, .bl g] ∧ Pool H p ∧ ∀ r H', Pool H' p → But p H H' → Q (.int r) H'
section
variable {P : Program} {w : World} {K : PySem.W.Frag} {mg : Str → Option Value} {base : Heap}
theorem c_turn (T : Bi mg) (D : DefA K mg "_law_turn" s_turn p_turn) (c_law_pool : C8.Cal P w K mg base 1 "_law_pool" (sp_pool K) []) : C8.Cal P w K mg base 2 "_law_turn" (sp_turn K) [] := by
  obtain ⟨f, fd, D, b⟩ := D.ex
  refine C8.cal0 D b .nil sc_turn (fun vs H Q E h => ?_) (fun cdv A outer s H vs Q E hr h => ?_)
  · obtain ⟨a, ns, p, k, rfl, _⟩ := h
    rfl
  · obtain ⟨a, ns, p, k, rfl, hS, hP, h0, q⟩ := h
    refine ⟨_, (C8.pss_cut (ps_if (pt_cmpR op_lt (pv 2) (pe_callB call_len_seq (by rfl) T.b_len t_len (pa_cons (pv 0) pa_nil)) (nomark _)) (pss_one (ps_ret (C8.pe_c c_law_pool hr (by decide) (by rfl) (pa_cons (pv 0) (pa_cons (pv 2) pa_nil))))) pss_nil)
      (pss_one (ps_ret (pv 1)))), ?_⟩
    refine ⟨fun σ' H' => σ' = [some (.ref a), some (.ref p), some (.int k)] ∧ H' = H, ?_, ?_⟩
    · walk_at "s"
      refine ite2 (fun hk => ?_) (fun _ => ⟨rfl, rfl⟩)
      walk_at "s"
      exact ⟨a, ns, k, rfl, hS, h0, fun r H' hr s hP' => q H' s (hP.same s) r (.inr hr) hP'⟩
    · rintro σ1 H1 ⟨rfl, rfl⟩
      walk_at "s"
      exact q _ (Same.refl _) hP p (.inl rfl) hP
theorem c_height (T : Bi mg) (D : DefA K mg "_law_height" s_height p_height) (c_law_take : C8.Cal P w K mg base 1 "_law_take" sp_take []) : C8.Cal P w K mg base 2 "_law_height" sp_height [] := by
  obtain ⟨f, fd, D, b⟩ := D.ex
  refine C8.cal0 D b .nil sc_height (fun vs H Q E h => ?_) (fun cdv A outer s H vs Q E hr h => ?_)
  · obtain ⟨p, g, rfl, _⟩ := h
    rfl
  · obtain ⟨p, g, rfl, hP, q⟩ := h
    refine ⟨_, (C8.pss_cut (ps_if (PW.pt (pw_and (pt_val (pv 1)) (pw_and1 (pt_cmpR op_eq (C8.pe_c c_law_take hr (by decide) (by rfl) (pa_cons (pv 0) (pa_cons pe_int pa_nil))) pe_int (nomark _))))) (pss_one (ps_ret (pe_op op_add (pe_op op_mul (pe_op op_sub (C8.pe_c c_law_take hr (by decide) (by rfl) (pa_cons (pv 0) (pa_cons pe_int pa_nil))) pe_int) (pe_op op_pow pe_int pe_int)) (C8.pe_c c_law_take hr (by decide) (by rfl) (pa_cons (pv 0) (pa_cons pe_int pa_nil)))))) pss_nil)
      (pss_one (ps_ret (pe_op op_sub (C8.pe_c c_law_take hr (by decide) (by rfl) (pa_cons (pv 0) (pa_cons pe_int pa_nil))) pe_int)))), ?_⟩
    refine ⟨fun σ' H' => σ' = [some (.ref p), some (.bl g)] ∧ Pool H' p ∧ But p H H', ?_, ?_⟩
    · walk_at "s"
      refine ite2 (fun hk => ?_) (fun _ => ?_)
      · walk_at "s"
        refine ⟨_, _, rfl, hP, by decide, by decide, fun r H1 r0 r1 hP1 b1 => ?_⟩
        walk_at "s"
        refine ⟨rfl, ?_⟩
        walk_at "s"
        refine ite2 (fun hk => ?_) (fun _ => ⟨rfl, hP1, b1⟩)
        walk_at "s"
        refine ⟨_, _, rfl, hP1, by decide, by decide, fun r2 H2 r20 r21 hP2 b2 => ?_⟩
        walk_at "s"
        refine ⟨_, _, rfl, hP2, by decide, by decide, fun r3 H3 r30 r31 hP3 b3 => ?_⟩
        walk_at "s"
        exact q _ _ hP3 ((b1.trans b2).trans b3)
      · walk_at "s"
        exact ⟨rfl, hP, But.refl _ _⟩
    · rintro σ1 H1 ⟨rfl, hP1, b1⟩
      walk_at "s"
      refine ⟨_, _, rfl, hP1, by decide, by decide, fun r H2 r0 r1 hP2 b2 => ?_⟩
      walk_at "s"
      exact q _ _ hP2 (b1.trans b2)
theorem at_in {xs : List V} {r : Int} (h0 : 0 ≤ r) (h1 : r < xs.length) : ∃ x, atI xs r = some x ∧ x ∈ xs := by
  have hl : r.toNat < xs.length := by omega
  have e := atI_nat (List.getElem?_eq_getElem hl)
  rw [Int.toNat_of_nonneg h0] at e
  exact ⟨_, e, List.getElem_mem hl⟩
theorem at_int {zs : List Int} {r : Int} (h0 : 0 ≤ r) (h1 : r < zs.length) : ∃ z, atI (zs.map V.int) r = some (.int z) ∧ z ∈ zs := by
  obtain ⟨x, e, m⟩ := at_in (xs := zs.map V.int) h0 (by rw [List.length_map]; exact h1)
  obtain ⟨z, mz, rfl⟩ := List.mem_map.mp m
  exact ⟨z, e, mz⟩
def sp_places : Sp := fun vs H Q _ => ∃ (p : Addr) (m : Int), vs = [.ref p, .int m] ∧ Pool H p ∧ 0 < m ∧ m ≤ 40 ∧ ∀ (l : Addr) (zs : List Int) H', H l = none → But p H H' → Pool H' p → H' l = some (.lst (zs.map V.int)) → 2 ≤ zs.length → (zs.length : Int) ≤ m + 1 → Q (.ref l) H'
theorem c_places (T : Bi mg) (D : DefA K mg "_law_places" s_places p_places) (c_law_take : C8.Cal P w K mg base 1 "_law_take" sp_take []) : C8.Cal P w K mg base 2 "_law_places" sp_places [] := by
  obtain ⟨f, fd, D, b⟩ := D.ex
  refine C8.cal0 D b .nil sc_places (fun vs H Q E h => ?_) (fun cdv A outer s H vs Q E hr h => ?_)
  · obtain ⟨p, g, rfl, _⟩ := h
    rfl
  · obtain ⟨p, m, rfl, hP, m0, m1, q⟩ := h
    refine ⟨_, (pss_cons (ps_set (i := 2) sc_places.nd rfl (Or.inl rfl) (pe_ix ix_tup (pe_tup (pa_cons pe_int (pa_cons pe_int (pa_cons pe_int pa_nil)))) (C8.pe_c c_law_take hr (by decide) (by rfl) (pa_cons (pv 0) (pa_cons pe_int pa_nil))) (fun _ _ => rfl)))
      (pss_cons (ps_set (i := 3) sc_places.nd rfl (Or.inl rfl) (pe_lst (pa_cons pe_int pa_nil)))
      (pss_cons (ps_for PassesOwn.never rfl (pi_range1 (by rfl) T.b_range (pa_cons (pe_op op_add pe_int (C8.pe_c c_law_take hr (by decide) (by rfl) (pa_cons (pv 0) (pa_cons (pv 1) pa_nil)))) pa_nil)) (pg_name (i := 4) sc_places.nd rfl (Or.inl rfl)) (pss_one (ps_expr (pe_bm PySem.F.plainAttrs_list PySem.F.slot_list_append PySem.F.type_list_append mt_append (pv 3) (pa_cons (pe_op op_add (pe_op op_add (pe_ix ix_list (pv 3) (pv 4) (fun _ _ => rfl)) pe_int) (C8.pe_c c_law_take hr (by decide) (by rfl) (pa_cons (pv 0) (pa_cons (pv 2) pa_nil)))) pa_nil)))))
      (pss_one (ps_ret (pv 3)))))), ?_⟩
    walk_at "s"
    intro t ht
    walk_at "s"
    have pt := hP.new (o := .tup [.int 1, .int 6, .int 90]) ht
    refine ⟨_, _, rfl, pt, by decide, by decide, fun r H1 r0 r1 hP1 b1 => ?_⟩
    have e1 : H1 t = some (.tup [.int 1, .int 6, .int 90]) := b1 _ _ upd_same (tup_ne pt upd_same)
    obtain ⟨wd, hat, hw⟩ := at_int (zs := [1, 6, 90]) r0 r1
    have w0 : 0 < wd ∧ wd < 1000 := by simp at hw; omega
    walk_at "s"
    intro l hl
    have B1 : But p H H1 := fun b o e hb => b1 _ _ ((upd_ne (ne_of_none e ht)).trans e) hb
    have nl : l ≠ p := by
      rintro rfl
      obtain ⟨_, _, _, _, z⟩ := hP1
      rw [hl] at z; cases z
    have hl0 : H l = none := B1.free nl hl
    walk_at "s"
    have p2 := hP1.new (o := .lst [.int 0]) hl
    refine ⟨_, _, rfl, p2, m0, by omega, fun n H2 n0 n1 hP2 b2 => ?_⟩
    walk_at "s"
    refine for_range (lo := 0) (n := (1 + n).toNat) (fun i σ H' => ∃ (zs : List Int) (v : Option V), σ = [some (.ref p), some (.int m), some (.int wd), some (.ref l), v] ∧ zs.length = i + 1 ∧ H' l = some (.lst (zs.map V.int)) ∧ Pool H' p ∧ But p H H') ?_ ?_ ?_
    · exact ⟨[0], none, rfl, rfl, b2 _ _ upd_same nl, hP2, fun b o e hb => b2 _ _ ((upd_ne (ne_of_none e hl0)).trans (B1 _ _ e hb)) hb⟩
    · rintro i σ H3 hi ⟨zs, v, rfl, hz, hL, hP3, b3⟩
      have hi' : (i : Int) < zs.length := by omega
      obtain ⟨z, hat2, _⟩ := at_int (zs := zs) (r := (0 : Int) + (i : Int)) (by omega) (by omega)
      walk_at "s"
      refine ⟨_, _, rfl, hP3, w0.1, by omega, fun r4 H4 r40 r41 hP4 b4 => ?_⟩
      have hL4 := b4 _ _ hL nl
      walk_at "s"
      refine ⟨zs ++ [z + 1 + r4], _, rfl, by rw [List.length_append, hz]; rfl, ?_, hP4.own nl, (b3.trans b4).own hl0⟩
      rw [List.map_append]
      exact upd_same
    · rintro σ H3 ⟨zs, v, rfl, hz, hL, hP3, b3⟩
      walk_at "s"
      exact q l zs H3 hl0 b3 hP3 hL (by omega) (by omega)
end
end K30

end
section
local macro_rules | `(tactic| walk_at "ne") => `(tactic| first | assumption | exact Ne.symm (by assumption) | exact L2.ne_of_none (by assumption) (by assumption) | exact Ne.symm (L2.ne_of_none (by assumption) (by assumption)) | (refine L2.ne_of (by assumption) (by assumption) ?_; intro z; cases z))
local macro_rules | `(tactic| walk_at "hp") => `(tactic| first | assumption | exact L2.upd_same | (refine (L2.upd_ne ?_).trans ?_; (walk_at "ne"); (walk_at "hp")))
local macro_rules | `(tactic| walk_at "sq") => `(tactic| first | assumption | exact L2.SqL.of (by walk_at "hp") | exact L2.SqT.of (by walk_at "hp"))
local macro_rules | `(tactic| walk_at "at") => `(tactic| first | assumption | exact rfl)
local macro_rules | `(tactic| walk_at "om") => `(tactic| first | omega | (dsimp only; omega) | decide)
local macro_rules | `(tactic| walk_at "sc") => `(tactic| first | omega | (dsimp only; omega) | assumption | decide | exact .inl ⟨by walk_at "om", by walk_at "om"⟩ | exact .inr ⟨by walk_at "om", by walk_at "om"⟩ | exact ⟨by walk_at "om", by walk_at "om"⟩ | exact ⟨by walk_at "om", by walk_at "om", by walk_at "om"⟩ | exact Nat.le_of_ble_eq_true rfl | (show L2.wipe _ _ = _; rfl) | (show L2.scal _ _ = true; rfl) | exact L2.small1000 (by simp only [List.length_map, List.length_append, List.length_cons, List.length_nil]; omega))
local macro_rules | `(tactic| walk_at "s1") => `(tactic| first
  | refine ⟨_, rfl, ?_⟩
  | refine ⟨_, _, rfl, rfl, ?_⟩
  | refine ⟨_, _, rfl, .inl (by walk_at "sq"), ?_⟩
  | refine ⟨_, _, rfl, .inr (by walk_at "sq"), ?_⟩
  | refine ⟨_, _, _, _, rfl, rfl, (by walk_at "sq"), (by walk_at "at"), ?_⟩
  | refine ⟨_, _, _, _, rfl, rfl, (by walk_at "hp"), (by walk_at "at"), ?_⟩
  | refine ⟨_, _, _, rfl, rfl, (by walk_at "hp"), (by walk_at "sc"), ?_⟩
  | refine .inl ⟨_, rfl, ?_⟩
  | refine K30.iteF' ?_
  | refine K30.iteT' ?_
  | refine And.intro (by walk_at "sc") ?_
  | refine And.intro ⟨_, by walk_at "sq"⟩ ?_
  | refine And.intro (.inl ⟨rfl, _, by walk_at "sq"⟩) ?_)
local macro_rules | `(tactic| walk_at "s") => `(tactic| repeat (walk_at "s1"))

namespace K30
open PySem L2
theorem paired_idx {α : Type} {R : α → Nat → Prop} : ∀ {ts : List α} (k : Nat), (∀ j y, ts[j]? = some y → R y (k + j)) → Paired R ts (List.range' k ts.length)
  | [], _, _ => .nil
  | t :: ts, k, h => .cons (h 0 t rfl) (paired_idx (k + 1) fun j y e => by
      have := h (j + 1) y (by simpa using e)
      rw [show k + 1 + j = k + (j + 1) by omega]; exact this)
theorem perm_paired {α β : Type} {R : α → β → Prop} {as as' : List α} (p : as'.Perm as) : ∀ {bs : List β}, Paired R as bs → ∃ bs', bs'.Perm bs ∧ Paired R as' bs' := by
  induction p with
  | nil => intro bs h; cases h; exact ⟨[], .refl _, .nil⟩
  | cons x _ ih =>
    intro bs h
    cases h with
    | cons r t =>
      obtain ⟨b', p', h'⟩ := ih t
      exact ⟨_ :: b', .cons _ p', .cons r h'⟩
  | swap x y l =>
    intro bs h
    cases h with
    | cons r t =>
      cases t with
      | cons r2 t2 => exact ⟨_, .swap _ _ _, .cons r2 (.cons r t2)⟩
  | trans _ _ ih1 ih2 =>
    intro bs h
    obtain ⟨b1, p1, h1⟩ := ih2 h
    obtain ⟨b2, p2, h2⟩ := ih1 h1
    exact ⟨b2, p2.trans p1, h2⟩
theorem paired_get {α β : Type} {R : α → β → Prop} : ∀ {as : List α} {bs : List β} {i : Nat} {a : α}, Paired R as bs → as[i]? = some a → ∃ b, bs[i]? = some b ∧ R a b
  | _, _, _, _, .nil, e => by simp at e
  | _, _, 0, _, .cons r _, e => by simp at e; subst e; exact ⟨_, rfl, r⟩
  | _, _, i + 1, _, .cons _ t, e => by
    obtain ⟨b, h1, h2⟩ := paired_get (i := i) t (by simpa using e)
    exact ⟨b, by simpa using h1, h2⟩
theorem paired_imp {α β : Type} {R S : α → β → Prop} (f : ∀ a b, R a b → S a b) : ∀ {as : List α} {bs : List β}, Paired R as bs → Paired S as bs
  | _, _, .nil => .nil
  | _, _, .cons r t => .cons (f _ _ r) (paired_imp f t)
theorem map_range_get {α : Type} (d : α) (xs : List α) : (List.range xs.length).map (fun j => xs.getD j d) = xs := by
  apply List.ext_getElem?
  intro i
  rw [List.getElem?_map]
  by_cases h : i < xs.length
  · rw [List.getElem?_range h]
    simp [List.getD_eq_getElem?_getD, List.getElem?_eq_getElem h]
  · rw [List.getElem?_eq_none (by simpa using h), List.getElem?_eq_none (by simpa using h)]; rfl
def PairAt (H : Hp) (y : V) (j : Nat) : Prop := ∃ t v, y = .ref t ∧ H t = some (.tup [.int v, .int (j : Int)])
theorem PairAt.same {H H1 : Hp} {y j} (h : PairAt H y j) (e : Same H H1) : PairAt H1 y j := let ⟨t, v, a, b⟩ := h; ⟨t, v, a, e _ _ b⟩
theorem PairAt.mut {H : Hp} {y j} {D : Addr} {xs ys : List V} (h : PairAt H y j) (hD : H D = some (.lst xs)) : PairAt (L2.upd H D (.lst ys)) y j :=
  let ⟨t, v, a, b⟩ := h; ⟨t, v, a, (upd_ne (ne_of b hD (by intro z; cases z))).trans b⟩
def sp_mixed : Sp := fun vs H Q _ => ∃ (l p : Addr) (xs : List V), vs = [.ref l, .ref p] ∧ H l = some (.lst xs) ∧ l ≠ p ∧ xs.length ≤ 200 ∧ Pool H p ∧ ∀ (l' : Addr) (ys : List V) H', H l' = none → But p H H' → Pool H' p → H' l' = some (.lst ys) → ys.Perm xs → Q (.ref l') H'
section
variable {P : Program} {w : World} {K : PySem.W.Frag} {mg : Str → Option Value} {base : Heap}
theorem c_mixed (T : Bi mg) (D : DefA K mg "_law_mixed" s_mixed p_mixed) (c_law_take : C8.Cal P w K mg base 1 "_law_take" sp_take []) : C8.Cal P w K mg base 2 "_law_mixed" sp_mixed [] := by
  obtain ⟨f, fd, D, b⟩ := D.ex
  refine C8.cal0 D b .nil sc_mixed (fun vs H Q E h => ?_) (fun cdv A outer s H vs Q E hr h => ?_)
  · obtain ⟨p, g, xs, rfl, _⟩ := h
    rfl
  · obtain ⟨l, p, xs, rfl, hL, hlp, hz, hP, q⟩ := h
    refine ⟨_, (pss_cons (ps_set (i := 2) sc_mixed.nd rfl (Or.inr rfl) (pe_op op_add pe_int (C8.pe_c c_law_take hr (by decide) (by rfl) (pa_cons (pv 1) (pa_cons pe_int pa_nil)))))
      (pss_cons (ps_set (i := 3) sc_mixed.nd rfl (Or.inl rfl) (pe_callB (cr_sortedP) (by rfl) T.b_sorted t_sorted (pa_cons (pe_lc (own := [("_law_k", 4)]) (g := gName 4) (tt := tYes) rfl sc_mixed.nd (pi_range1 (by rfl) T.b_range (pa_cons (pe_callB call_len_seq (by rfl) T.b_len t_len (pa_cons (pv 0) pa_nil)) pa_nil)) (blkOk_by (N := n_mixed) (sc := C8.fnScope s_mixed) (by decide +kernel)) (fun _ _ _ _ _ => pg_name (i := 4) sc_mixed.nd rfl (Or.inl rfl)) (fun _ _ _ _ _ => pts_nil) (fun _ _ _ _ _ => (pe_tup (pa_cons (pe_op op_mod (pe_callTy call_int1 (by rfl) T.b_int t_int (pa_cons (pe_op op_mul (pe_op op_add (pv 4) pe_int) (pv 2)) pa_nil)) pe_int) (pa_cons (pv 4) pa_nil))))) pa_nil)))
      (pss_one (ps_ret (pe_lc (own := [("_law_pair", 5)]) (g := gName 5) (tt := tYes) rfl sc_mixed.nd (pi_list (pv 3)) (blkOk_by (N := n_mixed) (sc := C8.fnScope s_mixed) (by decide +kernel)) (fun _ _ _ _ _ => pg_name (i := 5) sc_mixed.nd rfl (Or.inl rfl)) (fun _ _ _ _ _ => pts_nil) (fun _ _ _ _ _ => (pe_ix (r := rIxL K) ix_list (pv 0) (pe_ix (r := rIxT K) ix_tup (pv 5) pe_int (fun _ _ => rfl)) (fun _ _ => rfl)))))))), ?_⟩
    walk_at "s"
    refine ⟨_, _, rfl, hP, by decide, by decide, fun r H1 r0 r1 hP1 b1 => ?_⟩
    have hL1 := b1 _ _ hL hlp
    walk_at "s"
    refine fun D hD => lc_range (lo := 0) (fun i H' => ∃ ts : List V, H' D = some (.lst ts) ∧ ts.length = i ∧ (∀ j y, ts[j]? = some y → PairAt H' y j) ∧ Same H1 H') ?_ ?_ ?_
    · exact ⟨[], upd_same, rfl, fun j y e => by simp at e, same_new (Same.refl _) hD⟩
    · rintro i H2 hi ⟨ts, hD2, hl2, hp2, s2⟩
      have hi' : i < xs.length := by omega
      walk_at "s"
      intro t ht
      have nDt : t ≠ D := by rintro rfl; rw [hD2] at ht; cases ht
      refine ⟨ts, (upd_ne nDt.symm).trans hD2, small1000 (by omega), ts ++ [V.ref t], upd_same, by rw [List.length_append, hl2]; rfl, fun j y e => ?_, fun b o e => ?_⟩
      · by_cases hj : j < ts.length
        · rw [List.getElem?_append_left hj] at e
          exact ((hp2 j y e).same (same_new (Same.refl _) ht)).mut ((upd_ne nDt.symm).trans hD2)
        · have hj2 : j < ts.length + 1 := by
            have := (List.getElem?_eq_some_iff.mp e).1
            rw [List.length_append] at this; exact this
          have e3 : j = ts.length := by omega
          subst e3
          rw [List.getElem?_append_right (Nat.le_refl _), Nat.sub_self] at e
          have e4 : y = V.ref t := by simpa using e.symm
          subst e4
          have e5 : (0 : Int) + (i : Int) = (ts.length : Int) := by omega
          refine ⟨t, ((0 + (i : Int) + 1) * (1 + r)) % 101, rfl, (upd_ne nDt).trans ?_⟩
          rw [← e5]
          exact upd_same
      · rw [upd_ne (ne_of_none e hD), upd_ne (ne_of_none (s2 b o e) ht)]
        exact s2 b o e
    · rintro H2 ⟨ts, hD2, hl2, hp2, s2⟩
      have hn : ts.length = xs.length := by rw [hl2]; omega
      walk_at "s"
      refine ⟨D, ts, rfl, SqL.of hD2, fun x hx => ?_, fun ys p2 py hp3 => ?_⟩
      · obtain ⟨j, hj⟩ := List.mem_iff_getElem?.mp hx
        obtain ⟨t, v, e1, e2⟩ := hp2 j x hj
        exact ⟨t, v, _, e1, e2⟩
      have pr : Paired (PairAt H2) ts (List.range ts.length) := by
        rw [List.range_eq_range']
        exact paired_idx 0 fun j y e => by rw [Nat.zero_add]; exact hp2 j y e
      obtain ⟨js, pj, pr2⟩ := perm_paired py pr
      have hL2 := s2 _ _ hL1
      have s3 : Same H2 (L2.upd H2 p2 (.lst ys)) := same_new (Same.refl _) hp3
      have js_lt : ∀ j ∈ js, j < xs.length := fun j hj => by
        have := List.mem_range.mp (pj.mem_iff.mp hj); omega
      walk_at "s"
      refine fun D2 hD3 => lc_list (xs := ys) (fun i H' => H' D2 = some (.lst ((js.take i).map fun j => xs.getD j .non)) ∧ Same (L2.upd H2 p2 (.lst ys)) H') ?_ ?_ ?_ ?_
      · exact ⟨upd_same, same_new (Same.refl _) hD3⟩
      · rintro i H3 _ ⟨_, s4⟩
        exact SqL.of (s4 _ _ upd_same)
      · rintro i y H3 hy ⟨hD4, s4⟩
        obtain ⟨j, hj, t, v, rfl, ht⟩ := paired_get pr2 hy
        have hj2 := js_lt j (List.mem_of_getElem? hj)
        have ht4 := s4 _ _ (s3 _ _ ht)
        have hL4 := s4 _ _ (s3 _ _ hL2)
        have hat := atI_nat (List.getElem?_eq_getElem hj2)
        have hlen : ((js.take i).map fun j => xs.getD j V.non).length < sizeLine := small1000 (by
          have h1 := pj.length_eq
          rw [List.length_range] at h1
          rw [List.length_map, List.length_take]; omega)
        walk_at "s"
        refine ⟨_, hD4, hlen, ?_, fun b o e => ?_⟩
        · rw [List.take_succ, hj, List.map_append]
          have : xs[j] = xs.getD j V.non := by simp [List.getD_eq_getElem?_getD, hj2]
          rw [this]
          exact upd_same
        · rw [upd_ne (ne_of_none e hD3)]; exact s4 b o e
      · rintro H3 ⟨hD4, s4⟩
        have e5 : ys.length = js.length := Paired.length pr2
        rw [e5, List.take_length] at hD4
        have S : Same H1 H3 := fun b o e => s4 _ _ (s3 _ _ (s2 _ _ e))
        walk_at "s"
        have f1 : H1 D2 = none := by
          cases e : H1 D2 with
          | none => rfl
          | some o => rw [s3 _ _ (s2 _ _ e)] at hD3; cases hD3
        have nD2 : D2 ≠ p := by
          rintro rfl
          obtain ⟨_, _, _, _, z⟩ := hP1
          rw [f1] at z; cases z
        refine q D2 _ H3 (b1.free nD2 f1) (b1.trans (But.same S)) (hP1.same S) hD4 ?_
        have e6 := pj.map (fun j => xs.getD j V.non)
        rw [hn, map_range_get] at e6
        exact e6
end
end K30


namespace K30
open PySem L2
theorem turn_but {p r : Addr} {H2 H3 H4 : Hp} (hr : r = p ∨ H2 r = none) (s : Same H2 H3) (b : But r H3 H4) : But p H2 H4 := fun c o e hc => b c o (s c o e) (by
  rcases hr with rfl | hr
  · exact hc
  · exact ne_of_none e hr)
theorem turn_pool {p r : Addr} {H3 H4 : Hp} (h3 : Pool H3 p) (b : But r H3 H4) (h4 : Pool H4 r) : Pool H4 p := by
  by_cases e : p = r
  · rw [e]; exact h4
  · obtain ⟨c, k, z, s, h⟩ := h3
    exact ⟨c, k, z, s, b _ _ h e⟩
theorem paired_mut {H H1 : Hp} {l : Addr} {xs ys : List V} (hl : H l = some (.lst xs)) (e : H1 = L2.upd H l (.lst ys)) : ∀ {ts : List Addr} {rs : List (List Int)}, Paired (fun t r => H t = some (.tup (r.map V.int))) ts rs → Paired (fun t r => H1 t = some (.tup (r.map V.int))) ts rs
  | _, _, .nil => .nil
  | _, _, .cons h t => .cons (by rw [e, upd_ne (ne_of h hl (by intro z; cases z))]; exact h) (paired_mut hl e t)
/-- a row is put at the end of a list of rows -/
theorem TL.push {H : Hp} {l t : Addr} {ts : List Addr} {rs : List (List Int)} {r : List Int} {xs : List V} (hL : H l = some (.lst (ts.map V.ref))) (hp : Paired (fun t r => H t = some (.tup (r.map V.int))) ts rs) (ht : H t = none) (hx : xs = r.map V.int) :
    TL (L2.upd (L2.upd H t (.tup xs)) l (.lst (ts.map V.ref ++ [V.ref t]))) l (rs ++ [r]) := by
  have nlt : l ≠ t := ne_of_none hL ht
  have s1 : Same H (L2.upd H t (.tup xs)) := same_new (Same.refl _) ht
  refine ⟨ts ++ [t], by rw [List.map_append]; exact upd_same, ?_⟩
  refine paired_app (paired_mut (s1 _ _ hL) rfl (paired_same s1 hp)) (.cons ?_ .nil)
  rw [upd_ne nlt.symm, hx]
  exact upd_same
def sp_loose (K : PySem.W.Frag) : Sp := fun vs H Q _ => ∃ (a p pl hl : Addr) (ns zs hs : List Int), vs = [.ref a, .ref p, .ref pl, .ref hl] ∧ Scr K H a ns ∧ Pool H p ∧ H pl = some (.lst (zs.map V.int)) ∧ H hl = some (.lst (hs.map V.int)) ∧ hs.length = zs.length ∧ 1 ≤ zs.length ∧ zs.length ≤ 41 ∧
  ∀ (l : Addr) (rs : List (List Int)) H', H l = none → But p H H' → Pool H' p → TL H' l rs → rs.length ≤ 7 → (∀ r ∈ rs, r.length = 3) → Q (.ref l) H'
theorem Scr.but {K : PySem.W.Frag} {p : Addr} {H H1 : Hp} {a : Addr} {ns : List Int} (h : Scr K H a ns) (b : But p H H1) (hP : Pool H p) : Scr K H1 a ns := by
  rcases h with ⟨o, h⟩ | h
  · refine .inl ⟨o, b _ _ h ?_⟩
    rintro rfl
    obtain ⟨_, _, _, _, z⟩ := hP
    rw [h] at z; cases z
  · exact .inr h
theorem Scr.same {K : PySem.W.Frag} {H H1 : Hp} {a : Addr} {ns : List Int} (h : Scr K H a ns) (b : Same H H1) : Scr K H1 a ns := by
  rcases h with ⟨o, h⟩ | h
  · exact .inl ⟨o, b _ _ h⟩
  · exact .inr h
section
variable {P : Program} {w : World} {K : PySem.W.Frag} {mg : Str → Option Value} {base : Heap}
theorem c_loose (T : Bi mg) (D : DefA K mg "_law_loose" s_loose p_loose) (c_law_take : C8.Cal P w K mg base 1 "_law_take" sp_take []) (c_law_turn : C8.Cal P w K mg base 2 "_law_turn" (sp_turn K) []) : C8.Cal P w K mg base 3 "_law_loose" (sp_loose K) [] := by
  obtain ⟨f, fd, D, b⟩ := D.ex
  refine C8.cal0 D b .nil sc_loose (fun vs H Q E h => ?_) (fun cdv A outer s H vs Q E hr h => ?_)
  · obtain ⟨a, p, pl, hl, ns, zs, hs, rfl, _⟩ := h
    rfl
  · obtain ⟨a, p, pl, hl, ns, zs, hs, rfl, hS, hP, hpl, hhl, hlen, hz1, hz2, q⟩ := h
    refine ⟨_, (pss_cons (ps_set (i := 4) sc_loose.nd rfl (Or.inl rfl) (pe_cmpR op_eq (C8.pe_c c_law_take hr (by decide) (by rfl) (pa_cons (pv 1) (pa_cons pe_int pa_nil))) pe_int (nomark _)))
      (pss_cons (ps_set (i := 5) sc_loose.nd rfl (Or.inl rfl) (pe_lst pa_nil))
      (pss_cons (ps_for PassesOwn.never rfl (pi_range1 (by rfl) T.b_range (pa_cons (C8.pe_c c_law_take hr (by decide) (by rfl) (pa_cons (pv 1) (pa_cons pe_int pa_nil))) pa_nil)) (pg_name (i := 6) sc_loose.nd rfl (Or.inl rfl)) (pss_cons (ps_set (i := 7) sc_loose.nd rfl (Or.inl rfl) (C8.pe_c c_law_turn hr (by decide) (by rfl) (pa_cons (pv 0) (pa_cons (pv 1) (pa_cons (pe_op op_add (pv 6) pe_int) pa_nil)))))
          (pss_cons (ps_set (i := 8) sc_loose.nd rfl (Or.inl rfl) (C8.pe_c c_law_take hr (by decide) (by rfl) (pa_cons (pv 7) (pa_cons (pe_callB call_len_seq (by rfl) T.b_len t_len (pa_cons (pv 2) pa_nil)) pa_nil))))
          (pss_cons (ps_set (i := 9) sc_loose.nd rfl (Or.inl rfl) (C8.pe_c c_law_take hr (by decide) (by rfl) (pa_cons (pv 7) (pa_cons (pe_callB call_len_seq (by rfl) T.b_len t_len (pa_cons (pv 2) pa_nil)) pa_nil))))
          (pss_cons (ps_set (i := 10) sc_loose.nd rfl (Or.inl rfl) (pe_ix ix_tup (pe_tup (pa_cons pe_int (pa_cons pe_int (pa_cons pe_int (pa_cons pe_int pa_nil))))) (C8.pe_c c_law_take hr (by decide) (by rfl) (pa_cons (pv 7) (pa_cons pe_int pa_nil))) (fun _ _ => rfl)))
          (C8.pss_cut (ps_if (pt_val (pv 4)) (pss_one (ps_set (i := 10) sc_loose.nd rfl (Or.inl rfl) (pe_op op_sub (C8.pe_c c_law_take hr (by decide) (by rfl) (pa_cons (pv 7) (pa_cons pe_int pa_nil))) pe_int))) pss_nil)
          (pss_one (ps_expr (pe_bm PySem.F.plainAttrs_list PySem.F.slot_list_append PySem.F.type_list_append mt_append (pv 5) (pa_cons (pe_tup (pa_cons (pe_ix ix_list (pv 2) (pv 8) (fun _ _ => rfl)) (pa_cons (pe_ix ix_list (pv 2) (pv 9) (fun _ _ => rfl)) (pa_cons (pe_op op_add (pe_op op_sub (pe_ix ix_list (pv 3) (pv 8) (fun _ _ => rfl)) (pe_ix ix_list (pv 3) (pv 9) (fun _ _ => rfl))) (pv 10)) pa_nil)))) pa_nil))))))))))
      (pss_one (ps_ret (pv 5)))))), ?_⟩
    walk_at "s"
    refine ⟨_, _, rfl, hP, by decide, by decide, fun r0 H1 r00 r01 hP1 b1 => ?_⟩
    walk_at "s"
    intro l hl0
    have nlp : l ≠ p := by
      rintro rfl
      obtain ⟨_, _, _, _, z⟩ := hP1
      rw [hl0] at z; cases z
    have hlH : H l = none := b1.free nlp hl0
    have hP1' := hP1.new (o := .lst []) hl0
    walk_at "s"
    refine ⟨_, _, rfl, hP1', by decide, by decide, fun n H2 n0 n1 hP2 b2 => ?_⟩
    walk_at "s"
    refine for_range (lo := 0) (fun i σ H' => ∃ (ts : List Addr) (rs : List (List Int)) (v6 v7 v8 v9 v10 : Option V), σ = [some (.ref a), some (.ref p), some (.ref pl), some (.ref hl), some (.bl (decide (V.int r0 = V.int 2))), some (.ref l), v6, v7, v8, v9, v10] ∧
      H' l = some (.lst (ts.map V.ref)) ∧ Paired (fun t r => H' t = some (.tup (r.map V.int))) ts rs ∧ rs.length = i ∧ (∀ r ∈ rs, r.length = 3) ∧ Pool H' p ∧ But p H H') ?_ ?_ ?_
    · refine ⟨[], [], none, none, none, none, none, rfl, b2 _ _ upd_same nlp, .nil, rfl, (fun _ h => by cases h), hP2, fun c o e hc => b2 _ _ ((upd_ne (ne_of_none e hlH)).trans (b1 _ _ e hc)) hc⟩
    · rintro i σ H3 hi ⟨ts, rs, v6, v7, v8, v9, v10, rfl, hL, hTs, hrs, h3, hP3, b3⟩
      have hi7 : i < 7 := by omega
      have hpl3 := b3 _ _ hpl (ints_ne hP hpl)
      have hhl3 := b3 _ _ hhl (ints_ne hP hhl)
      walk_at "s"
      refine ⟨a, ns, p, _, rfl, (hS.but b3 hP).sq, hP3, by omega, fun H4 s4 hP4 r hr hPr => ?_⟩
      walk_at "s"
      have hpl4 := s4 _ _ hpl3
      have nplp : pl ≠ p := ints_ne hP hpl
      have nhlp : hl ≠ p := ints_ne hP hhl
      walk_at "s"
      refine ⟨_, _, rfl, hPr, by rw [List.length_map]; omega, by rw [List.length_map]; omega, fun x1 H5 x10 x11 hPr5 c5 => ?_⟩
      rw [List.length_map] at x11
      have bp5 : But p H3 H5 := turn_but hr s4 c5
      have hpl5 := bp5 _ _ hpl3 nplp
      walk_at "s"
      refine ⟨_, _, rfl, hPr5, by rw [List.length_map]; omega, by rw [List.length_map]; omega, fun x2 H6 x20 x21 hPr6 c6 => ?_⟩
      rw [List.length_map] at x21
      have c36 := c5.trans c6
      walk_at "s"
      intro t ht
      walk_at "s"
      have hPr6' := hPr6.new (o := .tup [.int 0, .int 0, .int 1, .int 6]) ht
      refine ⟨_, _, rfl, hPr6', by decide, by decide, fun x3 H7 x30 x31 hPr7 c7 => ?_⟩
      have c37 : But r H4 H7 := c36.trans (fun c o e hc => c7 _ _ ((upd_ne (ne_of_none e ht)).trans e) hc)
      have hT7 := c7 _ _ upd_same (tup_ne hPr6' upd_same)
      obtain ⟨sl, hat, _⟩ := at_int (zs := [0, 0, 1, 6]) x30 x31
      walk_at "s"
      refine ⟨fun σ' H' => (∃ sl : Int, σ' = [some (.ref a), some (.ref p), some (.ref pl), some (.ref hl), some (.bl (decide (V.int r0 = V.int 2))), some (.ref l), some (.int (0 + (i : Int))), some (.ref r), some (.int x1), some (.int x2), some (.int sl)]) ∧ But r H4 H' ∧ Pool H' r, ?_, ?_⟩
      · walk_at "s"
        refine ite2 (fun hb => ?_) (fun hb => ?_)
        · walk_at "s"
          refine ⟨_, _, rfl, hPr7, by decide, by decide, fun x4 H8 x40 x41 hPr8 c8 => ?_⟩
          walk_at "s"
          exact ⟨⟨_, rfl⟩, c37.trans c8, hPr8⟩
        · exact ⟨⟨_, rfl⟩, c37, hPr7⟩
      · rintro σ8 H8 ⟨⟨sl2, rfl⟩, c8, hPr8⟩
        have bp8 : But p H3 H8 := turn_but hr s4 c8
        have hP8 : Pool H8 p := turn_pool hP4 c8 hPr8
        have hpl8 := bp8 _ _ hpl3 nplp
        have hhl8 := bp8 _ _ hhl3 nhlp
        have hL8 := bp8 _ _ hL nlp
        have hTs8 := paired_but bp8 hP3 hTs
        obtain ⟨w1, at1, _⟩ := at_int (zs := zs) x10 x11
        obtain ⟨w2, at2, _⟩ := at_int (zs := zs) x20 x21
        obtain ⟨w3, at3, _⟩ := at_int (zs := hs) (r := x1) x10 (by omega)
        obtain ⟨w4, at4, _⟩ := at_int (zs := hs) (r := x2) x20 (by omega)
        have hrs2 : rs.length < 1000 := by omega
        have hts2 : ts.length = rs.length := Paired.length hTs
        walk_at "s"
        intro t9 ht9
        walk_at "s"
        obtain ⟨ts2, hL2, hT2⟩ := TL.push hL8 hTs8 ht9 (r := [w1, w2, w3 - w4 + sl2]) (xs := [V.int w1, V.int w2, V.int (w3 - w4 + sl2)]) rfl
        refine ⟨ts2, rs ++ [[w1, w2, w3 - w4 + sl2]], _, _, _, _, _, rfl, hL2, hT2, by rw [List.length_append, hrs]; rfl, fun r hr => ?_, (hP8.new ht9).own nlp, ((b3.trans bp8).new ht9).own hlH⟩
        rcases List.mem_append.mp hr with hr | hr
        · exact h3 r hr
        · rw [List.mem_singleton.mp hr]; rfl
    · rintro σ H3 ⟨ts, rs, v6, v7, v8, v9, v10, rfl, hL, hTs, hrs, h3, hP3, b3⟩
      walk_at "s"
      exact q l rs H3 hlH b3 hP3 ⟨ts, hL, hTs⟩ (by omega) h3
def sp_circle : Sp := fun vs H Q _ => ∃ (p pl hl : Addr) (zs hs : List Int), vs = [.ref p, .ref pl, .ref hl] ∧ Pool H p ∧ H pl = some (.lst (zs.map V.int)) ∧ H hl = some (.lst (hs.map V.int)) ∧ hs.length = zs.length ∧ 1 ≤ zs.length ∧ zs.length ≤ 41 ∧
  ∀ (l : Addr) (rs : List (List Int)) H', H l = none → But p H H' → Pool H' p → TL H' l rs → rs.length ≤ 41 → (∀ r ∈ rs, r.length = 3) → Q (.ref l) H'
theorem c_circle (T : Bi mg) (D : DefA K mg "_law_circle" s_circle p_circle) (c_law_take : C8.Cal P w K mg base 1 "_law_take" sp_take []) (c_law_mixed : C8.Cal P w K mg base 2 "_law_mixed" sp_mixed []) : C8.Cal P w K mg base 3 "_law_circle" sp_circle [] := by
  obtain ⟨f, fd, D, b⟩ := D.ex
  refine C8.cal0 D b .nil sc_circle (fun vs H Q E h => ?_) (fun cdv A outer s H vs Q E hr h => ?_)
  · obtain ⟨p, pl, hl, zs, hs, rfl, _⟩ := h
    rfl
  · obtain ⟨p, pl, hl, zs, hs, rfl, hP, hpl, hhl, hlen, hz1, hz2, q⟩ := h
    have nplp : pl ≠ p := ints_ne hP hpl
    have nhlp : hl ≠ p := ints_ne hP hhl
    refine ⟨_, (pss_cons (ps_set (i := 4) sc_circle.nd rfl (Or.inl rfl) (C8.pe_c c_law_mixed hr (by decide) (by rfl) (pa_cons (pe_lc (own := [("_law_k", 3)]) (g := gName 3) (tt := tYes) rfl sc_circle.nd (pi_range1 (by rfl) T.b_range (pa_cons (pe_callB call_len_seq (by rfl) T.b_len t_len (pa_cons (pv 1) pa_nil)) pa_nil)) (blkOk_by (N := n_circle) (sc := C8.fnScope s_circle) (by decide +kernel)) (fun _ _ _ _ _ => pg_name (i := 3) sc_circle.nd rfl (Or.inl rfl)) (fun _ _ _ _ _ => pts_nil) (fun _ _ _ _ _ => (pv 3))) (pa_cons (pv 0) pa_nil))))
      (pss_cons (ps_set (i := 5) sc_circle.nd rfl (Or.inl rfl) (pe_op op_add pe_int (C8.pe_c c_law_take hr (by decide) (by rfl) (pa_cons (pv 0) (pa_cons (pe_callB call_len_seq (by rfl) T.b_len t_len (pa_cons (pv 1) pa_nil)) pa_nil)))))
      (pss_cons (ps_set (i := 6) sc_circle.nd rfl (Or.inl rfl) (pe_ix ix_tup (pe_tup (pa_cons (pe_un un_neg pe_int) (pa_cons pe_int (pa_cons (pe_un un_neg pe_int) (pa_cons pe_int (pa_cons (pe_un un_neg pe_int) pa_nil)))))) (C8.pe_c c_law_take hr (by decide) (by rfl) (pa_cons (pv 0) (pa_cons pe_int pa_nil))) (fun _ _ => rfl)))
      (pss_cons (ps_set (i := 7) sc_circle.nd rfl (Or.inl rfl) (pe_lst pa_nil))
      (pss_cons (ps_for PassesOwn.never rfl (pi_range1 (by rfl) T.b_range (pa_cons (pv 5) pa_nil)) (pg_name (i := 3) sc_circle.nd rfl (Or.inl rfl)) (pss_cons (ps_set (i := 8) sc_circle.nd rfl (Or.inl rfl) (pe_ix ix_list (pv 4) (pv 3) (fun _ _ => rfl)))
          (pss_cons (ps_set (i := 9) sc_circle.nd rfl (Or.inl rfl) (pe_ix ix_list (pv 4) (pe_op op_mod (pe_callTy call_int1 (by rfl) T.b_int t_int (pa_cons (pe_op op_add (pv 3) pe_int) pa_nil)) (pv 5)) (fun _ _ => rfl)))
          (pss_cons (ps_set (i := 10) sc_circle.nd rfl (Or.inl rfl) (pv 6))
          (C8.pss_cut (ps_if (pt_cmpR op_lt (pe_op op_add (pv 3) pe_int) (pv 5) (nomark _)) (pss_one (ps_set (i := 10) sc_circle.nd rfl (Or.inl rfl) (pe_op op_sub (C8.pe_c c_law_take hr (by decide) (by rfl) (pa_cons (pv 0) (pa_cons pe_int pa_nil))) pe_int))) pss_nil)
          (pss_cons (ps_set (i := 6) sc_circle.nd rfl (Or.inl rfl) (pe_op op_sub (pv 6) (pv 10)))
          (pss_one (ps_expr (pe_bm PySem.F.plainAttrs_list PySem.F.slot_list_append PySem.F.type_list_append mt_append (pv 7) (pa_cons (pe_tup (pa_cons (pe_ix ix_list (pv 1) (pv 8) (fun _ _ => rfl)) (pa_cons (pe_ix ix_list (pv 1) (pv 9) (fun _ _ => rfl)) (pa_cons (pe_op op_add (pe_op op_sub (pe_ix ix_list (pv 2) (pv 8) (fun _ _ => rfl)) (pe_ix ix_list (pv 2) (pv 9) (fun _ _ => rfl))) (pv 10)) pa_nil)))) pa_nil))))))))))
      (pss_one (ps_ret (pv 7)))))))), ?_⟩
    have hz3 : (zs.map V.int).length ≤ 41 := by rw [List.length_map]; exact hz2
    walk_at "s"
    refine fun D1 hD1 => lc_range (lo := 0) (fun i H' => H' D1 = some (.lst ((List.range i).map fun j : Nat => V.int ((j : Nat) : Int))) ∧ Same H H') ?_ ?_ ?_
    · exact ⟨upd_same, same_new (Same.refl _) hD1⟩
    · rintro i H2 hi ⟨hD2, s2⟩
      have hi2 : i ≤ 41 := by rw [List.length_map] at hi; omega
      walk_at "s"
      refine ⟨_, hD2, small1000 (by rw [List.length_map, List.length_range]; omega), ?_, fun b o e => ?_⟩
      · rw [List.range_succ, List.map_append]
        rw [Int.zero_add]
        exact upd_same
      · rw [upd_ne (ne_of_none e hD1)]; exact s2 b o e
    · rintro H2 ⟨hD2, s2⟩
      have nD1 : D1 ≠ p := by
        rintro rfl
        obtain ⟨_, _, _, _, z⟩ := hP
        rw [hD1] at z; cases z
      walk_at "s"
      refine ⟨D1, p, _, rfl, hD2, nD1, by rw [List.length_map, List.length_range, List.length_map]; omega, hP.same s2, fun lo os H3 hlo b3 hP3 hos pos => ?_⟩
      have hn : ∀ y ∈ os, ∃ j : Nat, y = .int (j : Int) ∧ j < zs.length := fun y hy => by
        obtain ⟨j, hj, e⟩ := List.mem_map.mp (pos.mem_iff.mp hy)
        have := List.mem_range.mp hj
        rw [List.length_map] at this
        exact ⟨j, e.symm, by omega⟩
      have hosl : os.length = zs.length := by
        have := pos.length_eq
        rw [List.length_map, List.length_range, List.length_map] at this
        omega
      have nlo : lo ≠ p := by
        rintro rfl
        obtain ⟨_, _, _, _, z⟩ := hP.same s2
        rw [hlo] at z; cases z
      have B3 : But p H H3 := (But.same s2).trans b3
      have hpl3 := B3 _ _ hpl nplp
      have hhl3 := B3 _ _ hhl nhlp
      walk_at "s"
      refine ⟨_, _, rfl, hP3, by rw [List.length_map]; omega, by rw [List.length_map]; omega, fun m H4 m0 m1 hP4 b4 => ?_⟩
      rw [List.length_map] at m1
      walk_at "s"
      intro t ht
      walk_at "s"
      have hP4' := hP4.new (o := .tup [.int (-1), .int 0, .int (-1), .int 1, .int (-9)]) ht
      refine ⟨_, _, rfl, hP4', by decide, by decide, fun r H5 r0 r1 hP5 b5 => ?_⟩
      have hT5 := b5 _ _ upd_same (tup_ne hP4' upd_same)
      obtain ⟨rs0, hat, _⟩ := at_int (zs := [-1, 0, -1, 1, -9]) r0 r1
      have B5 : But p H3 H5 := b4.trans fun c o e hc => b5 _ _ ((upd_ne (ne_of_none e ht)).trans e) hc
      walk_at "s"
      intro l hl0
      walk_at "s"
      have B35 : But p H H5 := B3.trans B5
      have nlp : l ≠ p := by
        rintro rfl
        obtain ⟨_, _, _, _, z⟩ := hP5
        rw [hl0] at z; cases z
      have hlH : H l = none := B35.free nlp hl0
      have nlol : lo ≠ l := ne_of_none (B5 _ _ hos nlo) hl0
      refine for_range (lo := 0) (fun i σ H' => ∃ (ts : List Addr) (rs : List (List Int)) (rest : Int) (v3 v8 v9 v10 : Option V), σ = [some (.ref p), some (.ref pl), some (.ref hl), v3, some (.ref lo), some (.int (1 + m)), some (.int rest), some (.ref l), v8, v9, v10] ∧
        H' l = some (.lst (ts.map V.ref)) ∧ Paired (fun t r => H' t = some (.tup (r.map V.int))) ts rs ∧ rs.length = i ∧ (∀ r ∈ rs, r.length = 3) ∧ Pool H' p ∧ But p H H' ∧ H' lo = some (.lst os)) ?_ ?_ ?_
      · refine ⟨[], [], rs0, none, none, none, none, rfl, upd_same, .nil, rfl, (fun _ h => by cases h), hP5.new hl0, B35.own hlH, (upd_ne nlol).trans (B5 _ _ hos nlo)⟩
      · rintro i σ H6 hi ⟨ts, rs, rest, v3, v8, v9, v10, rfl, hL, hTs, hrs, h3, hP6, b6, hos6⟩
        have hi41 : i < 41 := by omega
        have him : (i : Int) < 1 + m := by omega
        obtain ⟨y1, ay1, my1⟩ := at_in (xs := os) (r := 0 + (i : Int)) (by omega) (by omega)
        obtain ⟨j1, rfl, hj1⟩ := hn y1 my1
        obtain ⟨y2, ay2, my2⟩ := at_in (xs := os) (r := (0 + (i : Int) + 1) % (1 + m)) (Int.emod_nonneg _ (by omega)) (by have := Int.emod_lt_of_pos (0 + (i : Int) + 1) (show 0 < 1 + m by omega); omega)
        obtain ⟨j2, rfl, hj2⟩ := hn y2 my2
        walk_at "s"
        refine ⟨fun σ' H' => (∃ sl : Int, σ' = [some (.ref p), some (.ref pl), some (.ref hl), some (.int (0 + (i : Int))), some (.ref lo), some (.int (1 + m)), some (.int rest), some (.ref l), some (.int j1), some (.int j2), some (.int sl)]) ∧ But p H6 H' ∧ Pool H' p, ?_, ?_⟩
        · walk_at "s"
          refine ite2 (fun hb => ?_) (fun hb => ?_)
          · walk_at "s"
            refine ⟨_, _, rfl, hP6, by decide, by decide, fun x4 H8 x40 x41 hP8 c8 => ?_⟩
            walk_at "s"
            exact ⟨⟨_, rfl⟩, c8, hP8⟩
          · exact ⟨⟨_, rfl⟩, But.refl _ _, hP6⟩
        · rintro σ8 H8 ⟨⟨sl, rfl⟩, bp8, hP8⟩
          have hpl8 := bp8 _ _ (b6 _ _ hpl nplp) nplp
          have hhl8 := bp8 _ _ (b6 _ _ hhl nhlp) nhlp
          have hL8 := bp8 _ _ hL nlp
          have hTs8 := paired_but bp8 hP6 hTs
          obtain ⟨w1, at1, _⟩ := at_int (zs := zs) (r := (j1 : Int)) (by omega) (by omega)
          obtain ⟨w2, at2, _⟩ := at_int (zs := zs) (r := (j2 : Int)) (by omega) (by omega)
          obtain ⟨w3, at3, _⟩ := at_int (zs := hs) (r := (j1 : Int)) (by omega) (by omega)
          obtain ⟨w4, at4, _⟩ := at_int (zs := hs) (r := (j2 : Int)) (by omega) (by omega)
          have hts2 : ts.length = rs.length := Paired.length hTs
          walk_at "s"
          intro t9 ht9
          walk_at "s"
          obtain ⟨ts2, hL2, hT2⟩ := TL.push hL8 hTs8 ht9 (r := [w1, w2, w3 - w4 + sl]) (xs := [V.int w1, V.int w2, V.int (w3 - w4 + sl)]) rfl
          refine ⟨ts2, rs ++ [[w1, w2, w3 - w4 + sl]], _, _, _, _, _, rfl, hL2, hT2, by rw [List.length_append, hrs]; rfl, fun r hr => ?_, (hP8.new ht9).own nlp, ((b6.trans bp8).new ht9).own hlH, ?_⟩
          · rcases List.mem_append.mp hr with hr | hr
            · exact h3 r hr
            · rw [List.mem_singleton.mp hr]; rfl
          · have hos8 := bp8 _ _ hos6 nlo
            rw [upd_ne nlol, upd_ne (ne_of_none hos8 ht9)]; exact hos8
      · rintro σ H6 ⟨ts, rs, rest, v3, v8, v9, v10, rfl, hL, hTs, hrs, h3, hP6, b6, hos6⟩
        walk_at "s"
        exact q l rs H6 hlH b6 hP6 ⟨ts, hL, hTs⟩ (by omega) h3
end
end K30


namespace K30
open PySem L2 WM
theorem m97 : ∀ s < 97, ∀ d < 97, 0 < s → 0 < d → (d * s) % 97 ≠ 0 := by decide +kernel
theorem m97i {s c i j : Int} (s0 : 0 < s) (s1 : s < 97) (hi : 0 ≤ i) (hij : i < j) (hj : j < 97) : (i * s + c) % 97 ≠ (j * s + c) % 97 := by
  intro e
  have h := m97 s.toNat (by omega) (j - i).toNat (by omega) (by omega) (by omega)
  apply h
  have e2 : ((j - i) * s) % 97 = 0 := by
    have : (j - i) * s = (j * s + c) - (i * s + c) := by rw [Int.sub_mul]; omega
    rw [this]; omega
  have e3 : (((j - i).toNat * s.toNat : Nat) : Int) = (j - i) * s := by
    rw [Int.natCast_mul, Int.toNat_of_nonneg (by omega), Int.toNat_of_nonneg (by omega)]
  omega
def Lim.row (t : Lim) : List Int := [t.x, t.y, t.k, t.l]
/-- a list of limits -/
def LL (H : Hp) (l : Addr) (ls : List Lim) : Prop := TL H l (ls.map Lim.row)
def Tagged (s c : Int) (ls : List Lim) : Prop := ∀ (j : Nat) (t : Lim), ls[j]? = some t → ∃ d, 0 ≤ d ∧ d < 9 ∧ (t.l = 1 + 9 * (((j : Int) * s + c) % 97) + d ∨ t.l = 0 - (1 + 9 * (((j : Int) * s + c) % 97) + d))
theorem Tagged.nodup {s c : Int} {ls : List Lim} (h : Tagged s c ls) (s0 : 0 < s) (s1 : s < 97) (hl : ls.length ≤ 97) : (ls.map (·.l)).Nodup := by
  refine List.pairwise_iff_getElem.mpr fun i j hi hj hij e => ?_
  rw [List.length_map] at hi hj
  rw [List.getElem_map, List.getElem_map] at e
  have ei := List.getElem?_eq_getElem hi
  have ej := List.getElem?_eq_getElem hj
  obtain ⟨d1, a1, b1, c1⟩ := h i _ ei
  obtain ⟨d2, a2, b2, c2⟩ := h j _ ej
  have := m97i (c := c) s0 s1 (i := (i : Int)) (j := (j : Int)) (by omega) (by omega) (by omega)
  rw [e] at c1
  have u0 := Int.emod_nonneg ((i : Int) * s + c) (show (97 : Int) ≠ 0 by decide)
  have v0 := Int.emod_nonneg ((j : Int) * s + c) (show (97 : Int) ≠ 0 by decide)
  generalize ((i : Int) * s + c) % 97 = u at *
  generalize ((j : Int) * s + c) % 97 = v at *
  omega
theorem Tagged.push {s c : Int} {ls : List Lim} {t : Lim} (h : Tagged s c ls) (ht : ∃ d, 0 ≤ d ∧ d < 9 ∧ (t.l = 1 + 9 * (((ls.length : Int) * s + c) % 97) + d ∨ t.l = 0 - (1 + 9 * (((ls.length : Int) * s + c) % 97) + d))) : Tagged s c (ls ++ [t]) := by
  intro j u e
  by_cases hj : j < ls.length
  · rw [List.getElem?_append_left hj] at e; exact h j u e
  · have h2 := (List.getElem?_eq_some_iff.mp e).1
    rw [List.length_append, List.length_singleton] at h2
    have : j = ls.length := by omega
    subst this
    rw [List.getElem?_append_right (Nat.le_refl _), Nat.sub_self] at e
    have : u = t := by simpa using e.symm
    rw [this]; exact ht
/-- two lists of rows, one behind the other, at a new place -/
theorem TL.cat {H : Hp} {p : Addr} {ts us : List Addr} {rs qs : List (List Int)} (h1 : Paired (fun t r => H t = some (.tup (r.map V.int))) ts rs) (h2 : Paired (fun t r => H t = some (.tup (r.map V.int))) us qs) (hp : H p = none) :
    TL (L2.upd H p (.lst (ts.map V.ref ++ us.map V.ref))) p (rs ++ qs) :=
  ⟨ts ++ us, by rw [List.map_append]; exact upd_same, paired_same (same_new (Same.refl _) hp) (paired_app h1 h2)⟩
theorem small1000' {n : Nat} (h : n ≤ 1000) : n ≤ sizeLine := Nat.le_of_lt (small1000 h)
def RowAt (H : Hp) (y : V) (r : List Int) : Prop := ∃ t, y = .ref t ∧ H t = some (.tup (r.map V.int))
theorem paired_rows {H : Hp} : ∀ {ts : List Addr} {rs : List (List Int)}, Paired (fun t r => H t = some (.tup (r.map V.int))) ts rs → Paired (RowAt H) (ts.map V.ref) rs
  | _, _, .nil => .nil
  | _, _, .cons h t => .cons ⟨_, rfl, h⟩ (paired_rows t)
theorem three {r : List Int} (h : r.length = 3) : ∃ x y z, r = [x, y, z] := by
  match r, h with
  | [x, y, z], _ => exact ⟨x, y, z, rfl⟩
def sp_drawn (K : PySem.W.Frag) : Sp := fun vs H Q _ => ∃ (a : Addr) (ns : List Int), vs = [.ref a] ∧ Scr K H a ns ∧
  ∀ (l : Addr) (ls : List Lim) H', H l = none → Same H H' → LL H' l ls → ls.length ≤ 89 → (ls.map (·.l)).Nodup → Q (.ref l) H'
section
variable {P : Program} {w : World} {K : PySem.W.Frag} {mg : Str → Option Value} {base : Heap}
theorem c_drawn (T : Bi mg) (D : DefA K mg "_law_drawn" s_drawn p_drawn) (c_law_pool : C8.Cal P w K mg base 1 "_law_pool" (sp_pool K) []) (c_law_take : C8.Cal P w K mg base 1 "_law_take" sp_take []) (c_law_mixed : C8.Cal P w K mg base 2 "_law_mixed" sp_mixed [])
    (c_law_height : C8.Cal P w K mg base 2 "_law_height" sp_height []) (c_law_places : C8.Cal P w K mg base 2 "_law_places" sp_places []) (c_law_loose : C8.Cal P w K mg base 3 "_law_loose" (sp_loose K) []) (c_law_circle : C8.Cal P w K mg base 3 "_law_circle" sp_circle []) : C8.Cal P w K mg base 4 "_law_drawn" (sp_drawn K) [] := by
  obtain ⟨f, fd, D, b⟩ := D.ex
  refine C8.cal0 D b .nil sc_drawn (fun vs H Q E h => ?_) (fun cdv A outer s H vs Q E hr h => ?_)
  · obtain ⟨a, ns, rfl, _⟩ := h
    rfl
  · obtain ⟨a, ns, rfl, hS, q⟩ := h
    refine ⟨_, (pss_cons (ps_set (i := 1) sc_drawn.nd rfl (Or.inr rfl) (C8.pe_c c_law_pool hr (by decide) (by rfl) (pa_cons (pv 0) (pa_cons pe_int pa_nil))))
      (pss_cons (ps_set (i := 2) sc_drawn.nd rfl (Or.inl rfl) pe_int)
      (C8.pss_cut (ps_if (pt_cmpR op_eq (C8.pe_c c_law_take hr (by decide) (by rfl) (pa_cons (pv 1) (pa_cons pe_int pa_nil))) pe_int (nomark _)) (pss_one (ps_set (i := 2) sc_drawn.nd rfl (Or.inl rfl) pe_int)) pss_nil)
      (pss_cons (ps_set (i := 3) sc_drawn.nd rfl (Or.inr rfl) (pe_cmpR op_eq (C8.pe_c c_law_take hr (by decide) (by rfl) (pa_cons (pv 1) (pa_cons pe_int pa_nil))) pe_int (nomark _)))
      (pss_cons (ps_set (i := 4) sc_drawn.nd rfl (Or.inl rfl) (C8.pe_c c_law_places hr (by decide) (by rfl) (pa_cons (pv 1) (pa_cons (pv 2) pa_nil))))
      (pss_cons (ps_setLc (i := 5) (own := [("_law_place", 12)]) (g := gName 12) (tt := tYes) rfl sc_drawn.nd rfl rfl (sw_true rfl rfl rfl (by decide +kernel)) (pi_list (pv 4)) (blkOk_by (N := n_drawn) (sc := C8.fnScope s_drawn) (by decide +kernel)) (fun _ _ _ _ _ => pg_name (i := 12) sc_drawn.nd rfl (Or.inl rfl)) (fun _ _ _ _ _ => pts_nil) (fun _ _ _ _ _ => (C8.pe_c c_law_height hr (by decide) (by rfl) (pa_cons (pv 1) (pa_cons (pv 3) pa_nil)))))
      (pss_cons (ps_set (i := 6) sc_drawn.nd rfl (Or.inl rfl) (C8.pe_c c_law_loose hr (by decide) (by rfl) (pa_cons (pv 0) (pa_cons (pv 1) (pa_cons (pv 4) (pa_cons (pv 5) pa_nil))))))
      (pss_cons (ps_for PassesOwn.never rfl (pi_range1 (by rfl) T.b_range (pa_cons (C8.pe_c c_law_take hr (by decide) (by rfl) (pa_cons (pv 1) (pa_cons pe_int pa_nil))) pa_nil)) (pg_name (i := 7) sc_drawn.nd rfl (Or.inl rfl)) (pss_one (ps_set (i := 6) sc_drawn.nd rfl (Or.inl rfl) (pe_op op_cat (pv 6) (C8.pe_c c_law_circle hr (by decide) (by rfl) (pa_cons (pv 1) (pa_cons (pv 4) (pa_cons (pv 5) pa_nil))))))))
      (pss_cons (ps_set (i := 6) sc_drawn.nd rfl (Or.inl rfl) (C8.pe_c c_law_mixed hr (by decide) (by rfl) (pa_cons (pv 6) (pa_cons (pv 1) pa_nil))))
      (pss_cons (ps_set (i := 8) sc_drawn.nd rfl (Or.inl rfl) (pe_op op_add pe_int (C8.pe_c c_law_take hr (by decide) (by rfl) (pa_cons (pv 1) (pa_cons pe_int pa_nil)))))
      (pss_cons (ps_set (i := 9) sc_drawn.nd rfl (Or.inl rfl) (C8.pe_c c_law_take hr (by decide) (by rfl) (pa_cons (pv 1) (pa_cons pe_int pa_nil))))
      (pss_cons (ps_set (i := 10) sc_drawn.nd rfl (Or.inl rfl) (pe_lst pa_nil))
      (pss_cons (ps_for PassesOwn.never rfl (pi_range1 (by rfl) T.b_range (pa_cons (pe_callB call_len_seq (by rfl) T.b_len t_len (pa_cons (pv 6) pa_nil)) pa_nil)) (pg_name (i := 7) sc_drawn.nd rfl (Or.inl rfl)) (pss_cons (ps_set (i := 11) sc_drawn.nd rfl (Or.inl rfl) (pe_op op_add (pe_op op_add pe_int (pe_op op_mul pe_int (pe_op op_mod (pe_callTy call_int1 (by rfl) T.b_int t_int (pa_cons (pe_op op_add (pe_op op_mul (pv 7) (pv 8)) (pv 9)) pa_nil)) pe_int))) (C8.pe_c c_law_take hr (by decide) (by rfl) (pa_cons (pv 1) (pa_cons pe_int pa_nil)))))
          (C8.pss_cut (ps_if (pt_cmpR op_eq (C8.pe_c c_law_take hr (by decide) (by rfl) (pa_cons (pv 1) (pa_cons pe_int pa_nil))) pe_int (nomark _)) (pss_one (ps_set (i := 11) sc_drawn.nd rfl (Or.inl rfl) (pe_op op_sub pe_int (pv 11)))) pss_nil)
          (pss_one (ps_expr (pe_bm PySem.F.plainAttrs_list PySem.F.slot_list_append PySem.F.type_list_append mt_append (pv 10) (pa_cons (pe_tup (pa_cons (pe_ix ix_tup (pe_ix ix_list (pv 6) (pv 7) (fun _ _ => rfl)) pe_int (fun _ _ => rfl)) (pa_cons (pe_ix ix_tup (pe_ix ix_list (pv 6) (pv 7) (fun _ _ => rfl)) pe_int (fun _ _ => rfl)) (pa_cons (pe_ix ix_tup (pe_ix ix_list (pv 6) (pv 7) (fun _ _ => rfl)) pe_int (fun _ _ => rfl)) (pa_cons (pv 11) pa_nil))))) pa_nil)))))))
      (pss_one (ps_ret (pv 10)))))))))))))))), ?_⟩
    walk_at "s"
    refine ⟨a, ns, _, rfl, hS.sq, by decide, fun p H1 hp0 s1 hP1 => ?_⟩
    walk_at "s"
    refine ⟨fun σ' H' => (∃ mo : Int, σ' = [some (.ref a), some (.ref p), some (.int mo), none, none, none, none, none, none, none, none, none, none] ∧ 0 < mo ∧ mo ≤ 40) ∧ Same H H' ∧ Pool H' p, ?_, ?_⟩
    · walk_at "s"
      refine ⟨_, _, rfl, hP1, by decide, by decide, fun r H2 r0 r1 hP2 b2 => ?_⟩
      have s2 : Same H H2 := (But.trans (But.same s1) b2).off hp0
      walk_at "s"
      refine ite2 (fun hb => ?_) (fun hb => ?_)
      · walk_at "s"
        exact ⟨⟨_, rfl, by decide, by decide⟩, s2, hP2⟩
      · exact ⟨⟨_, rfl, by decide, by decide⟩, s2, hP2⟩
    · rintro σ2 H2 ⟨⟨mo, rfl, mo0, mo1⟩, s2, hP2⟩
      walk_at "s"
      refine ⟨_, _, rfl, hP2, by decide, by decide, fun r H3 r0 r1 hP3 b3 => ?_⟩
      walk_at "s"
      refine ⟨_, _, rfl, hP3, mo0, mo1, fun pl zs H4 hpl0 b4 hP4 hpl hz1 hz2 => ?_⟩
      have npl : pl ≠ p := ints_ne hP4 hpl
      walk_at "s"
      refine fun D1 hD1 => lc_list (xs := zs.map V.int) (fun i H' => (∃ hs : List Int, H' D1 = some (.lst (hs.map V.int)) ∧ hs.length = i) ∧ Pool H' p ∧ But p H4 H') ?_ ?_ ?_ ?_
      · exact ⟨⟨[], upd_same, rfl⟩, hP4.new hD1, (But.refl _ _).new hD1⟩
      · rintro i H5 _ ⟨_, _, b5⟩
        exact SqL.of (b5 _ _ hpl npl)
      · rintro i y H5 hy ⟨⟨hs, hD5, hl5⟩, hP5, b5⟩
        have hi := (List.getElem?_eq_some_iff.mp hy).1
        rw [List.length_map] at hi
        have nD : D1 ≠ p := ints_ne hP5 hD5
        walk_at "s"
        refine ⟨_, _, rfl, hP5, fun r6 H6 hP6 b6 => ?_⟩
        refine ⟨_, b6 _ _ hD5 nD, small1000 (by rw [List.length_map]; omega), ⟨hs ++ [r6], by rw [List.map_append]; exact upd_same, by rw [List.length_append, hl5]; rfl⟩, hP6.own nD, (b5.trans b6).own hD1⟩
      · rintro H5 ⟨⟨hs, hD5, hl5⟩, hP5, b5⟩
        rw [List.length_map] at hl5
        have B5 : But p H2 H5 := (b3.trans b4).trans b5
        have hpl5 := b5 _ _ hpl npl
        have S5 : Same H H5 := ((But.same s2).trans B5).off hp0
        walk_at "s"
        refine ⟨a, p, pl, D1, ns, zs, hs, rfl, hS.same S5, hP5, hpl5, hD5, hl5, by omega, by omega, fun lr rs H6 hlr b6 hP6 hT6 hr6 h36 => ?_⟩
        have nD : D1 ≠ p := ints_ne hP5 hD5
        have hpl6 := b6 _ _ hpl5 npl
        have hD6 := b6 _ _ hD5 nD
        have S6 : Same H H6 := ((But.same S5).trans b6).off hp0
        walk_at "s"
        refine ⟨_, _, rfl, hP6, by decide, by decide, fun n H7 n0 n1 hP7 b7 => ?_⟩
        walk_at "s"
        refine for_range (lo := 0) (fun i σ H' => ∃ (lr : Addr) (rs : List (List Int)) (v7 : Option V), σ = [some (.ref a), some (.ref p), some (.int mo), some (.bl (decide (V.int r = V.int 2))), some (.ref pl), some (.ref D1), some (.ref lr), v7, none, none, none, none, none] ∧
          TL H' lr rs ∧ rs.length ≤ 7 + 41 * i ∧ (∀ r ∈ rs, r.length = 3) ∧ Pool H' p ∧ But p H6 H') ?_ ?_ ?_
        · exact ⟨lr, rs, none, rfl, hT6.but b7 hP6, by omega, h36, hP7, b7⟩
        · rintro i σ H8 hi ⟨lr, rs, v7, rfl, ⟨ts, hL8, hT8⟩, hrl, h38, hP8, b8⟩
          have hi2 : i < 2 := by omega
          have nlr : lr ≠ p := refs_ne hP8 hL8
          have hts8 : ts.length = rs.length := Paired.length hT8
          walk_at "s"
          refine ⟨p, pl, D1, zs, hs, rfl, hP8, b8 _ _ hpl6 npl, b8 _ _ hD6 nD, hl5, by omega, by omega, fun l9 qs H9 hl9 b9 hP9 ⟨us, hL9, hU9⟩ hq9 h39 => ?_⟩
          have hus : us.length = qs.length := Paired.length hU9
          have hlr9 := b9 _ _ hL8 nlr
          refine ⟨lr, l9, _, _, rfl, rfl, hlr9, hL9, small1000' (by rw [List.length_map, List.length_map]; omega), fun p9 hp9 => ?_⟩
          walk_at "s"
          refine ⟨p9, rs ++ qs, _, rfl, TL.cat (paired_but b9 hP8 hT8) hU9 hp9, by rw [List.length_append]; omega, fun r hr => ?_, hP9.new hp9, (b8.trans b9).new hp9⟩
          rcases List.mem_append.mp hr with hr | hr
          · exact h38 r hr
          · exact h39 r hr
        · rintro σ H8 ⟨lr, rs, v7, rfl, ⟨ts, hL8, hT8⟩, hrl, h38, hP8, b8⟩
          have nlr : lr ≠ p := refs_ne hP8 hL8
          have hts8 : ts.length = rs.length := Paired.length hT8
          have hr89 : rs.length ≤ 89 := by omega
          walk_at "s"
          refine ⟨lr, p, _, rfl, hL8, nlr, by rw [List.length_map]; omega, hP8, fun lm ys H9 hlm b9 hP9 hys py => ?_⟩
          obtain ⟨rs', pr', hY⟩ := perm_paired py (paired_rows hT8)
          have hY9 : Paired (RowAt H9) ys rs' := paired_imp (fun y r ⟨t, e1, e2⟩ => ⟨t, e1, b9 _ _ e2 (tup_ne hP8 e2)⟩) hY
          have h3' : ∀ r ∈ rs', r.length = 3 := fun r hr => h38 r (pr'.mem_iff.mp hr)
          have hrl' : rs'.length ≤ 89 := by rw [pr'.length_eq]; exact hr89
          have hys' : ys.length = rs'.length := Paired.length hY9
          have nlm : lm ≠ p := pool_ne hP9 hys (.inr (.inl fun x hx => by
            obtain ⟨t, _, e⟩ := List.mem_map.mp (py.mem_iff.mp hx)
            exact ⟨t, e.symm⟩))
          walk_at "s"
          refine ⟨_, _, rfl, hP9, by decide, by decide, fun st HA st0 st1 hPA bA => ?_⟩
          walk_at "s"
          refine ⟨_, _, rfl, hPA, by decide, by decide, fun sh HB sh0 sh1 hPB bB => ?_⟩
          have b9B := bA.trans bB
          have hysB := b9B _ _ hys nlm
          have hYB : Paired (RowAt HB) ys rs' := paired_imp (fun y r ⟨t, e1, e2⟩ => ⟨t, e1, b9B _ _ e2 (tup_ne hP9 e2)⟩) hY9
          have SB : Same H HB := (((((But.same S6).trans b8).trans b9).trans b9B)).off hp0
          walk_at "s"
          intro lo hlo
          have hloH : H lo = none := by
            cases e : H lo with
            | none => rfl
            | some o => rw [SB _ _ e] at hlo; cases hlo
          have nlo : lo ≠ p := by
            rintro rfl
            obtain ⟨_, _, _, _, z⟩ := hPB
            rw [hlo] at z; cases z
          have nlmo : lm ≠ lo := ne_of_none hysB hlo
          walk_at "s"
          refine for_range (lo := 0) (fun i σ H' => ∃ (ts : List Addr) (ls : List Lim) (v7 v11 : Option V), σ = [some (.ref a), some (.ref p), some (.int mo), some (.bl (decide (V.int r = V.int 2))), some (.ref pl), some (.ref D1), some (.ref lm), v7, some (.int (1 + st)), some (.int sh), some (.ref lo), v11, none] ∧
            H' lo = some (.lst (ts.map V.ref)) ∧ Paired (fun t r => H' t = some (.tup (r.map V.int))) ts (ls.map Lim.row) ∧ ls.length = i ∧ Tagged (1 + st) sh ls ∧ Pool H' p ∧ But p H H' ∧ H' lm = some (.lst ys) ∧ Paired (RowAt H') ys rs') ?_ ?_ ?_
          · refine ⟨[], [], _, none, rfl, upd_same, .nil, rfl, (fun j t e => by simp at e), hPB.new hlo, (But.same SB).own hloH, (upd_ne nlmo).trans hysB, paired_imp (fun y r ⟨t, e1, e2⟩ => ⟨t, e1, (upd_ne (ne_of_none e2 hlo)).trans e2⟩) hYB⟩
          · rintro i σ HC hi ⟨ts, ls, v7, v11, rfl, hLC, hTC, hlsC, tg, hPC, bC, hysC, hYC⟩
            have hi' : i < ys.length := by omega
            obtain ⟨rr, hrr, t, e1, ht⟩ := paired_get hYC (List.getElem?_eq_getElem hi')
            obtain ⟨x1, x2, x3, rfl⟩ := three (h3' _ (List.mem_of_getElem? hrr))
            have hat := atI_nat (List.getElem?_eq_getElem hi')
            rw [e1] at hat
            rw [← Int.zero_add (i : Int)] at hat
            have htsC : ts.length = ls.length := by rw [Paired.length hTC, List.length_map]
            walk_at "s"
            refine ⟨_, _, rfl, hPC, by decide, by decide, fun dd HD dd0 dd1 hPD bD => ?_⟩
            walk_at "s"
            refine ⟨fun σ' H' => (∃ la : Int, σ' = [some (.ref a), some (.ref p), some (.int mo), some (.bl (decide (V.int r = V.int 2))), some (.ref pl), some (.ref D1), some (.ref lm), some (.int (0 + (i : Int))), some (.int (1 + st)), some (.int sh), some (.ref lo), some (.int la), none] ∧
              (la = 1 + 9 * (((i : Int) * (1 + st) + sh) % 97) + dd ∨ la = 0 - (1 + 9 * (((i : Int) * (1 + st) + sh) % 97) + dd))) ∧ But p HC H' ∧ Pool H' p, ?_, ?_⟩
            · walk_at "s"
              refine ⟨_, _, rfl, hPD, by decide, by decide, fun x4 HE x40 x41 hPE bE => ?_⟩
              walk_at "s"
              have ei : (0 : Int) + (i : Int) = i := Int.zero_add _
              refine ite2 (fun hb => ?_) (fun hb => ?_)
              · walk_at "s"
                exact ⟨⟨_, rfl, .inr (by rw [ei])⟩, bD.trans bE, hPE⟩
              · exact ⟨⟨_, rfl, .inl (by rw [ei])⟩, bD.trans bE, hPE⟩
            · rintro σE HE ⟨⟨la, rfl, hla⟩, bE, hPE⟩
              have hysE := bE _ _ hysC nlm
              have htE := bE _ _ ht (tup_ne hPC ht)
              have hLE := bE _ _ hLC nlo
              have hTE := paired_but bE hPC hTC
              walk_at "s"
              intro t9 ht9
              walk_at "s"
              have nlmt : lm ≠ t9 := ne_of_none hysE ht9
              obtain ⟨ts2, hL2, hT2⟩ := TL.push hLE hTE ht9 (r := [x1, x2, x3, la]) (xs := [V.int x1, V.int x2, V.int x3, V.int la]) rfl
              refine ⟨ts2, ls ++ [⟨x1, x2, x3, la⟩], _, _, rfl, hL2, ?_, by rw [List.length_append, hlsC]; rfl, tg.push ⟨dd, dd0, dd1, by rw [hlsC]; exact hla⟩, (hPE.new ht9).own nlo, ((bC.trans bE).new ht9).own hloH, ?_, paired_imp (fun y r ⟨t, e1, e2⟩ => ⟨t, e1, ?_⟩) hYC⟩
              · rw [List.map_append]; exact hT2
              · rw [upd_ne nlmo, upd_ne nlmt]; exact hysE
              · have e3 := bE _ _ e2 (tup_ne hPC e2)
                rw [upd_ne (ne_of e3 hLE (by intro z; cases z)), upd_ne (ne_of_none e3 ht9)]
                exact e3
          · rintro σ HC ⟨ts, ls, v7, v11, rfl, hLC, hTC, hlsC, tg, hPC, bC, hysC, hYC⟩
            walk_at "s"
            exact q lo ls HC hloH (bC.off hp0) ⟨ts, hLC, hTC⟩ (by omega) (tg.nodup (by omega) (by omega) (by omega))
end
end K30

namespace K30
open PySem L2 WM
/-! the class Ways: its fields -/
theorem k1 : ¬ (("_heights" : Str) = "_limits") := by decide +kernel
theorem k2 : ¬ (("_heights" : Str) = "_settled") := by decide +kernel
theorem k3 : ¬ (("_limits" : Str) = "_settled") := by decide +kernel
def flds (hd ll : Addr) (s : Int) : List (Str × V) := [("_heights", .ref hd), ("_limits", .ref ll), ("_settled", .int s)]
theorem fl_h {hd ll : Addr} {s : Int} : (flds hd ll s).lookup ("_heights" : Str) = some (.ref hd) := by
  unfold flds; rw [List.lookup_cons, beq_self_eq_true]
theorem fl_l {hd ll : Addr} {s : Int} : (flds hd ll s).lookup ("_limits" : Str) = some (.ref ll) := by
  unfold flds; rw [List.lookup_cons, beq_eq_false_iff_ne.mpr (Ne.symm k1), List.lookup_cons, beq_self_eq_true]
theorem fl_s {hd ll : Addr} {s : Int} : (flds hd ll s).lookup ("_settled" : Str) = some (.int s) := by
  unfold flds; rw [List.lookup_cons, beq_eq_false_iff_ne.mpr (Ne.symm k2), List.lookup_cons, beq_eq_false_iff_ne.mpr (Ne.symm k3), List.lookup_cons, beq_self_eq_true]
theorem fl_no {hd ll : Addr} {s : Int} {m : Str} (h1 : ¬ m = "_heights") (h2 : ¬ m = "_limits") (h3 : ¬ m = "_settled") : (flds hd ll s).lookup m = none := by
  unfold flds; rw [List.lookup_cons, beq_eq_false_iff_ne.mpr h1, List.lookup_cons, beq_eq_false_iff_ne.mpr h2, List.lookup_cons, beq_eq_false_iff_ne.mpr h3]; rfl
theorem fl_put {hd ll : Addr} {s z : Int} : putF "_settled" (.int z) (flds hd ll s) = flds hd ll z := by
  unfold flds putF
  rw [if_neg k2]
  unfold putF
  rw [if_neg k3]
  unfold putF
  rw [if_pos rfl]
theorem fl_new {hd ll : Addr} : putF "_settled" (.int 0) (putF "_limits" (.ref ll) (putF "_heights" (.ref hd) [])) = flds hd ll 0 := by
  show putF "_settled" (.int 0) (putF "_limits" (.ref ll) [(("_heights" : Str), V.ref hd)]) = flds hd ll 0
  have e1 : putF "_limits" (.ref ll) [(("_heights" : Str), V.ref hd)] = ([("_heights", V.ref hd), ("_limits", V.ref ll)] : List (Str × V)) := by
    unfold putF; rw [if_neg k1]; rfl
  rw [e1]
  unfold putF
  rw [if_neg k2]
  unfold putF
  rw [if_neg k3]
  rfl
/-! a dict from ints to ints -/
def dk (hs : List (Int × Int)) : List (Key × V) := hs.map fun p => (Sum.inl p.1, .int p.2)
def lk (hs : List (Int × Int)) (z : Int) : Option Int := (hs.find? fun p => decide (p.1 = z)).map (·.2)
def pt (hs : List (Int × Int)) (z v : Int) : List (Int × Int) := if (hs.any fun p => decide (p.1 = z)) = true then hs.map (fun p => if p.1 = z then (p.1, v) else p) else hs ++ [(z, v)]
theorem lk_cons (p : Int × Int) (r : List (Int × Int)) (z : Int) : lk (p :: r) z = if p.1 = z then some p.2 else lk r z := by
  unfold lk
  rw [List.find?_cons]
  by_cases e : p.1 = z
  · rw [if_pos e, decide_eq_true e]; rfl
  · rw [if_neg e, decide_eq_false e]
theorem dk_val (z : Int) : ∀ hs : List (Int × Int), valV (dk hs) (Sum.inl z : Key) = (lk hs z).map V.int
  | [] => rfl
  | p :: r => by
    show valV ((Sum.inl p.1, V.int p.2) :: dk r) (Sum.inl z : Key) = _
    rw [lk_cons]
    by_cases e : p.1 = z
    · rw [if_pos e, valV_pos (by rw [e])]; rfl
    · rw [if_neg e, valV_neg (by intro q; exact e (Sum.inl.inj q))]; exact dk_val z r
theorem dk_any (z : Int) : ∀ hs : List (Int × Int), ((dk hs).any fun kv => decide (kv.1 = (Sum.inl z : Key))) = hs.any fun p => decide (p.1 = z)
  | [] => rfl
  | p :: r => by
    show (decide ((Sum.inl p.1 : Key) = Sum.inl z) || (dk r).any _) = (decide (p.1 = z) || _)
    rw [dk_any z r]
    congr 1
    by_cases e : p.1 = z
    · rw [e]; simp
    · rw [decide_eq_false e, decide_eq_false (fun q => e (Sum.inl.inj q))]
theorem dk_put (hs : List (Int × Int)) (z v : Int) : putK (dk hs) (Sum.inl z : Key) (.int v) = dk (pt hs z v) := by
  unfold putK pt
  rw [dk_any]
  split
  · unfold dk
    rw [List.map_map, List.map_map]
    refine List.map_congr_left fun p _ => ?_
    show (if (Sum.inl p.1 : Key) = Sum.inl z then (Sum.inl p.1, V.int v) else (Sum.inl p.1, V.int p.2)) = (fun q : Int × Int => ((Sum.inl q.1 : Key), V.int q.2)) (if p.1 = z then (p.1, v) else p)
    by_cases e : p.1 = z
    · rw [if_pos e, if_pos (by rw [e])]
    · rw [if_neg e, if_neg (fun q => e (Sum.inl.inj q))]
  · unfold dk
    rw [List.map_append]; rfl
theorem lk_any (z : Int) : ∀ hs : List (Int × Int), (hs.any fun p => decide (p.1 = z)) = (lk hs z).isSome
  | [] => rfl
  | p :: r => by
    rw [lk_cons, List.any_cons, lk_any z r]
    by_cases e : p.1 = z
    · rw [if_pos e, decide_eq_true e]; rfl
    · rw [if_neg e, decide_eq_false e]; rfl
theorem lk_mem {z : Int} : ∀ {hs : List (Int × Int)}, (lk hs z).isSome = true ↔ z ∈ hs.map (·.1)
  | [] => by simp [lk]
  | p :: r => by
    rw [lk_cons]
    by_cases e : p.1 = z
    · rw [if_pos e]; simp [e]
    · rw [if_neg e, lk_mem]; simp [Ne.symm e]
theorem lk_map (z v u : Int) : ∀ hs : List (Int × Int), lk (hs.map fun p => if p.1 = z then (p.1, v) else p) u = if u = z then (lk hs u).map fun _ => v else lk hs u
  | [] => by simp [lk]
  | p :: r => by
    rw [List.map_cons, lk_cons, lk_cons, lk_map z v u r]
    by_cases e : p.1 = z
    · rw [if_pos e]
      by_cases h : u = z
      · rw [if_pos h, if_pos (show p.1 = u by rw [e, h]), if_pos (show p.1 = u by rw [e, h]), if_pos h]; rfl
      · rw [if_neg h, if_neg h, if_neg (show ¬ p.1 = u by rw [e]; exact Ne.symm h), if_neg (show ¬ p.1 = u by rw [e]; exact Ne.symm h)]
    · rw [if_neg e]
      by_cases h : u = z
      · rw [if_pos h, if_pos h, if_neg (show ¬ p.1 = u by rw [h]; exact e), if_neg (show ¬ p.1 = u by rw [h]; exact e)]
      · rw [if_neg h, if_neg h]
theorem lk_snoc (z v u : Int) : ∀ hs : List (Int × Int), lk hs z = none → lk (hs ++ [(z, v)]) u = if u = z then some v else lk hs u
  | [], _ => by
    rw [List.nil_append, lk_cons]
    by_cases h : u = z
    · rw [if_pos h.symm, if_pos h]
    · rw [if_neg (Ne.symm h), if_neg h]
  | p :: r, hn => by
    rw [lk_cons] at hn
    have hne : ¬ p.1 = z := by intro e; rw [if_pos e] at hn; cases hn
    rw [if_neg hne] at hn
    rw [List.cons_append, lk_cons, lk_cons, lk_snoc z v u r hn]
    by_cases h : u = z
    · rw [if_pos h, if_neg (show ¬ p.1 = u by rw [h]; exact hne), if_pos h]
    · rw [if_neg h, if_neg h]
theorem lk_pt (hs : List (Int × Int)) (z v u : Int) : lk (pt hs z v) u = if u = z then some v else lk hs u := by
  unfold pt
  by_cases h : (hs.any fun p => decide (p.1 = z)) = true
  · rw [if_pos h, lk_map]
    by_cases e : u = z
    · rw [if_pos e, if_pos e]
      rw [lk_any] at h
      rw [e]
      obtain ⟨w, hw⟩ := Option.isSome_iff_exists.mp h
      rw [hw]; rfl
    · rw [if_neg e, if_neg e]
  · rw [if_neg h]
    rw [lk_any] at h
    exact lk_snoc z v u hs (by cases q : lk hs z with
      | none => rfl
      | some w => rw [q] at h; exact absurd rfl h)
theorem keys_pt (hs : List (Int × Int)) (z v : Int) : (pt hs z v).map (·.1) = if z ∈ hs.map (·.1) then hs.map (·.1) else hs.map (·.1) ++ [z] := by
  unfold pt
  by_cases h : (hs.any fun p => decide (p.1 = z)) = true
  · have h2 := h
    rw [lk_any, lk_mem] at h2
    rw [if_pos h, if_pos h2, List.map_map]
    refine List.map_congr_left fun p _ => ?_
    show (if p.1 = z then (p.1, v) else p).1 = p.1
    split <;> rfl
  · have h2 : ¬ z ∈ hs.map (·.1) := fun q => h (by rw [lk_any, lk_mem]; exact q)
    rw [if_neg h, if_neg h2, List.map_append]; rfl
theorem dg_of {H : Hp} {d : Addr} {hs : List (Int × Int)} {z v : Int} (h : H d = some (.dK (dk hs))) (e : lk hs z = some v) : DGet H d (.int z) (some (.int v)) := by
  have := DGet.k (k := (Sum.inl z : Key)) h
  rw [dk_val, e] at this
  exact this
structure CT (K : PySem.W.Frag) (C : Addr) : Prop where
  cl : Cls K C
  nH : NoAttr K C "_heights"
  nL : NoAttr K C "_limits"
  nS : NoAttr K C "_settled"
structure MetA (K : PySem.W.Frag) (C : Addr) (m qual : Str) (st : Stmt) (ps : List Str) : Prop where
  ex : ∃ (f : Addr) (fd : FuncData), Meth K C m f ∧ C8.Fun K m qual st f fd ∧ Binds K fd ps []
/-- the value of a place -/
def hf (hs : List (Int × Int)) (z : Int) : Int := (lk hs z).getD 0
/-- a Ways object at o: its dict at hd, its list at ll -/
structure WA (C : Addr) (H : Hp) (o hd ll : Addr) (ls : List Lim) (S : Nat) (hs : List (Int × Int)) : Prop where
  ob : ∃ dx, H o = some (.ins C dx (flds hd ll (S : Int)))
  dc : H hd = some (.dK (dk hs))
  lm : LL H ll ls
  nd : (hs.map (·.1)).Nodup
  le : S ≤ ls.length
  z0 : (0 : Int) ∈ hs.map (·.1)
  xy : ∀ t ∈ ls, t.x ∈ hs.map (·.1) ∧ t.y ∈ hs.map (·.1)
  ok : ∀ (n : Nat) (t : Lim), n < S → ls[n]? = some t → Fits (hf hs) t
/-- all but the object's own parts is as it was -/
def Own (o hd ll : Addr) (H H' : Hp) : Prop := ∀ b u, H b = some u → b ≠ o → b ≠ hd → b ≠ ll → H' b = some u
theorem Own.same {o hd ll : Addr} {H H1 : Hp} (a : Same H H1) : Own o hd ll H H1 := fun b u e _ _ _ => a b u e
theorem Own.trans {o hd ll : Addr} {H H1 H2 : Hp} (a : Own o hd ll H H1) (b : Own o hd ll H1 H2) : Own o hd ll H H2 := fun c u e h1 h2 h3 => b c u (a c u e h1 h2 h3) h1 h2 h3
theorem WA.same {C : Addr} {H H1 : Hp} {o hd ll : Addr} {ls S hs} (h : WA C H o hd ll ls S hs) (e : Same H H1) : WA C H1 o hd ll ls S hs :=
  { h with ob := let ⟨dx, q⟩ := h.ob; ⟨dx, e _ _ q⟩, dc := e _ _ h.dc, lm := TL.same h.lm e }
end K30

end
section
local macro_rules | `(tactic| walk_at "ne") => `(tactic| first | assumption | exact Ne.symm (by assumption) | exact L2.ne_of_none (by assumption) (by assumption) | exact Ne.symm (L2.ne_of_none (by assumption) (by assumption)) | (refine L2.ne_of (by assumption) (by assumption) ?_; intro z; cases z))
local macro_rules | `(tactic| walk_at "hp") => `(tactic| first | assumption | exact L2.upd_same | (refine (L2.upd_ne ?_).trans ?_; (walk_at "ne"); (walk_at "hp")))
local macro_rules | `(tactic| walk_at "sq") => `(tactic| first | assumption | exact L2.SqL.of (by walk_at "hp") | exact L2.SqT.of (by walk_at "hp"))
local macro_rules | `(tactic| walk_at "at") => `(tactic| first | assumption | exact rfl)
local macro_rules | `(tactic| walk_at "om") => `(tactic| first | omega | (dsimp only; omega) | decide)
local macro_rules | `(tactic| walk_at "sc") => `(tactic| first | omega | (dsimp only; omega) | assumption | decide | exact .inl ⟨by walk_at "om", by walk_at "om"⟩ | exact .inr ⟨by walk_at "om", by walk_at "om"⟩ | exact ⟨by walk_at "om", by walk_at "om"⟩ | exact ⟨by walk_at "om", by walk_at "om", by walk_at "om"⟩ | exact Nat.le_of_ble_eq_true rfl | (show L2.wipe _ _ = _; rfl) | (show L2.scal _ _ = true; rfl) | exact L2.small1000 (by simp only [List.length_map, List.length_append, List.length_cons, List.length_nil]; omega))
local macro_rules | `(tactic| walk_at "fl") => `(tactic| first | assumption | exact K30.fl_h | exact K30.fl_l | exact K30.fl_s | exact K30.fl_no (by decide +kernel) (by decide +kernel) (by decide +kernel))
local macro_rules | `(tactic| walk_at "dg") => `(tactic| first | assumption | exact K30.dg_of (by walk_at "hp") (by assumption))
local macro_rules | `(tactic| walk_at "s1") => `(tactic| first
  | refine ⟨_, rfl, ?_⟩
  | refine ⟨_, _, rfl, rfl, ?_⟩
  | refine ⟨_, _, rfl, .inl (by walk_at "sq"), ?_⟩
  | refine ⟨_, _, rfl, .inr (by walk_at "sq"), ?_⟩
  | refine ⟨_, _, _, _, rfl, rfl, (by walk_at "sq"), (by walk_at "at"), ?_⟩
  | refine ⟨_, _, _, _, rfl, rfl, (by walk_at "hp"), (by walk_at "at"), ?_⟩
  | refine ⟨_, _, _, rfl, rfl, (by walk_at "hp"), (by walk_at "sc"), ?_⟩
  | refine .inl ⟨_, rfl, ?_⟩
  | refine ⟨_, _, _, _, _, rfl, (by walk_at "hp"), (by assumption), (by assumption), (by walk_at "fl"), ?_⟩
  | refine ⟨_, _, _, _, rfl, (by walk_at "hp"), (by assumption), (by assumption), (by walk_at "sc"), ?_⟩
  | refine ⟨_, _, _, rfl, (by walk_at "hp"), (by walk_at "fl"), ?_⟩
  | refine ⟨_, _, rfl, (by walk_at "dg"), ?_⟩
  | refine ⟨_, _, rfl, (by walk_at "sq"), rfl, ?_⟩
  | (show ∃ (v : L2.V) (r : List L2.V), _ = v :: r ∧ _; refine ⟨_, _, rfl, ?_⟩)
  | (show _ = ([] : List L2.V) ∧ _; refine And.intro rfl ?_)
  | refine K30.iteF' ?_
  | refine K30.iteT' ?_
  | refine And.intro (by walk_at "sc") ?_
  | refine And.intro ⟨_, by walk_at "sq"⟩ ?_
  | refine And.intro (.inl ⟨rfl, _, by walk_at "sq"⟩) ?_)
local macro_rules | `(tactic| walk_at "s") => `(tactic| repeat (walk_at "s1"))

namespace K30
open PySem L2 WM
def sp_init (C : Addr) : Sp := fun vs H Q _ => ∃ (o dx : Addr), vs = [.ref o] ∧ H o = some (.ins C dx []) ∧ ∀ (hd ll : Addr) H', H hd = none → H ll = none → hd ≠ ll → WA C H' o hd ll [] 0 [(0, 0)] → (∀ b u, H b = some u → b ≠ o → H' b = some u) → Q .non H'
def sp_limit (C : Addr) : Sp := fun vs H Q _ => ∃ (o hd ll : Addr) (ls : List Lim) (S : Nat) (hs : List (Int × Int)) (t : Lim), vs = [.ref o, .int t.x, .int t.y, .int t.k, .int t.l] ∧ WA C H o hd ll ls S hs ∧ ls.length ≤ 400 ∧ hs.length ≤ 900 ∧
  ∀ hs' H', WA C H' o hd ll (ls ++ [t]) S hs' → (∀ z, z ∈ hs'.map (·.1) ↔ z ∈ hs.map (·.1) ∨ z = t.x ∨ z = t.y) → Own o hd ll H H' → Q .non H'
def sp_limits (C : Addr) : Sp := fun vs H Q _ => ∃ (o hd ll : Addr) (ls : List Lim) (S : Nat) (hs : List (Int × Int)), vs = [.ref o] ∧ WA C H o hd ll ls S hs ∧ Q (.int (ls.length : Int)) H
theorem pt_nd {hs : List (Int × Int)} {z v : Int} (h : (hs.map (·.1)).Nodup) : ((pt hs z v).map (·.1)).Nodup := by
  rw [keys_pt]
  split
  · exact h
  · rename_i hn
    exact List.nodup_append.mpr ⟨h, by simp, fun a ha b hb => by simp at hb; rw [hb]; intro e; rw [e] at ha; exact hn ha⟩
theorem pt_mem {hs : List (Int × Int)} {z v u : Int} : u ∈ (pt hs z v).map (·.1) ↔ u ∈ hs.map (·.1) ∨ u = z := by
  rw [keys_pt]
  split
  · rename_i h
    constructor
    · exact .inl
    · rintro (h2 | h2)
      · exact h2
      · rw [h2]; exact h
  · simp
theorem pt_len (hs : List (Int × Int)) (z v : Int) : (pt hs z v).length ≤ hs.length + 1 := by
  unfold pt
  split
  · rw [List.length_map]; omega
  · rw [List.length_append]; simp
/-- a place that is not there counts as height 0 already -/
theorem hf_pt {hs : List (Int × Int)} {z : Int} (h : lk hs z = none) (u : Int) : hf (pt hs z 0) u = hf hs u := by
  unfold hf
  rw [lk_pt]
  by_cases e : u = z
  · rw [if_pos e, e, h]; rfl
  · rw [if_neg e]
theorem ne_hd_ll {C H o hd ll ls S hs} (h : WA C H o hd ll ls S hs) : hd ≠ ll ∧ o ≠ hd ∧ o ≠ ll := by
  obtain ⟨ts, h1, h2⟩ := h.lm
  obtain ⟨dx, h3⟩ := h.ob
  exact ⟨ne_of h.dc h1 (by intro z; cases z), ne_of h3 h.dc (by intro z; cases z), ne_of h3 h1 (by intro z; cases z)⟩
/-- the heights' dict is changed alone -/
theorem TL.dict {H : Hp} {l d : Addr} {rs : List (List Int)} {k k' : List (Key × V)} (h : TL H l rs) (hd : H d = some (.dK k)) : TL (L2.upd H d (.dK k')) l rs := by
  obtain ⟨ts, h1, h2⟩ := h
  refine ⟨ts, (upd_ne (ne_of h1 hd (by intro z; cases z))).trans h1, ?_⟩
  clear h1
  induction h2 with
  | nil => exact .nil
  | cons a _ ih => exact .cons ((upd_ne (ne_of a hd (by intro z; cases z))).trans a) ih
theorem WA.dict {C H o hd ll ls S hs S2} (W : WA C H o hd ll ls S hs) {hs2 : List (Int × Int)} (nd2 : (hs2.map (·.1)).Nodup) (sup : ∀ z ∈ hs.map (·.1), z ∈ hs2.map (·.1)) (hS : S = S2) (ok2 : ∀ (n : Nat) (t : Lim), n < S → ls[n]? = some t → Fits (hf hs2) t) :
    WA C (L2.upd H hd (.dK (dk hs2))) o hd ll ls S2 hs2 := by
  subst hS
  obtain ⟨nhl, noh, nol⟩ := ne_hd_ll W
  exact ⟨let ⟨dx, q⟩ := W.ob; ⟨dx, (upd_ne noh).trans q⟩, upd_same, TL.dict W.lm W.dc, nd2, W.le, sup _ W.z0, fun t ht => ⟨sup _ (W.xy t ht).1, sup _ (W.xy t ht).2⟩, ok2⟩
theorem Own.dict {o hd ll : Addr} {H H1 : Hp} {u : HO} (a : Own o hd ll H H1) : Own o hd ll H (L2.upd H1 hd u) := fun b v e h1 h2 h3 => (upd_ne h2).trans (a b v e h1 h2 h3)
section
variable {P : Program} {w : World} {K : PySem.W.Frag} {mg : Str → Option Value} {base : Heap} {C : Addr}
theorem m_init (T : CT K C) (M : ∃ f fd, Mk K C f ∧ C8.Fun K "__init__" "Ways.__init__" s_init f fd ∧ Binds K fd p_init []) (hm : mg "Ways" = some (.ref C)) : C8.Mak P w K mg base 1 "Ways" C (sp_init C) [] := by
  obtain ⟨f, fd, Mk, F, b⟩ := M
  obtain ⟨cl, nH, nL, nS⟩ := T
  refine C8.mak0 Mk hm F b .nil sc_init (fun vs H Q E h => ?_) (fun cdv A outer s H vs Q E hr h => ?_)
  · obtain ⟨o, dx, rfl, _⟩ := h
    rfl
  · obtain ⟨o, dx, rfl, ho, q⟩ := h
    refine ⟨_, (pss_cons (ps_fld (pv 0) (pe_disp (pps_cons pe_int pe_int pps_nil) (by rfl) (by rfl) (fun z => by cases z) (by decide)) rfl)
      (pss_cons (ps_fld (pv 0) (pe_lst pa_nil) rfl)
      (pss_one (ps_fld (pv 0) pe_int rfl)))), ?_⟩
    intro hd hhd
    refine ⟨upd_same, [(Sum.inl 0, .int 0)], rfl, by decide, ?_⟩
    rw [upd_upd]
    have no : o ≠ hd := ne_of_none ho hhd
    have e0 : mergeK [] [((Sum.inl 0 : Key), V.int 0)] = dk [(0, 0)] := rfl
    rw [e0]
    have ho1 : L2.upd H hd (.dK (dk [(0, 0)])) o = some (.ins C dx []) := (upd_ne no).trans ho
    walk_at "s"
    intro ll hll
    have nol : o ≠ ll := ne_of_none upd_same hll
    have ndl : hd ≠ ll := by
      rintro rfl
      rw [upd_ne no.symm, upd_same] at hll; cases hll
    have hllH : H ll = none := by
      rw [upd_ne nol.symm, upd_ne ndl.symm] at hll; exact hll
    have ho2 : ∀ x, L2.upd (L2.upd (L2.upd H hd (.dK (dk [(0, 0)]))) o (.ins C dx (putF "_heights" (.ref hd) []))) ll x o = some (.ins C dx (putF "_heights" (.ref hd) [])) := fun x => (upd_ne nol).trans upd_same
    walk_at "s"
    rw [fl_new]
    refine q hd ll _ hhd hllH ndl ⟨⟨dx, upd_same⟩, ?_, ⟨[], ?_, .nil⟩, by decide, Nat.le_refl _, by decide, (fun t h => by cases h), fun n t h => absurd h (Nat.not_lt_zero _)⟩ fun b u e hb => ?_
    · rw [upd_ne no.symm, upd_ne no.symm, upd_ne ndl, upd_ne no.symm]; exact upd_same
    · rw [upd_ne nol.symm, upd_ne nol.symm]; exact upd_same
    · rw [upd_ne hb, upd_ne hb, upd_ne (ne_of_none e hllH), upd_ne hb, upd_ne (ne_of_none e hhd)]; exact e
theorem m_limits (T : CT K C) (B : Bi mg) (M : MetA K C "limits" "Ways.limits" s_limits p_limits) : C8.Met P w K mg base 1 C "limits" (sp_limits C) [] := by
  obtain ⟨f, fd, me, F, b⟩ := M.ex
  obtain ⟨cl, nH, nL, nS⟩ := T
  have T := B
  refine C8.met0 cl me F b sc_limits (fun vs H Q E h => ?_) (fun cdv A outer s H vs Q E hr h => ?_)
  · obtain ⟨o, hd, ll, ls, S, hs, rfl, _⟩ := h
    rfl
  · obtain ⟨o, hd, ll, ls, S, hs, rfl, W, q⟩ := h
    obtain ⟨dx, ho⟩ := W.ob
    obtain ⟨ts, hl, ht⟩ := W.lm
    refine ⟨_, (pss_one (ps_ret (pe_callB call_len_seq (by rfl) T.b_len t_len (pa_cons (pe_fld (pv 0) rfl) pa_nil)))), ?_⟩
    walk_at "s"
    have e1 := Paired.length ht
    rw [List.length_map] at e1
    rw [List.length_map, e1]
    exact q
theorem m_limit (T : CT K C) (B : Bi mg) (M : MetA K C "limit" "Ways.limit" s_limit p_limit) : C8.Met P w K mg base 1 C "limit" (sp_limit C) [] := by
  obtain ⟨f, fd, me, F, b⟩ := M.ex
  obtain ⟨cl, nH, nL, nS⟩ := T
  have T := B
  refine C8.met0 cl me F b sc_limit (fun vs H Q E h => ?_) (fun cdv A outer s H vs Q E hr h => ?_)
  · obtain ⟨o, hd, ll, ls, S, hs, t, rfl, _⟩ := h
    rfl
  · obtain ⟨o, hd, ll, ls, S, hs, t, rfl, W, hz1, hz2, q⟩ := h
    obtain ⟨dx, ho⟩ := W.ob
    obtain ⟨nhl, noh, nol⟩ := ne_hd_ll W
    refine ⟨_, (pss_cons (ps_for PassesOwn.never rfl (pi_tup (pe_tup (pa_cons (pv 1) (pa_cons (pv 2) pa_nil)))) (pg_name (i := 5) sc_limit.nd rfl (Or.inl rfl)) (pss_one (ps_expr (pe_dsetd (pe_fld (pv 0) rfl) (pv 5) pe_int ⟨rfl, rfl, rfl, rfl⟩))))
      (pss_one (ps_expr (pe_bm PySem.F.plainAttrs_list PySem.F.slot_list_append PySem.F.type_list_append mt_append (pe_fld (pv 0) rfl) (pa_cons (pe_tup (pa_cons (pv 1) (pa_cons (pv 2) (pa_cons (pv 3) (pa_cons (pv 4) pa_nil))))) pa_nil))))), ?_⟩
    walk_at "s"
    intro tt htt
    walk_at "s"
    refine for_tup (xs := [.int t.x, .int t.y]) (fun i σ H' => ∃ (hs' : List (Int × Int)) (v : Option V), σ = [some (.ref o), some (.int t.x), some (.int t.y), some (.int t.k), some (.int t.l), v] ∧ WA C H' o hd ll ls S hs' ∧
      (∀ z, z ∈ hs'.map (·.1) ↔ z ∈ hs.map (·.1) ∨ (0 < i ∧ z = t.x) ∨ (1 < i ∧ z = t.y)) ∧ hs'.length ≤ hs.length + i ∧ Own o hd ll H H' ∧ H' tt = some (.tup [.int t.x, .int t.y])) ?_ ?_ ?_ ?_
    · exact ⟨hs, none, rfl, W.same (same_new (Same.refl _) htt), fun z => by simp, Nat.le_refl _, Own.same (same_new (Same.refl _) htt), upd_same⟩
    · rintro i σ H' _ ⟨hs', v, rfl, _, _, _, _, ht⟩
      exact SqT.of ht
    · rintro i x σ H' hx ⟨hs', v, rfl, W', hk, hn, ow, ht⟩
      have hi : i < 2 := (List.getElem?_eq_some_iff.mp hx).1
      obtain ⟨z, rfl, hz⟩ : ∃ z, x = .int z ∧ ((i = 0 ∧ z = t.x) ∨ (i = 1 ∧ z = t.y)) := by
        have : i = 0 ∨ i = 1 := by omega
        rcases this with rfl | rfl
        · exact ⟨t.x, by simpa using hx.symm, .inl ⟨rfl, rfl⟩⟩
        · exact ⟨t.y, by simpa using hx.symm, .inr ⟨rfl, rfl⟩⟩
      obtain ⟨dx', ho'⟩ := W'.ob
      have hd' := W'.dc
      walk_at "s"
      refine ⟨.inl ⟨_, .inl hd'⟩, ?_⟩
      walk_at "s"
      have mem' : ∀ u, (u ∈ hs'.map (·.1) ∨ u = z) ↔ u ∈ hs.map (·.1) ∨ (0 < i + 1 ∧ u = t.x) ∨ (1 < i + 1 ∧ u = t.y) := fun u => by
        rw [hk u]
        rcases hz with ⟨rfl, rfl⟩ | ⟨rfl, rfl⟩
        · simp
        · simp [or_assoc]
      refine ⟨_, Sum.inl z, hd', rfl, small1000 (by unfold dk; rw [List.length_map]; omega), fun v1 e1 => ?_, fun e1 => ?_⟩
      · have hin : z ∈ hs'.map (·.1) := by
          rw [dk_val] at e1
          cases e2 : lk hs' z with
          | none => rw [e2] at e1; cases e1
          | some w => exact lk_mem.mp (by rw [e2]; rfl)
        refine ⟨hs', _, rfl, W', fun u => ?_, by omega, ow, ht⟩
        rw [← mem' u]
        exact ⟨.inl, fun h => h.elim id fun e => by rw [e]; exact hin⟩
      · have hno : lk hs' z = none := by
          rw [dk_val] at e1
          cases e2 : lk hs' z with
          | none => rfl
          | some w => rw [e2] at e1; cases e1
        rw [dk_put]
        refine ⟨pt hs' z 0, _, rfl, W'.dict (pt_nd W'.nd) (fun u hu => pt_mem.mpr (.inl hu)) rfl (fun n t2 hn2 ht2 => ?_), fun u => ?_, ?_, ow.dict, ?_⟩
        · have := W'.ok n t2 hn2 ht2
          unfold Fits at this ⊢
          rw [hf_pt hno, hf_pt hno]; exact this
        · rw [pt_mem]; exact mem' u
        · have := pt_len hs' z 0; omega
        · rw [upd_ne (ne_of ht hd' (by intro z; cases z))]; exact ht
    · rintro σ H' ⟨hs', v, rfl, W', hk, hn, ow, ht⟩
      obtain ⟨dx', ho'⟩ := W'.ob
      obtain ⟨ts, hl', ht'⟩ := W'.lm
      have e1 := Paired.length ht'
      rw [List.length_map] at e1
      have hts : ts.length ≤ 400 := by omega
      obtain ⟨nhl', noh', nol'⟩ := ne_hd_ll W'
      walk_at "s"
      intro t9 ht9
      have s9 := same_new (o := .tup [.int t.x, .int t.y, .int t.k, .int t.l]) (Same.refl _) ht9
      have ho9 := s9 _ _ ho'
      have hl9 := s9 _ _ hl'
      walk_at "s"
      obtain ⟨ts2, hL2, hT2⟩ := TL.push hl' ht' ht9 (r := Lim.row t) (xs := [.int t.x, .int t.y, .int t.k, .int t.l]) rfl
      refine q hs' _ ⟨⟨dx', (upd_ne nol').trans ho9⟩, (upd_ne nhl').trans (s9 _ _ W'.dc), ⟨ts2, hL2, ?_⟩, W'.nd, ?_, W'.z0, fun u hu => ?_, fun n u hn2 hu => ?_⟩ (fun z => ?_) (fun b u e h1 h2 h3 => ?_)
      · rw [List.map_append]; exact hT2
      · have := W'.le; rw [List.length_append]; omega
      · rcases List.mem_append.mp hu with hu | hu
        · exact W'.xy u hu
        · rw [List.mem_singleton.mp hu]
          exact ⟨(hk _).mpr (.inr (.inl ⟨Nat.zero_lt_succ _, rfl⟩)), (hk _).mpr (.inr (.inr ⟨Nat.lt_succ_self _, rfl⟩))⟩
      · have := W'.le
        rw [List.getElem?_append_left (by omega)] at hu
        exact W'.ok n u hn2 hu
      · rw [hk z]; simp
      · rw [upd_ne h3]; exact s9 _ _ (ow b u e h1 h2 h3)
end
end K30


namespace K30
open PySem L2 WM
theorem pe_fldK {X : Cx} {K : PySem.W.Frag} {e : Expr} {f : Str} {pos : Pos} {ta : TE} (hK : X.K = K) (he : PE X e ta) (hb : attributeBase e f X.env (eval e X.env) = eval e X.env) : PE X (.Attribute e f pos) (tFld K ta f) := by
  subst hK
  exact pe_fld he hb
/-- a dict comprehension over a list that stays -/
theorem dc_list {K : PySem.W.Frag} {a : Addr} {xs : List V} {g : TG} {tt : TT} {tk tv : TE} {vs : List Nat} {σ : L2.St} {H1 : Hp} {D : Addr} {Qd : Hp → Prop} (Pv : Nat → Hp → Prop) (h0 : Pv 0 (L2.upd H1 D (.dK []))) (hl : ∀ i H, i ≤ xs.length → Pv i H → SqL K H a xs)
    (hs : ∀ i x H, xs[i]? = some x → Pv i H → g x (wipe σ vs) H fun σ2 H2 => wipe σ2 vs = wipe σ vs ∧ tt σ2 H2 fun b H3 =>
      if b = true then tk σ2 H3 fun y H4 => tv σ2 H4 fun z H5 => ∃ kvs k, y = kV k ∧ H5 D = some (.dK kvs) ∧ kvs.length < sizeLine ∧ Pv (i + 1) (L2.upd H5 D (.dK (putK kvs k z))) else Pv (i + 1) H3) (hd : ∀ H, Pv xs.length H → Qd H) :
    ∃ W : Nat → Nat → Hp → Prop, (∃ m, W 0 m (L2.upd H1 D (.dK []))) ∧ ∀ i m H, W i m H →
      ((Itl K a).stop i H ∧ Qd H) ∨ ((Itl K a).go i H ∧ ∃ Nx : Hp → Prop, (∀ H', Nx H' → ∃ m', m' < m ∧ W (i + 1) m' H') ∧ ∀ x H', (Itl K a).yld i H x H' → g x (wipe σ vs) H' fun σ2 H2 => wipe σ2 vs = wipe σ vs ∧ tt σ2 H2 fun b H3 =>
        if b = true then tk σ2 H3 fun y H4 => tv σ2 H4 fun z H5 => ∃ kvs k, y = kV k ∧ H5 D = some (.dK kvs) ∧ kvs.length < sizeLine ∧ Nx (L2.upd H5 D (.dK (putK kvs k z))) else Nx H3) := by
  refine ⟨fun i m H => m + i = xs.length ∧ Pv i H, ⟨xs.length, by simp, h0⟩, ?_⟩
  rintro i m H ⟨hm, p⟩
  have q := hl i H (by omega) p
  by_cases hlt : i < xs.length
  · refine .inr ⟨⟨xs, xs[i], q, by simp [hlt]⟩, Pv (i + 1), fun H' p' => ⟨xs.length - (i + 1), by omega, by omega, p'⟩, fun x H' y => ?_⟩
    obtain ⟨e, y⟩ := y
    subst e
    exact hs i x H' (y xs q) p
  · have e : i = xs.length := by omega
    subst e
    exact .inl ⟨⟨xs, q, Nat.le_refl _⟩, hd H p⟩
theorem lk_hf {hs : List (Int × Int)} {z : Int} (h : z ∈ hs.map (·.1)) : lk hs z = some (hf hs z) := by
  have := lk_mem.mpr h
  unfold hf
  cases e : lk hs z with
  | none => rw [e] at this; cases this
  | some w => rfl
theorem pt_new {hs : List (Int × Int)} {z v : Int} (h : ¬ z ∈ hs.map (·.1)) : pt hs z v = hs ++ [(z, v)] := by
  unfold pt
  rw [if_neg]
  rw [lk_any, lk_mem]; exact h
def sp_wheights (C : Addr) : Sp := fun vs H Q _ => ∃ (o hd ll : Addr) (ls : List Lim) (S : Nat) (hs : List (Int × Int)), vs = [.ref o] ∧ WA C H o hd ll ls S hs ∧ hs.length ≤ 900 ∧
  ∀ (d : Addr) (ks : List Int) H', H d = none → Same H H' → ks.Perm (hs.map (·.1)) → ks.Pairwise (· ≤ ·) → H' d = some (.dK (dk (ks.map fun z => (z, hf hs z - hf hs 0)))) → Q (.ref d) H'
section
variable {P : Program} {w : World} {K : PySem.W.Frag} {mg : Str → Option Value} {base : Heap} {C : Addr}
theorem m_heights (T : CT K C) (B : Bi mg) (M : MetA K C "heights" "Ways.heights" s_wheights p_wheights) : C8.Met P w K mg base 1 C "heights" (sp_wheights C) [] := by
  obtain ⟨f, fd, me, F, b⟩ := M.ex
  obtain ⟨cl, nH, nL, nS⟩ := T
  have T := B
  refine C8.met0 cl me F b sc_wheights (fun vs H Q E h => ?_) (fun cdv A outer s H vs Q E hr h => ?_)
  · obtain ⟨o, hd, ll, ls, S, hs, rfl, _⟩ := h
    rfl
  · obtain ⟨o, hd, ll, ls, S, hs, rfl, W, hz, q⟩ := h
    have hu := hu_of hr
    obtain ⟨dx, ho⟩ := W.ob
    have hdc := W.dc
    have hl0 := lk_hf W.z0
    refine ⟨_, (pss_cons (ps_set (i := 1) sc_wheights.nd rfl (Or.inr rfl) (pe_dget hu (pe_fld (pv 0) rfl) pe_int (fun _ _ => rfl)))
      (pss_one (ps_ret (pe_dc (own := [("place", 2)]) (g := gName 2) (tt := tYes) rfl sc_wheights.nd (pi_list (pe_callB cr_sortedI (by rfl) T.b_sorted t_sorted (pa_cons (pe_callTy (call_listD rfl) (by rfl) T.b_list t_list (pa_cons (pe_fld (pv 0) rfl) pa_nil)) pa_nil))) (blkOk_by (N := n_wheights) (sc := C8.fnScope s_wheights) (by decide +kernel)) (fun _ _ _ _ _ => pg_name (i := 2) sc_wheights.nd rfl (Or.inl rfl)) (fun _ _ _ _ _ => pts_nil) (fun _ _ _ _ _ => (pv 2)) (fun _ _ _ _ _ => (pe_op op_sub (pe_dget hu (pe_fldK (K := K) rfl (pv 0) rfl) (pv 2) (fun _ _ => rfl)) (pv 1))))))), ?_⟩
    walk_at "s"
    intro p hp
    have ek : (dk hs).map (fun kv => kV kv.1) = (hs.map (·.1)).map V.int := by unfold dk; rw [List.map_map, List.map_map]; rfl
    rw [ek]
    refine ⟨p, hs.map (·.1), rfl, SqL.of upd_same, fun ks l pk sk hl => ?_⟩
    walk_at "s"
    refine fun D hD => dc_list (xs := ks.map V.int) (fun i H' => H' D = some (.dK (dk ((ks.take i).map fun z => (z, hf hs z - hf hs 0)))) ∧ Same (L2.upd (L2.upd H p (.lst ((hs.map (·.1)).map V.int))) l (.lst (ks.map V.int))) H') ?_ ?_ ?_ ?_
    · exact ⟨upd_same, same_new (Same.refl _) hD⟩
    · rintro i H' _ ⟨_, s1⟩
      exact SqL.of (s1 _ _ upd_same)
    · rintro i x H' hx ⟨hD', s1⟩
      obtain ⟨z, hz1, rfl⟩ : ∃ z, ks[i]? = some z ∧ x = .int z := by
        rw [List.getElem?_map] at hx
        cases e : ks[i]? with
        | none => rw [e] at hx; cases hx
        | some z => rw [e] at hx; exact ⟨z, rfl, (Option.some.inj hx).symm⟩
      have hi := (List.getElem?_eq_some_iff.mp hz1).1
      have hkl := pk.length_eq
      rw [List.length_map] at hkl
      have hz2 : z ∈ hs.map (·.1) := pk.mem_iff.mp (List.mem_of_getElem? hz1)
      have hlz := lk_hf hz2
      have sh : Same H H' := fun b u e => s1 _ _ (same_new (same_new (Same.refl _) hp) hl b u e)
      have ho' := sh _ _ ho
      have hdc' := sh _ _ hdc
      walk_at "s"
      refine ⟨_, Sum.inl z, rfl, hD', small1000 (by unfold dk; rw [List.length_map, List.length_map, List.length_take]; omega), ?_, fun b u e => ?_⟩
      · have hnd : ks.Nodup := pk.nodup_iff.mpr W.nd
        have hno : ¬ z ∈ ((ks.take i).map fun z => (z, hf hs z - hf hs 0)).map (·.1) := by
          intro hm
          rw [List.map_map] at hm
          obtain ⟨u, hu, e⟩ := List.mem_map.mp hm
          have e2 : u = z := e
          rw [e2] at hu
          obtain ⟨j, hj⟩ := List.mem_iff_getElem?.mp hu
          rw [List.getElem?_take] at hj
          split at hj
          · rename_i hji
            have := (List.getElem?_inj hi hnd).mp (hz1.trans hj.symm)
            omega
          · cases hj
        have := upd_same (H := H') (a := D) (o := .dK (dk ((ks.take (i + 1)).map fun z => (z, hf hs z - hf hs 0))))
        rw [List.take_succ, hz1, List.map_append] at this ⊢
        dsimp only
        rw [dk_put, pt_new hno]
        exact this
      · rw [upd_ne (ne_of_none e hD)]; exact s1 b u e
    · rintro H' ⟨hD', s1⟩
      rw [List.length_map, List.take_length] at hD'
      have s2 := same_new (o := .lst (ks.map V.int)) (same_new (o := .lst ((hs.map (·.1)).map V.int)) (Same.refl H) hp) hl
      have hDH : H D = none := by
        cases e : H D with
        | none => rfl
        | some u => rw [s2 _ _ e] at hD; cases hD
      exact q D ks H' hDH (fun b u e => s1 _ _ (s2 b u e)) pk sk hD'
end
end K30


namespace K30
open PySem L2 WM
def lim0 : Lim := ⟨0, 0, 0, 0⟩
def Lf (ls : List Lim) (n : Nat) : Lim := ls.getD n lim0
theorem Lf_at {ls : List Lim} {n : Nat} (h : n < ls.length) : ls[n]? = some (Lf ls n) := by
  unfold Lf; rw [List.getD_eq_getElem?_getD, List.getElem?_eq_getElem h]; rfl
def nums (ls : List Lim) (S : Nat) (z : Int) : List Nat := (List.range S).filter fun n => decide ((Lf ls n).y = z)
def nV (n : Nat) : V := .int (n : Int)
/-- the numbers of the limits that lead out of each place -/
structure Lead (H : Hp) (d : Addr) (f : Int → Option Addr) (ls : List Lim) (S : Nat) : Prop where
  dc : ∃ kvs, H d = some (.dK kvs) ∧ kvs.length ≤ S ∧ ∀ z, valV kvs (Sum.inl z : Key) = (f z).map V.ref
  at_ : ∀ z a, f z = some a → H a = some (.lst ((nums ls S z).map nV))
  no : ∀ z, f z = none → nums ls S z = []
  inj : ∀ z1 z2 a, f z1 = some a → f z2 = some a → z1 = z2
theorem nums_succ (ls : List Lim) (S : Nat) (z : Int) : nums ls (S + 1) z = nums ls S z ++ (if (Lf ls S).y = z then [S] else []) := by
  unfold nums
  rw [List.range_succ, List.filter_append]
  congr 1
  by_cases h : (Lf ls S).y = z
  · rw [if_pos h]; simp [h]
  · rw [if_neg h]; simp [h]
theorem nums_len (ls : List Lim) (S : Nat) (z : Int) : (nums ls S z).length ≤ S := by
  unfold nums
  have := List.length_filter_le (fun n => decide ((Lf ls n).y = z)) (List.range S)
  rw [List.length_range] at this; exact this
theorem nums_mem {ls : List Lim} {S : Nat} {z : Int} {n : Nat} : n ∈ nums ls S z ↔ n < S ∧ (Lf ls n).y = z := by
  unfold nums; simp
/-- the row of a limit, read -/
theorem LL.at_ {H : Hp} {l : Addr} {ls : List Lim} (h : LL H l ls) {n : Nat} (hn : n < ls.length) : ∃ ts : List Addr, ∃ t, H l = some (.lst (ts.map V.ref)) ∧ atI (ts.map V.ref) (n : Int) = some (.ref t) ∧ H t = some (.tup ((Lim.row (Lf ls n)).map V.int)) := by
  obtain ⟨ts, h1, h2⟩ := h
  have e := Paired.length h2
  rw [List.length_map] at e
  have hn2 : n < ts.length := by omega
  obtain ⟨r, hr, ht⟩ := paired_get h2 (List.getElem?_eq_getElem hn2)
  rw [List.getElem?_map, Lf_at hn] at hr
  have er : r = Lim.row (Lf ls n) := by simpa using hr.symm
  subst er
  refine ⟨ts, ts[n], h1, ?_, ht⟩
  refine atI_nat ?_
  rw [List.getElem?_map, List.getElem?_eq_getElem hn2]; rfl
def sp_leading (C : Addr) : Sp := fun vs H Q _ => ∃ (o hd ll : Addr) (ls : List Lim) (S : Nat) (hs : List (Int × Int)), vs = [.ref o] ∧ WA C H o hd ll ls S hs ∧ ls.length ≤ 400 ∧
  ∀ d f H', H d = none → Same H H' → Lead H' d f ls S → (∀ z a, f z = some a → H a = none) → Q (.ref d) H'
section
variable {P : Program} {w : World} {K : PySem.W.Frag} {mg : Str → Option Value} {base : Heap} {C : Addr}
theorem m_leading (T : CT K C) (B : Bi mg) (M : MetA K C "_leading" "Ways._leading" s_leading p_leading) : C8.Met P w K mg base 1 C "_leading" (sp_leading C) [] := by
  obtain ⟨f, fd, me, F, b⟩ := M.ex
  obtain ⟨cl, nH, nL, nS⟩ := T
  have T := B
  refine C8.met0 cl me F b sc_leading (fun vs H Q E h => ?_) (fun cdv A outer s H vs Q E hr h => ?_)
  · obtain ⟨o, hd, ll, ls, S, hs, rfl, _⟩ := h
    rfl
  · obtain ⟨o, hd, ll, ls, S, hs, rfl, W, hz, q⟩ := h
    have hu := hu_of hr
    obtain ⟨dx, ho⟩ := W.ob
    have hS := W.le
    refine ⟨_, (pss_cons (ps_set (i := 1) sc_leading.nd rfl (Or.inl rfl) pe_dnewK)
      (pss_cons (ps_for PassesOwn.never rfl (pi_range1 (by rfl) T.b_range (pa_cons (pe_fld (pv 0) rfl) pa_nil)) (pg_name (i := 2) sc_leading.nd rfl (Or.inl rfl)) (pss_one (ps_expr (pe_bm PySem.F.plainAttrs_list PySem.F.slot_list_append PySem.F.type_list_append mt_append (pe_dsetd (pv 1) (pe_ix ix_tup (pe_ix ix_list (pe_fld (pv 0) rfl) (pv 2) (fun _ _ => rfl)) pe_int (fun _ _ => rfl)) (pe_lst pa_nil) ⟨rfl, rfl, rfl, rfl⟩) (pa_cons (pv 2) pa_nil)))))
      (pss_one (ps_ret (pv 1))))), ?_⟩
    walk_at "s"
    intro d hd0
    have s1 := same_new (o := .dK []) (Same.refl _) hd0
    have ho1 := s1 _ _ ho
    walk_at "s"
    refine for_range (lo := 0) (fun i σ H' => ∃ (f : Int → Option Addr) (v : Option V), σ = [some (.ref o), some (.ref d), v] ∧ Same H H' ∧ Lead H' d f ls i ∧ (∀ z a, f z = some a → H a = none ∧ a ≠ d)) ?_ ?_ ?_
    · exact ⟨fun _ => none, none, rfl, s1, ⟨⟨[], upd_same, Nat.zero_le _, fun z => rfl⟩, (fun z a e => by cases e), (fun z _ => rfl), (fun z1 z2 a e => by cases e)⟩, (fun z a e => by cases e)⟩
    · rintro i σ H' hi ⟨f, v, rfl, s2, Ld, fr⟩
      have hi2 : i < S := by omega
      have ho' := s2 _ _ ho
      obtain ⟨ts, t, hl', hat, ht⟩ := LL.at_ (TL.same W.lm s2) (n := i) (by omega)
      rw [← Int.zero_add (i : Int)] at hat
      obtain ⟨kvs, hdc, hkl, hv⟩ := Ld.dc
      walk_at "s"
      refine ⟨.inl ⟨_, .inl hdc⟩, ?_⟩
      walk_at "s"
      intro e he
      have se := same_new (o := .lst []) (Same.refl H') he
      have hde := se _ _ hdc
      have heH : H e = none := by
        cases e1 : H e with
        | none => rfl
        | some u => rw [s2 _ _ e1] at he; cases he
      have ned : d ≠ e := ne_of_none hdc he
      have ey : (Lf ls i).y = (Lf ls i).y := rfl
      have hnum := nums_succ ls i
      refine ⟨kvs, Sum.inl (Lf ls i).y, hde, rfl, small1000 (by omega), fun v1 e1 => ?_, fun e1 => ?_⟩
      · rw [hv] at e1
        cases e2 : f (Lf ls i).y with
        | none => rw [e2] at e1; cases e1
        | some a =>
          rw [e2] at e1
          cases e1
          have ha := se _ _ (Ld.at_ _ _ e2)
          have hna := nums_len ls i (Lf ls i).y
          have nad : a ≠ d := (fr _ _ e2).2
          refine ⟨.inl ⟨rfl, _, SqL.of ha⟩, ?_⟩
          walk_at "s"
          refine ⟨f, _, rfl, fun b u eb => ?_, ⟨⟨kvs, (upd_ne nad.symm).trans hde, by omega, hv⟩, fun z a2 h2 => ?_, fun z h2 => ?_, Ld.inj⟩, fr⟩
          · rw [upd_ne (ne_of_none eb (fr _ _ e2).1)]; exact se _ _ (s2 _ _ eb)
          · rw [hnum]
            by_cases ez : (Lf ls i).y = z
            · rw [if_pos ez]
              rw [← ez, e2] at h2
              cases h2
              rw [← ez, List.map_append, Int.zero_add]
              exact upd_same
            · rw [if_neg ez, List.append_nil]
              have na : a2 ≠ a := fun e3 => ez (Ld.inj _ _ a e2 (e3 ▸ h2))
              rw [upd_ne na]
              exact se _ _ (Ld.at_ _ _ h2)
          · rw [hnum]
            have ez : ¬ (Lf ls i).y = z := fun e3 => by rw [← e3, e2] at h2; cases h2
            rw [if_neg ez, List.append_nil]; exact Ld.no z h2
      · have e2 : f (Lf ls i).y = none := by
          rw [hv] at e1
          cases e2 : f (Lf ls i).y with
          | none => rfl
          | some a => rw [e2] at e1; cases e1
        have hke := putK_new (V.ref e) e1
        refine ⟨.inl ⟨rfl, [], SqL.of ((upd_ne ned.symm).trans upd_same)⟩, ?_⟩
        walk_at "s"
        refine ⟨fun z => if z = (Lf ls i).y then some e else f z, _, rfl, fun b u eb => ?_, ⟨⟨_, (upd_ne ned).trans upd_same, ?_, fun z => ?_⟩, fun z a2 h2 => ?_, fun z h2 => ?_, fun z1 z2 a2 h1 h2 => ?_⟩, fun z a2 h2 => ?_⟩
        · rw [upd_ne (ne_of_none eb heH), upd_ne (ne_of_none eb hd0)]; exact se _ _ (s2 _ _ eb)
        · rw [hke, List.length_append]; simp; omega
        · rw [valV_put]
          by_cases ez : z = (Lf ls i).y
          · rw [if_pos ez, if_pos (by rw [ez])]; rfl
          · rw [if_neg ez, if_neg (fun q => ez (Sum.inl.inj q))]; exact hv z
        · by_cases ez : z = (Lf ls i).y
          · have h3 : some e = some a2 := by simpa [ez] using h2
            cases h3
            rw [hnum, if_pos ez.symm, ez, Ld.no _ e2, Int.zero_add]
            exact upd_same
          · have h3 : f z = some a2 := by simpa [ez] using h2
            have h4 := Ld.at_ _ _ h3
            have n1 : a2 ≠ e := ne_of_none h4 he
            have n2 : a2 ≠ d := (fr _ _ h3).2
            rw [hnum, if_neg (Ne.symm ez), List.append_nil, upd_ne n1, upd_ne n2]
            exact se _ _ h4
        · have ez : ¬ z = (Lf ls i).y := fun e3 => by simp [e3] at h2
          have h3 : f z = none := by simpa [ez] using h2
          rw [hnum, if_neg (Ne.symm ez), List.append_nil]; exact Ld.no z h3
        · by_cases ez1 : z1 = (Lf ls i).y
          · by_cases ez2 : z2 = (Lf ls i).y
            · rw [ez1, ez2]
            · have h3 : some e = some a2 := by simpa [ez1] using h1
              have h4 : f z2 = some a2 := by simpa [ez2] using h2
              cases h3
              rw [Ld.at_ _ _ h4] at he; cases he
          · have h3 : f z1 = some a2 := by simpa [ez1] using h1
            by_cases ez2 : z2 = (Lf ls i).y
            · have h4 : some e = some a2 := by simpa [ez2] using h2
              cases h4
              rw [Ld.at_ _ _ h3] at he; cases he
            · have h4 : f z2 = some a2 := by simpa [ez2] using h2
              exact Ld.inj _ _ _ h3 h4
        · by_cases ez : z = (Lf ls i).y
          · have h3 : some e = some a2 := by simpa [ez] using h2
            cases h3
            exact ⟨heH, ned.symm⟩
          · have h3 : f z = some a2 := by simpa [ez] using h2
            exact fr z a2 h3
    · rintro σ H' ⟨f, v, rfl, s2, Ld, fr⟩
      have e : ((S : Int)).toNat = S := Int.toNat_natCast S
      rw [e] at Ld
      walk_at "s"
      exact q d f H' hd0 s2 Ld fun z a h => (fr z a h).1
end
end K30


namespace K30
open PySem L2 WM
def erow (e : Ent) : List Int := [e.1, e.2.1, (e.2.2 : Int)]
def chg (ls : List Lim) (hs lw : List (Int × Int)) (n : Nat) : Int := ((lk lw (Lf ls n).y).getD 0) + (Lf ls n).k - hf hs (Lf ls n).x
def sp_falls (C : Addr) : Sp := fun vs H Q _ => ∃ (o hd ll : Addr) (ls : List Lim) (S : Nat) (hs : List (Int × Int)) (nl dl : Addr) (ns : List Nat) (lw : List (Int × Int)), vs = [.ref o, .ref nl, .ref dl] ∧ WA C H o hd ll ls S hs ∧ ls.length ≤ 400 ∧
  H nl = some (.lst (ns.map nV)) ∧ ns.length ≤ 400 ∧ H dl = some (.dK (dk lw)) ∧ (∀ n ∈ ns, n < S ∧ ∃ b, lk lw (Lf ls n).y = some b) ∧
  ∀ l (ts : List Addr) (es : List Ent) H', H l = none → Same H H' → H' l = some (.lst (ts.map V.ref)) → Paired (fun t e => H' t = some (.tup ((erow e).map V.int))) ts es → es.length ≤ ns.length →
    (∀ e, e ∈ es ↔ ∃ n ∈ ns, lk lw (Lf ls n).x = none ∧ chg ls hs lw n < 0 ∧ e = (chg ls hs lw n, (Lf ls n).x, n)) → (∀ t ∈ ts, H t = none) → Q (.ref l) H'
theorem dg_opt {H : Hp} {d : Addr} {hs : List (Int × Int)} {z : Int} (h : H d = some (.dK (dk hs))) : DGet H d (.int z) ((lk hs z).map V.int) := by
  have := DGet.k (k := (Sum.inl z : Key)) h
  rw [dk_val] at this
  exact this
theorem ents_same {H H1 : Hp} (b : Same H H1) : ∀ {ts : List Addr} {es : List Ent}, Paired (fun t e => H t = some (.tup ((erow e).map V.int))) ts es → Paired (fun t e => H1 t = some (.tup ((erow e).map V.int))) ts es
  | _, _, .nil => .nil
  | _, _, .cons h t => .cons (b _ _ h) (ents_same b t)
theorem ents_lst {H : Hp} {l : Addr} {xs ys : List V} (hl : H l = some (.lst xs)) : ∀ {ts : List Addr} {es : List Ent}, Paired (fun t e => H t = some (.tup ((erow e).map V.int))) ts es → Paired (fun t e => L2.upd H l (.lst ys) t = some (.tup ((erow e).map V.int))) ts es
  | _, _, .nil => .nil
  | _, _, .cons h t => .cons ((upd_ne (ne_of h hl (by intro z; cases z))).trans h) (ents_lst hl t)
def sp_ring (C : Addr) : Sp := fun vs H Q _ => ∃ (o hd ll : Addr) (ls : List Lim) (S : Nat) (hs : List (Int × Int)) (z : Int) (cd : Addr) (cw : List (Int × Int)) (ca : Int → Option Nat) (ns : List Nat), vs = [.ref o, .int z, .ref cd] ∧ WA C H o hd ll ls S hs ∧ ls.length ≤ 400 ∧ S < ls.length ∧
  H cd = some (.dK (dk cw)) ∧ (∀ u, lk cw u = (ca u).map fun n : Nat => (n : Int)) ∧ Back (Lf ls) S ca z ns ∧ ns.length ≤ 900 ∧
  ∀ r H', H r = none → Same H H' → H' r = some (.lst ((ns.map fun n => (Lf ls n).l).map V.int)) → Q (.ref r) H'
section
variable {P : Program} {w : World} {K : PySem.W.Frag} {mg : Str → Option Value} {base : Heap} {C : Addr}
theorem m_falls (T : CT K C) (B : Bi mg) (M : MetA K C "_falls" "Ways._falls" s_falls p_falls) : C8.Met P w K mg base 1 C "_falls" (sp_falls C) [] := by
  obtain ⟨f, fd, me, F, b⟩ := M.ex
  obtain ⟨cl, nH, nL, nS⟩ := T
  have T := B
  refine C8.met0 cl me F b sc_falls (fun vs H Q E h => ?_) (fun cdv A outer s H vs Q E hr h => ?_)
  · obtain ⟨o, hd, ll, ls, S, hs, nl, dl, ns, lw, rfl, _⟩ := h
    rfl
  · obtain ⟨o, hd, ll, ls, S, hs, nl, dl, ns, lw, rfl, W, hz, hnl, hn4, hdl, hns, q⟩ := h
    have hu := hu_of hr
    obtain ⟨dx, ho⟩ := W.ob
    have hS := W.le
    refine ⟨_, (pss_cons (ps_set (i := 3) sc_falls.nd rfl (Or.inl rfl) (pe_lst pa_nil))
      (pss_cons (ps_for PassesOwn.never rfl (pi_list (pv 1)) (pg_name (i := 4) sc_falls.nd rfl (Or.inl rfl)) (pss_cons (ps_asg (pe_ix ix_list (pe_fld (pv 0) rfl) (pv 4) (fun _ _ => rfl)) (pg_tup (by rfl) (pgs_cons (pg_name (i := 5) sc_falls.nd rfl (Or.inl rfl)) (pgs_cons (pg_name (i := 6) sc_falls.nd rfl (Or.inl rfl)) (pgs_cons (pg_name (i := 7) sc_falls.nd rfl (Or.inl rfl)) (pgs_cons (pg_name (i := 8) sc_falls.nd rfl (Or.inl rfl)) pgs_nil))))))
          (pss_cons (ps_set (i := 9) sc_falls.nd rfl (Or.inl rfl) (pe_op op_sub (pe_op op_add (pe_dget hu (pv 2) (pv 6) (fun _ _ => rfl)) (pv 7)) (pe_dget hu (pe_fld (pv 0) rfl) (pv 5) (fun _ _ => rfl))))
          (pss_one (ps_if (PW.pt (pw_and (pt_cmpR op_lt (pv 9) pe_int (nomark _)) (pw_and1 (pt_cmp (pc_dnotin hu (pv 5) (pv 2)))))) (pss_one (ps_expr (pe_bm PySem.F.plainAttrs_list PySem.F.slot_list_append PySem.F.type_list_append mt_append (pv 3) (pa_cons (pe_tup (pa_cons (pv 9) (pa_cons (pv 5) (pa_cons (pv 4) pa_nil)))) pa_nil)))) pss_nil)))))
      (pss_one (ps_ret (pv 3))))), ?_⟩
    walk_at "s"
    intro l hl0
    have s1 := same_new (o := .lst []) (Same.refl _) hl0
    have hnl1 := s1 _ _ hnl
    walk_at "s"
    refine for_list (xs := ns.map nV) (fun i σ H' => ∃ (ts : List Addr) (es : List Ent) (v4 v5 v6 v7 v8 v9 : Option V), σ = [some (.ref o), some (.ref nl), some (.ref dl), some (.ref l), v4, v5, v6, v7, v8, v9] ∧ Same H H' ∧
      H' l = some (.lst (ts.map V.ref)) ∧ Paired (fun t e => H' t = some (.tup ((erow e).map V.int))) ts es ∧ es.length ≤ i ∧
      (∀ e, e ∈ es ↔ ∃ n ∈ ns.take i, lk lw (Lf ls n).x = none ∧ chg ls hs lw n < 0 ∧ e = (chg ls hs lw n, (Lf ls n).x, n)) ∧ (∀ t ∈ ts, H t = none)) ?_ ?_ ?_ ?_
    · exact ⟨[], [], none, none, none, none, none, none, rfl, s1, upd_same, .nil, Nat.le_refl _, (fun e => by simp), (fun t h => by cases h)⟩
    · rintro i σ H' _ ⟨ts, es, v4, v5, v6, v7, v8, v9, rfl, s2, _⟩
      exact SqL.of (s2 _ _ hnl)
    · rintro i x σ H' hx ⟨ts, es, v4, v5, v6, v7, v8, v9, rfl, s2, hl', hp, hle, hmem, hfr⟩
      obtain ⟨n, hn, rfl⟩ : ∃ n, ns[i]? = some n ∧ x = .int (n : Int) := by
        rw [List.getElem?_map] at hx
        cases e : ns[i]? with
        | none => rw [e] at hx; cases hx
        | some z => rw [e] at hx; exact ⟨z, rfl, (Option.some.inj hx).symm⟩
      have hi := (List.getElem?_eq_some_iff.mp hn).1
      obtain ⟨hnS, bb, hbb⟩ := hns n (List.mem_of_getElem? hn)
      have ho' := s2 _ _ ho
      have hd' := s2 _ _ W.dc
      have hdl' := s2 _ _ hdl
      obtain ⟨ts9, t, hl9, hat, ht⟩ := LL.at_ (TL.same W.lm s2) (n := n) (by omega)
      have hxy := W.xy (Lf ls n) (List.mem_of_getElem? (Lf_at (by omega)))
      have hfx := lk_hf hxy.1
      have htk : ns.take (i + 1) = ns.take i ++ [n] := by rw [List.take_succ, hn]; rfl
      have hch : chg ls hs lw n = bb + (Lf ls n).k - hf hs (Lf ls n).x := by unfold chg; rw [hbb]; rfl
      have hdg := dg_opt (z := (Lf ls n).x) hdl'
      walk_at "s"
      have skip : (lk lw (Lf ls n).x ≠ none ∨ ¬ chg ls hs lw n < 0) → ∀ e, e ∈ es ↔ ∃ n ∈ ns.take (i + 1), lk lw (Lf ls n).x = none ∧ chg ls hs lw n < 0 ∧ e = (chg ls hs lw n, (Lf ls n).x, n) := fun hno e => by
        rw [hmem e, htk]
        constructor
        · rintro ⟨m, hm, r⟩
          exact ⟨m, List.mem_append.mpr (.inl hm), r⟩
        · rintro ⟨m, hm, r⟩
          rcases List.mem_append.mp hm with hm | hm
          · exact ⟨m, hm, r⟩
          · rw [List.mem_singleton.mp hm] at r
            rcases hno with hno | hno
            · exact absurd r.1 hno
            · exact absurd r.2.1 hno
      refine ite2 (fun hb => ?_) (fun hb => ?_)
      · have hneg := of_decide_eq_true hb
        walk_at "s"
        cases hlx : lk lw (Lf ls n).x with
        | some w =>
          refine iteF ?_
          exact ⟨ts, es, _, _, _, _, _, _, rfl, s2, hl', hp, by omega, skip (.inl (by rw [hlx]; exact fun z => by cases z)), hfr⟩
        | none =>
          refine iteT ?_
          have hts : ts.length ≤ 400 := by have := Paired.length hp; have hi9 : i < ns.length := hi; omega
          walk_at "s"
          intro t9 ht9
          have s9 := same_new (o := .tup [.int (bb + (Lf ls n).k - hf hs (Lf ls n).x), .int (Lf ls n).x, .int (n : Int)]) (Same.refl _) ht9
          have hl99 := s9 _ _ hl'
          have ht9H : H t9 = none := by
            cases e1 : H t9 with
            | none => rfl
            | some u => rw [s2 _ _ e1] at ht9; cases ht9
          walk_at "s"
          refine ⟨ts ++ [t9], es ++ [(chg ls hs lw n, (Lf ls n).x, n)], _, _, _, _, _, _, rfl, fun b u eb => ?_, ?_, ?_, by rw [List.length_append]; simp; omega, fun e => ?_, fun t2 h2 => ?_⟩
          · rw [upd_ne (ne_of_none eb hl0)]; exact s9 _ _ (s2 _ _ eb)
          · rw [List.map_append]; exact upd_same
          · refine paired_app (ents_lst hl99 (ents_same s9 hp)) (.cons ?_ .nil)
            rw [upd_ne (Ne.symm (ne_of_none hl' ht9)), upd_same, hch]; rfl
          · rw [List.mem_append, hmem e, htk]
            constructor
            · rintro (⟨m, hm, r⟩ | hm)
              · exact ⟨m, List.mem_append.mpr (.inl hm), r⟩
              · exact ⟨n, List.mem_append.mpr (.inr (List.mem_singleton.mpr rfl)), hlx, by rw [hch]; exact hneg, List.mem_singleton.mp hm⟩
            · rintro ⟨m, hm, r⟩
              rcases List.mem_append.mp hm with hm | hm
              · exact .inl ⟨m, hm, r⟩
              · rw [List.mem_singleton.mp hm] at r
                exact .inr (List.mem_singleton.mpr r.2.2)
          · rcases List.mem_append.mp h2 with h2 | h2
            · exact hfr t2 h2
            · rw [List.mem_singleton.mp h2]; exact ht9H
      · walk_at "s"
        have hneg : ¬ chg ls hs lw n < 0 := by rw [hch]; exact fun z => hb (decide_eq_true z)
        exact ⟨ts, es, _, _, _, _, _, _, rfl, s2, hl', hp, by omega, skip (.inr hneg), hfr⟩
    · rintro σ H' ⟨ts, es, v4, v5, v6, v7, v8, v9, rfl, s2, hl', hp, hle, hmem, hfr⟩
      rw [List.length_map] at hle hmem
      rw [List.take_length] at hmem
      walk_at "s"
      exact q l ts es H' hl0 s2 hl' hp hle hmem hfr
theorem m_ring (T : CT K C) (B : Bi mg) (M : MetA K C "_ring" "Ways._ring" s_ring p_ring) : C8.Met P w K mg base 1 C "_ring" (sp_ring C) [] := by
  obtain ⟨f, fd, me, F, b⟩ := M.ex
  obtain ⟨cl, nH, nL, nS⟩ := T
  have T := B
  refine C8.met0 cl me F b sc_ring (fun vs H Q E h => ?_) (fun cdv A outer s H vs Q E hr h => ?_)
  · obtain ⟨o, hd, ll, ls, S, hs, z, cd, cw, ca, ns, rfl, _⟩ := h
    rfl
  · obtain ⟨o, hd, ll, ls, S, hs, z, cd, cw, ca, ns, rfl, W, hz, hS, hcd, hca, hB, hn9, q⟩ := h
    have hu := hu_of hr
    obtain ⟨dx, ho⟩ := W.ob
    obtain ⟨n0, r0, rfl, hc0, hr0⟩ := hB.cases
    have hn0 : lk cw z = some (n0 : Int) := by rw [hca, hc0]; rfl
    have hnd := hB.head
    refine ⟨_, (pss_cons (ps_set (i := 3) sc_ring.nd rfl (Or.inl rfl) (pe_lst pa_nil))
      (pss_cons (ps_set (i := 4) sc_ring.nd rfl (Or.inl rfl) (pe_dget hu (pv 2) (pv 1) (fun _ _ => rfl)))
      (pss_cons (ps_while PassesOwn.never (pt_cmpR op_lt (pv 4) (pe_fld (pv 0) rfl) (nomark _)) (pss_cons (ps_expr (pe_bm PySem.F.plainAttrs_list PySem.F.slot_list_append PySem.F.type_list_append mt_append (pv 3) (pa_cons (pe_ix ix_tup (pe_ix ix_list (pe_fld (pv 0) rfl) (pv 4) (fun _ _ => rfl)) pe_int (fun _ _ => rfl)) pa_nil)))
          (pss_one (ps_set (i := 4) sc_ring.nd rfl (Or.inl rfl) (pe_dget hu (pv 2) (pe_ix ix_tup (pe_ix ix_list (pe_fld (pv 0) rfl) (pv 4) (fun _ _ => rfl)) pe_int (fun _ _ => rfl)) (fun _ _ => rfl))))))
      (pss_cons (ps_expr (pe_bm PySem.F.plainAttrs_list PySem.F.slot_list_append PySem.F.type_list_append mt_append (pv 3) (pa_cons (pe_ix ix_tup (pe_ix ix_list (pe_fld (pv 0) rfl) (pv 4) (fun _ _ => rfl)) pe_int (fun _ _ => rfl)) pa_nil)))
      (pss_one (ps_ret (pv 3))))))), ?_⟩
    walk_at "s"
    intro l hl0
    have s1 := same_new (o := .lst []) (Same.refl _) hl0
    have hcd1 := s1 _ _ hcd
    walk_at "s"
    refine ⟨fun m σ H' => ∃ (pre : List Nat) (n : Nat) (rest : List Nat), σ = [some (.ref o), some (.int z), some (.ref cd), some (.ref l), some (.int (n : Int))] ∧ n0 :: r0 = pre ++ n :: rest ∧ m = rest.length ∧ Same H H' ∧
      H' l = some (.lst ((pre.map fun n => (Lf ls n).l).map V.int)) ∧ ((n = S ∧ rest = []) ∨ (n < S ∧ Back (Lf ls) S ca (Lf ls n).y rest)), ⟨_, [], n0, r0, rfl, rfl, rfl, s1, upd_same, hr0⟩, ?_⟩
    rintro m σ H' ⟨pre, n, rest, rfl, hsp, rfl, s2, hl', hn⟩
    have ho' := s2 _ _ ho
    have hcd' := s2 _ _ hcd
    have hnS : n ≤ S := by rcases hn with ⟨h, _⟩ | ⟨h, _⟩ <;> omega
    obtain ⟨ts9, t, hl9, hat, ht⟩ := LL.at_ (TL.same W.lm s2) (n := n) (by omega)
    have hpl : pre.length ≤ 899 := by
      have := congrArg List.length hsp
      rw [List.length_append] at this
      rw [List.length_cons] at this hn9
      rw [List.length_cons] at this
      omega
    walk_at "s"
    refine ite2 (fun hb => ⟨_, fun _ _ h => h, ?_⟩) (fun hb => ?_)
    · have hlt := of_decide_eq_true hb
      rcases hn with ⟨h, _⟩ | ⟨_, hBk⟩
      · omega
      obtain ⟨n1, r1, rfl, hc1, hr1⟩ := hBk.cases
      have hn1 : lk cw (Lf ls n).y = some (n1 : Int) := by rw [hca, hc1]; rfl
      walk_at "s"
      have nlo : o ≠ l := ne_of_none ho hl0
      have nll : ll ≠ l := ne_of hl9 hl' (by
        intro e
        injection e with e
        cases pre with
        | nil => 
          have := congrArg List.length e
          simp at this
          rw [this] at hat; cases hat
        | cons a p =>
          cases ts9 with
          | nil => cases e
          | cons b p2 => cases e)
      have ntl : t ≠ l := ne_of ht hl' (by intro z; cases z)
      have ncl : cd ≠ l := ne_of hcd' hl' (by intro z; cases z)
      walk_at "s"
      refine ⟨_, by rw [List.length_cons]; omega, pre ++ [n], n1, r1, rfl, by rw [hsp]; simp, rfl, fun b u eb => ?_, ?_, hr1⟩
      · rw [upd_ne (ne_of_none eb hl0)]; exact s2 _ _ eb
      · rw [List.map_append, List.map_append]; exact upd_same
    · have hge : ¬ (n : Int) < S := fun z => hb (decide_eq_true z)
      rcases hn with ⟨rfl, rfl⟩ | ⟨h, _⟩
      · walk_at "s"
        rw [hsp] at q
        refine q l _ hl0 (fun b u eb => ?_) ?_
        · rw [upd_ne (ne_of_none eb hl0)]; exact s2 _ _ eb
        · rw [List.map_append, List.map_append]; exact upd_same
      · omega
end
end K30


namespace K30
open PySem L2 WM
/-! the queue -/
def unI : V → Int
  | .int i => i
  | _ => 0
def kfH (H : Hp) : V → List Int
  | .ref t => match H t with
    | some (.tup xs) => xs.map unI
    | _ => []
  | _ => []
def RowE (H : Hp) (x : V) (e : Ent) : Prop := ∃ t, x = .ref t ∧ H t = some (.tup ((erow e).map V.int))
theorem kfH_row {H : Hp} {x : V} {e : Ent} (h : RowE H x e) : kfH H x = erow e := by
  obtain ⟨t, rfl, h⟩ := h
  show (match H t with | some (.tup xs) => xs.map unI | _ => []) = erow e
  rw [h]
  rfl
def Qu (H : Hp) (qa : Addr) (es : List Ent) : Prop := ∃ xs, H qa = some (.lst xs) ∧ Paired (RowE H) xs es ∧ HQ.Hp0 HT.lexLt (es.map erow)
theorem rows_kf {H : Hp} : ∀ {xs : List V} {es : List Ent}, Paired (RowE H) xs es → xs.map (kfH H) = es.map erow
  | _, _, .nil => rfl
  | _, _, .cons h t => by rw [List.map_cons, List.map_cons, kfH_row h, rows_kf t]
theorem hp0_rows {H : Hp} {xs : List V} {es : List Ent} (h : Paired (RowE H) xs es) : HQ.Hp0 (HQ.ltk (kfH H)) xs ↔ HQ.Hp0 HT.lexLt (es.map erow) := by
  rw [← rows_kf h]
  constructor
  · intro g i x y hi hx hy
    rw [List.getElem?_map] at hx hy
    obtain ⟨u, hu, rfl⟩ := Option.map_eq_some_iff.mp hx
    obtain ⟨v, hv, rfl⟩ := Option.map_eq_some_iff.mp hy
    exact g i u v hi hu hv
  · intro g i x y hi hx hy
    exact g i _ _ hi (by rw [List.getElem?_map, hx]; rfl) (by rw [List.getElem?_map, hy]; rfl)
theorem tups_rows {K : PySem.W.Frag} {H : Hp} {xs : List V} {es : List Ent} (h : Paired (RowE H) xs es) : HQ.Tups K H (kfH H) xs := by
  intro x hx
  obtain ⟨i, hi⟩ := List.mem_iff_getElem?.mp hx
  obtain ⟨e, _, r⟩ := paired_get h hi
  have := kfH_row r
  obtain ⟨t, rfl, ht⟩ := r
  exact ⟨t, rfl, SqT.of (by rw [this]; exact ht)⟩
theorem rowE_lst {H : Hp} {l : Addr} {xs ys : List V} (hl : H l = some (.lst xs)) {x : V} {e : Ent} (h : RowE H x e) : RowE (L2.upd H l (.lst ys)) x e := by
  obtain ⟨t, rfl, h⟩ := h
  exact ⟨t, rfl, (upd_ne (ne_of h hl (by intro z; cases z))).trans h⟩
theorem lex_first {e e' : Ent} (h : HT.lexLt (erow e') (erow e) = false) : e.1 ≤ e'.1 := by
  unfold erow HT.lexLt at h
  split at h
  · rename_i z; omega
  · have := of_decide_eq_false h; omega
theorem Qu.push {K : PySem.W.Frag} {H : Hp} {qa t : Addr} {es : List Ent} {e : Ent} {Q : VK} (h : Qu H qa es) (ht : H t = some (.tup ((erow e).map V.int))) (hz : es.length ≤ 1000)
    (q : ∀ xs' es', es'.Perm (es ++ [e]) → Qu (L2.upd H qa (.lst xs')) qa es' → Q .non (L2.upd H qa (.lst xs'))) : HQ.rHPush K [.ref qa, .ref t] H Q := by
  obtain ⟨xs, h1, h2, h3⟩ := h
  have h4 : Paired (RowE H) (xs ++ [V.ref t]) (es ++ [e]) := paired_app h2 (.cons ⟨t, rfl, ht⟩ .nil)
  unfold HQ.rHPush
  refine ⟨qa, xs, .ref t, kfH H, rfl, h1, small1000 (by rw [Paired.length h2]; exact hz), tups_rows h4, (hp0_rows h2).mpr h3, fun ys py hp => ?_⟩
  obtain ⟨es', pe, h5⟩ := perm_paired py h4
  exact q ys es' pe ⟨ys, upd_same, paired_imp (fun x e r => rowE_lst h1 r) h5, (hp0_rows h5).mp hp⟩
theorem Qu.pop {K : PySem.W.Frag} {H : Hp} {qa : Addr} {es : List Ent} {Q : VK} (h : Qu H qa es) (hne : es ≠ [])
    (q : ∀ t e xs' es', es.Perm (e :: es') → (∀ e' ∈ es', e.1 ≤ e'.1) → H t = some (.tup ((erow e).map V.int)) → Qu (L2.upd H qa (.lst xs')) qa es' → Q (.ref t) (L2.upd H qa (.lst xs'))) : HQ.rHPop K [.ref qa] H Q := by
  obtain ⟨xs, h1, h2, h3⟩ := h
  unfold HQ.rHPop
  refine ⟨qa, xs, kfH H, rfl, h1, fun z => ?_, tups_rows h2, (hp0_rows h2).mpr h3, fun y ys py hmin hp => ?_⟩
  · rw [z] at h2; cases h2; exact hne rfl
  · obtain ⟨es2, pe, h5⟩ := perm_paired py.symm h2
    cases h5 with
    | @cons _ e _ es' r h6 =>
      have hk := kfH_row r
      obtain ⟨t, rfl, ht⟩ := r
      refine q t e ys es' pe.symm (fun e' he' => ?_) ht ⟨ys, upd_same, paired_imp (fun x e r => rowE_lst h1 r) h6, (hp0_rows h6).mp hp⟩
      obtain ⟨i, hi⟩ := List.mem_iff_getElem?.mp he'
      have hl := Paired.length h6
      have hi2 := (List.getElem?_eq_some_iff.mp hi).1
      obtain ⟨e2, he2, r2⟩ := paired_get h6 (List.getElem?_eq_getElem (show i < ys.length by omega))
      rw [hi] at he2; cases he2
      have := hmin _ (List.getElem_mem (show i < ys.length by omega))
      unfold HQ.ltk at this
      rw [kfH_row r2, hk] at this
      exact lex_first this
theorem Qu.same {H H1 : Hp} {qa : Addr} {es : List Ent} (h : Qu H qa es) (s : Same H H1) : Qu H1 qa es := by
  obtain ⟨xs, h1, h2, h3⟩ := h
  exact ⟨xs, s _ _ h1, paired_imp (fun x e ⟨t, a, b⟩ => ⟨t, a, s _ _ b⟩) h2, h3⟩
theorem Qu.dict {H : Hp} {qa d : Addr} {es : List Ent} {k k' : List (Key × V)} (h : Qu H qa es) (hd : H d = some (.dK k)) : Qu (L2.upd H d (.dK k')) qa es := by
  obtain ⟨xs, h1, h2, h3⟩ := h
  exact ⟨xs, (upd_ne (ne_of h1 hd (by intro z; cases z))).trans h1, paired_imp (fun x e ⟨t, a, b⟩ => ⟨t, a, (upd_ne (ne_of b hd (by intro z; cases z))).trans b⟩) h2, h3⟩
theorem nodup_sub_len {α : Type} [DecidableEq α] : ∀ {l m : List α}, l.Nodup → (∀ x ∈ l, x ∈ m) → l.length ≤ m.length
  | [], _, _, _ => Nat.zero_le _
  | x :: l, m, hn, hs => by
    have hx := hs x List.mem_cons_self
    have h1 := List.nodup_cons.mp hn
    have ih := nodup_sub_len (l := l) (m := m.erase x) h1.2 fun y hy => (List.mem_erase_of_ne (fun e => h1.1 (by rw [← e]; exact hy))).mpr (hs y (List.mem_cons_of_mem _ hy))
    have := List.length_erase_of_mem hx
    have := List.length_pos_of_mem hx
    rw [List.length_cons]; omega
def sp_next (C : Addr) : Sp := fun vs H Q _ => ∃ (o hd ll : Addr) (ls : List Lim) (S : Nat) (hs : List (Int × Int)), vs = [.ref o] ∧ WA C H o hd ll ls S hs ∧ ls.length ≤ 400 ∧ S < ls.length ∧ hs.length ≤ 900 ∧
  (∀ hs' H', WA C H' o hd ll ls S hs' → hs'.map (·.1) = hs.map (·.1) → Fits (hf hs') (Lf ls S) → Own o hd ll H H' → Q .non H') ∧
  (∀ (r : Addr) (ns : List Nat) H', H r = none → Same H H' → Ring (ns.map (Lf ls)) → (∀ n ∈ ns, n ≤ S) → H' r = some (.lst ((ns.map fun n => (Lf ls n).l).map V.int)) → Q (.ref r) H')
end K30


namespace K30
open PySem L2 WM
/-- between two turns of the loop over the queue -/
structure LI (H H' : Hp) (ls : List Lim) (S : Nat) (hs : List (Int × Int)) (ld qa cd dl : Addr) (f : Int → Option Addr) (es : List Ent) (cw lw : List (Int × Int)) (ca : Int → Option Nat) (od : List Int) : Prop where
  st : WM.St (Lf ls) S (hf hs) es ca (lk lw) od
  qu : Qu H' qa es
  dc : H' cd = some (.dK (dk cw))
  ca' : ∀ u, lk cw u = (ca u).map fun n : Nat => (n : Int)
  dl' : H' dl = some (.dK (dk lw))
  sm : Same H H'
  le : Lead H' ld f ls S
  nl : (lw.map (·.1)).Nodup ∧ ∀ z ∈ lw.map (·.1), z ∈ hs.map (·.1)
  nc : (cw.map (·.1)).Nodup ∧ ∀ z ∈ cw.map (·.1), z ∈ hs.map (·.1)
theorem Lead.keep {H H' : Hp} {d : Addr} {f : Int → Option Addr} {ls : List Lim} {S : Nat} (h : Lead H d f ls S) (k : ∀ b u, (b = d ∨ ∃ z, f z = some b) → H b = some u → H' b = some u) : Lead H' d f ls S :=
  { h with dc := (let ⟨kvs, a, b⟩ := h.dc; ⟨kvs, k _ _ (.inl rfl) a, b⟩), at_ := fun z a e => k _ _ (.inr ⟨z, e⟩) (h.at_ z a e) }
theorem Lead.put {H : Hp} {d a : Addr} {f : Int → Option Addr} {ls : List Lim} {S : Nat} {o : HO} (h : Lead H d f ls S) (n1 : d ≠ a) (n2 : ∀ z b, f z = some b → b ≠ a) : Lead (L2.upd H a o) d f ls S :=
  h.keep fun b u hb e => (upd_ne (by
    rcases hb with rfl | ⟨z, hz⟩
    · exact n1
    · exact n2 z b hz)).trans e
theorem Lead.dict {H : Hp} {d a : Addr} {f : Int → Option Addr} {ls : List Lim} {S : Nat} {o : HO} {k : List (Key × V)} (h : Lead H d f ls S) (n1 : d ≠ a) (ha : H a = some (.dK k)) : Lead (L2.upd H a o) d f ls S :=
  h.put n1 fun z b hz => ne_of (h.at_ z b hz) ha (by intro e; cases e)
theorem nod_pt {hs : List (Int × Int)} {X : List Int} {z v : Int} (h : (hs.map (·.1)).Nodup ∧ ∀ u ∈ hs.map (·.1), u ∈ X) (hz : z ∈ X) : ((pt hs z v).map (·.1)).Nodup ∧ ∀ u ∈ (pt hs z v).map (·.1), u ∈ X := by
  rw [keys_pt]
  split
  · exact h
  · rename_i hn
    refine ⟨List.nodup_append.mpr ⟨h.1, by simp, fun a ha b hb e => ?_⟩, fun u hu => ?_⟩
    · rw [List.mem_singleton] at hb
      rw [e, hb] at ha; exact hn ha
    · rcases List.mem_append.mp hu with hu | hu
      · exact h.2 u hu
      · rw [List.mem_singleton.mp hu]; exact hz
theorem put_lk (lw : List (Int × Int)) (z v : Int) : WM.put (lk lw) z v = lk (pt lw z v) := by
  funext u
  unfold WM.put
  rw [lk_pt]
section
variable {P : Program} {w : World} {K : PySem.W.Frag} {mg : Str → Option Value} {base : Heap} {C : Addr}
theorem put_ca {cw : List (Int × Int)} {ca : Int → Option Nat} (h : ∀ u, lk cw u = (ca u).map fun n : Nat => (n : Int)) (z : Int) (n : Nat) : ∀ u, lk (pt cw z (n : Int)) u = (WM.put ca z n u).map fun n : Nat => (n : Int) := fun u => by
  rw [lk_pt]
  unfold WM.put
  split
  · rfl
  · exact h u
theorem Same.putn {H H1 : Hp} {a : Addr} {o : HO} (h : Same H H1) (n : H a = none) : Same H (L2.upd H1 a o) := fun b u e => by
  rw [upd_ne (ne_of_none e n)]; exact h b u e
theorem dput_dk {H : Hp} {a : Addr} {hs : List (Int × Int)} {z v : Int} (h : H a = some (.dK (dk hs))) (hl : hs.length ≤ 1000) : DPut H a (.int z) (.int v) (L2.upd H a (.dK (dk (pt hs z v)))) := by
  have := DPut.k (k := (Sum.inl z : Key)) (v := .int v) h (small1000 (by unfold dk; rw [List.length_map]; exact hl))
  rw [dk_put] at this
  exact this
theorem chg_pt {ls : List Lim} {hs lw : List (Int × Int)} {n : Nat} {v : Int} : chg ls hs (pt lw (Lf ls n).y v) n = v + (Lf ls n).k - hf hs (Lf ls n).x := by
  unfold chg
  rw [lk_pt, if_pos rfl]; rfl
theorem hf_pt2 {hs : List (Int × Int)} {z v u : Int} : hf (pt hs z v) u = if u = z then v else hf hs u := by
  unfold hf
  rw [lk_pt]
  split <;> rfl
theorem m_next (T : CT K C) (B : Bi mg) (hpop : mg "heappop" = some (.builtin "_heapq.heappop")) (hpush : mg "heappush" = some (.builtin "_heapq.heappush")) (M : MetA K C "_settle_next" "Ways._settle_next" s_next p_next)
    (m_leading : C8.Met P w K mg base 1 C "_leading" (sp_leading C) []) (m_falls : C8.Met P w K mg base 1 C "_falls" (sp_falls C) []) (m_ring : C8.Met P w K mg base 1 C "_ring" (sp_ring C) []) : C8.Met P w K mg base 2 C "_settle_next" (sp_next C) [] := by
  obtain ⟨f, fd, me, F, b⟩ := M.ex
  obtain ⟨cl, nH, nL, nS⟩ := T
  have T := B
  refine C8.met0 cl me F b sc_next (fun vs H Q E h => ?_) (fun cdv A outer s H vs Q E hr h => ?_)
  · obtain ⟨o, hd, ll, ls, S, hs, rfl, _⟩ := h
    rfl
  · obtain ⟨o, hd, ll, ls, S, hs, rfl, W, hz, hS, hz9, q1, q2⟩ := h
    have hu := hu_of hr
    obtain ⟨dx, ho⟩ := W.ob
    have hdc := W.dc
    obtain ⟨nhl, noh, nol⟩ := ne_hd_ll W
    obtain ⟨ts, t, hl, hat, ht⟩ := LL.at_ W.lm hS
    have hxy := W.xy (Lf ls S) (List.mem_of_getElem? (Lf_at hS))
    have hfx := lk_hf hxy.1
    have hfy := lk_hf hxy.2
    refine ⟨_, (pss_cons (ps_asg (pe_ix ix_list (pe_fld (pv 0) rfl) (pe_fld (pv 0) rfl) (fun _ _ => rfl)) (pg_tup (by rfl) (pgs_cons (pg_name (i := 1) sc_next.nd rfl (Or.inl rfl)) (pgs_cons (pg_name (i := 2) sc_next.nd rfl (Or.inl rfl)) (pgs_cons (pg_name (i := 3) sc_next.nd rfl (Or.inl rfl)) (pgs_cons (pg_name (i := 4) sc_next.nd rfl (Or.inl rfl)) pgs_nil))))))
      (pss_cons (ps_set (i := 5) sc_next.nd rfl (Or.inl rfl) (pe_op op_sub (pe_op op_sub (pe_dget hu (pe_fld (pv 0) rfl) (pv 1) (fun _ _ => rfl)) (pe_dget hu (pe_fld (pv 0) rfl) (pv 2) (fun _ _ => rfl))) (pv 3)))
      (C8.pss_cut (ps_if (pt_cmpR op_le (pv 5) pe_int (nomark _)) (pss_one (ps_ret pe_non)) pss_nil)
      (pss_cons (ps_set (i := 6) sc_next.nd rfl (Or.inl rfl) (C8.pe_mt0 m_leading hr (by decide) (pv 0)))
      (pss_cons (ps_set (i := 7) sc_next.nd rfl (Or.inl rfl) (pe_lst (pa_cons (pe_tup (pa_cons (pe_un un_neg (pv 5)) (pa_cons (pv 1) (pa_cons (pe_fld (pv 0) rfl) pa_nil)))) pa_nil)))
      (pss_cons (ps_set (i := 8) sc_next.nd rfl (Or.inl rfl) pe_dnewK)
      (pss_cons (ps_set (i := 9) sc_next.nd rfl (Or.inl rfl) pe_dnewK)
      (pss_cons (ps_while PassesOwn.never (pt_cmpR op_gt (pe_callB call_len_seq (by rfl) T.b_len t_len (pa_cons (pv 7) pa_nil)) pe_int (nomark _)) (pss_cons (ps_asg (pe_callBfun (HQ.cr_pop hu) (by rfl) hpop (pa_cons (pv 7) pa_nil)) (pg_tup (by rfl) (pgs_cons (pg_name (i := 10) sc_next.nd rfl (Or.inl rfl)) (pgs_cons (pg_name (i := 11) sc_next.nd rfl (Or.inl rfl)) (pgs_cons (pg_name (i := 12) sc_next.nd rfl (Or.inl rfl)) pgs_nil)))))
          (pss_one (ps_if (pt_cmp (pc_dnotin hu (pv 11) (pv 9))) (pss_cons (ps_dput hu (pv 8) (pv 11) (pv 12) rfl)
            (C8.pss_cut (ps_if (pt_cmpR op_eq (pv 11) (pv 2) (nomark _)) (pss_one (ps_ret (C8.pe_mt m_ring hr (by decide) (pv 0) (pa_cons (pv 2) (pa_cons (pv 8) pa_nil))))) pss_nil)
            (pss_cons (ps_dput hu (pv 9) (pv 11) (pe_op op_add (pe_dget hu (pe_fld (pv 0) rfl) (pv 11) (fun _ _ => rfl)) (pv 10)) rfl)
            (pss_one (ps_for PassesOwn.never rfl (pi_list (C8.pe_mt m_falls hr (by decide) (pv 0) (pa_cons (pe_dget2 hu (pv 6) (pv 11) (pe_lst pa_nil) ⟨rfl, rfl, rfl, rfl⟩) (pa_cons (pv 9) pa_nil)))) (pg_name (i := 13) sc_next.nd rfl (Or.inl rfl)) (pss_one (ps_expr (pe_callBfun (HQ.cr_push hu) (by rfl) hpush (pa_cons (pv 7) (pa_cons (pv 13) pa_nil)))))))))) pss_nil))))
      (pss_cons (ps_lock (ps_for PassesOwn.never rfl (pi_keys (pv 9)) (pg_name (i := 11) sc_next.nd rfl (Or.inl rfl)) (pss_one (ps_dput hu (pe_fld (pv 0) rfl) (pv 11) (pe_dget hu (pv 9) (pv 11) (fun _ _ => rfl)) rfl))))
      (pss_one (ps_ret pe_non))))))))))), ?_⟩
    walk_at "s"
    refine ⟨fun σ' H' => σ' = [some (.ref o), some (.int (Lf ls S).x), some (.int (Lf ls S).y), some (.int (Lf ls S).k), some (.int (Lf ls S).l), some (.int (hf hs (Lf ls S).x - hf hs (Lf ls S).y - (Lf ls S).k)), none, none, none, none, none, none, none, none] ∧ H' = H ∧
      0 < hf hs (Lf ls S).x - hf hs (Lf ls S).y - (Lf ls S).k, ?_, ?_⟩
    · walk_at "s"
      refine ite2 (fun hb => ?_) (fun hb => ⟨rfl, rfl, ?_⟩)
      · walk_at "s"
        have hb' := of_decide_eq_true hb
        exact q1 hs H W rfl (by unfold Fits; omega) (Own.same (Same.refl _))
      · have : ¬ (hf hs (Lf ls S).x - hf hs (Lf ls S).y - (Lf ls S).k ≤ 0) := fun z => hb (decide_eq_true z)
        omega
    · rintro σ1 H1 ⟨rfl, rfl, hfall⟩
      walk_at "s"
      refine ⟨o, hd, ll, ls, S, hs, rfl, W, hz, fun ld f Hl hld0 sl Ld hfr => ?_⟩
      have hoL := sl _ _ ho
      walk_at "s"
      intro t0 ht0
      have sl0 := same_new (o := .tup [.int (-(hf hs (Lf ls S).x - hf hs (Lf ls S).y - (Lf ls S).k)), .int (Lf ls S).x, .int (S : Int)]) (Same.refl Hl) ht0
      walk_at "s"
      intro qa hqa
      walk_at "s"
      intro cd hcd
      walk_at "s"
      intro dl hdl
      walk_at "s"
      have nn : ∀ {H2 : Hp} {a : Addr} {o : HO}, Same H1 H2 → H2 a = none → H1 a = none ∧ Same H1 (L2.upd H2 a o) := fun {H2 a o} s2 h2 => by
        have : H1 a = none := by
          cases e : H1 a with
          | none => rfl
          | some u => rw [s2 _ _ e] at h2; cases h2
        exact ⟨this, Same.putn s2 this⟩
      obtain ⟨nt, st⟩ := nn (o := .tup [.int (-(hf hs (Lf ls S).x - hf hs (Lf ls S).y - (Lf ls S).k)), .int (Lf ls S).x, .int (S : Int)]) sl ht0
      obtain ⟨nq, sq⟩ := nn (o := .lst [V.ref t0]) st hqa
      obtain ⟨nc, sc⟩ := nn (o := .dK []) sq hcd
      obtain ⟨nd, sd⟩ := nn (o := .dK []) sc hdl
      have Lt := Ld.keep fun b u _ e => sl0 b u e
      have sq0 := same_new (o := .lst [V.ref t0]) (Same.refl _) hqa
      have sc0 := same_new (o := .dK []) (Same.refl _) hcd
      have sd0 := same_new (o := .dK []) (Same.refl _) hdl
      obtain ⟨kv0, hkv0, _⟩ := Lt.dc
      have n1 : ld ≠ qa := ne_of_none hkv0 hqa
      have n2 : ld ≠ cd := ne_of_none (sq0 _ _ hkv0) hcd
      have n3 : ld ≠ dl := ne_of_none (sc0 _ _ (sq0 _ _ hkv0)) hdl
      have n4 : cd ≠ dl := ne_of_none upd_same hdl
      have n5 : ∀ z b, f z = some b → b ≠ qa := fun z b hz => ne_of_none (Lt.at_ z b hz) hqa
      have L0 := ((Lt.keep fun b u _ e => sq0 b u e).keep fun b u _ e => sc0 b u e).keep fun b u _ e => sd0 b u e
      have hes : erow (-(hf hs (Lf ls S).x - hf hs (Lf ls S).y - (Lf ls S).k), (Lf ls S).x, S) = [-(hf hs (Lf ls S).x - hf hs (Lf ls S).y - (Lf ls S).k), (Lf ls S).x, (S : Int)] := rfl
      have hheld : ∀ n, n < S → Fits (hf hs) (Lf ls n) := fun n hn => W.ok n _ hn (Lf_at (by omega))
      refine ⟨fun m σ H' => ∃ (es : List Ent) (cw lw : List (Int × Int)) (ca : Int → Option Nat) (od : List Int) (v10 v11 v12 v13 : Option V), σ = [some (.ref o), some (.int (Lf ls S).x), some (.int (Lf ls S).y), some (.int (Lf ls S).k), some (.int (Lf ls S).l), some (.int (hf hs (Lf ls S).x - hf hs (Lf ls S).y - (Lf ls S).k)), some (.ref ld), some (.ref qa), some (.ref cd), some (.ref dl), v10, v11, v12, v13] ∧
        m = meas (Lf ls) S es od ∧ m ≤ 1 + S ∧ LI H1 H' ls S hs ld qa cd dl f es cw lw ca od,
        ⟨_, [(-(hf hs (Lf ls S).x - hf hs (Lf ls S).y - (Lf ls S).k), (Lf ls S).x, S)], [], [], fun _ => none, [], none, none, none, none, rfl, rfl, ?_, WM.St.start (by omega) hheld, ?_, ?_, fun u => rfl, upd_same, sd, L0, ⟨List.nodup_nil, fun z h => by cases h⟩, ⟨List.nodup_nil, fun z h => by cases h⟩⟩, ?_⟩
      · unfold meas
        have := List.length_filter_le (fun n => decide ((Lf ls n).y ∉ ([] : List Int))) (List.range S)
        rw [List.length_range] at this
        simp only [List.length_cons, List.length_nil]; omega
      · refine ⟨[V.ref t0], sd0 _ _ (sc0 _ _ upd_same), .cons ⟨t0, rfl, sd0 _ _ (sc0 _ _ (sq0 _ _ upd_same))⟩ .nil, fun i x y hi hx hy => ?_⟩
        rcases i with _ | i
        · omega
        · simp at hx
      · exact sd0 _ _ upd_same
      rintro m σ H' ⟨es, cw, lw, ca, od, v10, v11, v12, v13, rfl, rfl, hm, I⟩
      obtain ⟨xs, hx1, hx2, hx3⟩ := I.qu
      have hel : es.length ≤ 1 + S := by unfold meas at hm; omega
      have hxl := Paired.length hx2
      walk_at "s"
      refine ite2 (fun hb => ⟨_, fun _ _ h => h, ?_⟩) (fun hb => ?_)
      · walk_at "s"
        have hne : es ≠ [] := fun z => by
          have := of_decide_eq_true hb
          rw [z] at hxl
          rw [List.length_nil] at hxl
          omega
        show HQ.rHPop _ [.ref qa] H' _
        refine Qu.pop I.qu hne fun t e xs' es' pe hmin ht hQ => ?_
        have nq1 : cd ≠ qa := ne_of I.dc hx1 (by intro z; cases z)
        have nq2 : dl ≠ qa := ne_of I.dl' hx1 (by intro z; cases z)
        have I2 := I
        have sm2 := Same.putn (o := .lst xs') I.sm nq
        have hdc2 : L2.upd H' qa (.lst xs') cd = some (.dK (dk cw)) := (upd_ne nq1).trans I.dc
        have hdl2 : L2.upd H' qa (.lst xs') dl = some (.dK (dk lw)) := (upd_ne nq2).trans I.dl'
        have hle2 := I.le.put (o := .lst xs') n1 n5
        have ht2 : L2.upd H' qa (.lst xs') t = some (.tup [.int e.1, .int e.2.1, .int (e.2.2 : Int)]) := (upd_ne (ne_of ht hx1 (by intro z; cases z))).trans ht
        revert sm2 hdc2 hdl2 hle2 ht2 hQ
        generalize L2.upd H' qa (.lst xs') = H2
        intro hQ sm2 hdc2 hdl2 hle2 ht2
        have hepl := pe.length_eq
        rw [List.length_cons] at hepl
        have heq : e ∈ es := pe.mem_iff.mpr List.mem_cons_self
        have hpx : e.2.1 ∈ hs.map (·.1) := by
          rcases (I.st.ent e heq).2 with ⟨_, h2, _⟩ | ⟨h1, h2, _⟩
          · rw [← h2]; exact hxy.1
          · rw [← h2]; exact (W.xy _ (List.mem_of_getElem? (Lf_at (by omega)))).1
        have hfp := lk_hf hpx
        have ho2 := sm2 _ _ ho
        have hd2 := sm2 _ _ hdc
        have hdg := dg_opt (z := e.2.1) hdl2
        walk_at "s"
        cases hlx : lk lw e.2.1 with
        | some a =>
          refine iteF ?_
          have := meas_skip (L := Lf ls) (S := S) (od := od) pe
          exact ⟨_, this, es', cw, lw, ca, od, _, _, _, _, rfl, rfl, by omega, I.st.skip pe hlx, hQ, hdc2, I.ca', hdl2, sm2, hle2, I.nl, I.nc⟩
        | none =>
          refine iteT ?_
          have hca := put_ca I.ca' e.2.1 e.2.2
          have hcn := nod_pt (v := (e.2.2 : Int)) I.nc hpx
          have hln := nod_pt (v := hf hs e.2.1 + e.1) I.nl hpx
          have hcl : cw.length ≤ hs.length := by
            have := nodup_sub_len I.nc.1 I.nc.2
            rw [List.length_map, List.length_map] at this; exact this
          have hll : lw.length ≤ hs.length := by
            have := nodup_sub_len I.nl.1 I.nl.2
            rw [List.length_map, List.length_map] at this; exact this
          have hod : e.2.1 ∉ od := fun z => by
            obtain ⟨a, ha⟩ := (I.st.lod _).mp z
            rw [hlx] at ha; cases ha
          walk_at "s"
          refine ⟨cd, _, rfl, dput_dk hdc2 (by omega), ?_⟩
          have sm3 := Same.putn (o := .dK (dk (pt cw e.2.1 (e.2.2 : Int)))) sm2 nc
          have hQ3 := hQ.dict (k' := dk (pt cw e.2.1 (e.2.2 : Int))) hdc2
          have hdl3 := (upd_ne (o := .dK (dk (pt cw e.2.1 (e.2.2 : Int)))) n4.symm).trans hdl2
          have hle3 := hle2.put (o := .dK (dk (pt cw e.2.1 (e.2.2 : Int)))) n2 (fun z b hz => ne_of (hle2.at_ z b hz) hdc2 (by intro e; cases e))
          have hdc3 := upd_same (H := H2) (a := cd) (o := .dK (dk (pt cw e.2.1 (e.2.2 : Int))))
          revert sm3 hQ3 hdl3 hle3 hdc3
          generalize L2.upd H2 cd (.dK (dk (pt cw e.2.1 (e.2.2 : Int)))) = H3
          intro sm3 hQ3 hdl3 hle3 hdc3
          have ho3 := sm3 _ _ ho
          have hd3 := sm3 _ _ hdc
          refine ⟨fun σ' H' => σ' = [some (.ref o), some (.int (Lf ls S).x), some (.int (Lf ls S).y), some (.int (Lf ls S).k), some (.int (Lf ls S).l), some (.int (hf hs (Lf ls S).x - hf hs (Lf ls S).y - (Lf ls S).k)), some (.ref ld), some (.ref qa), some (.ref cd), some (.ref dl), some (.int e.1), some (.int e.2.1), some (.int (e.2.2 : Int)), v13] ∧ H' = H3 ∧ e.2.1 ≠ (Lf ls S).y, ?_, ?_⟩
          · walk_at "s"
            refine ite2 (fun hb => ?_) (fun hb => ⟨rfl, rfl, fun z => hb (decide_eq_true (congrArg V.int z))⟩)
            have hy := V.int.inj (of_decide_eq_true hb)
            obtain ⟨ns, b1, R⟩ := I.st.ring pe hlx hy
            have hnl : ns.length ≤ 900 := by
              have h1 := nodup_sub_len (m := hs.map (·.1)) R.nd (fun z hz => by
                rw [List.map_map] at hz
                obtain ⟨n, hn, rfl⟩ := List.mem_map.mp hz
                have := b1.le n hn
                exact (W.xy _ (List.mem_of_getElem? (Lf_at (by omega)))).1)
              simp only [List.length_map] at h1
              omega
            walk_at "s"
            refine ⟨o, hd, ll, ls, S, hs, _, cd, _, _, ns, rfl, W.same sm3, hz, hS, hdc3, hca, hy ▸ b1, hnl, fun r H' hr0 s' hr' => ?_⟩
            exact q2 r ns H' (nn (o := .lst []) sm3 hr0).1 (fun b u e => s' _ _ (sm3 b u e)) R b1.le hr'
          · rintro σ1 H9 ⟨rfl, rfl, hyne⟩
            walk_at "s"
            refine ⟨dl, _, rfl, dput_dk hdl3 (by omega), ?_⟩
            have sm4 := Same.putn (o := .dK (dk (pt lw e.2.1 (hf hs e.2.1 + e.1)))) sm3 nd
            have hQ4 := hQ3.dict (k' := dk (pt lw e.2.1 (hf hs e.2.1 + e.1))) hdl3
            have hdc4 := (upd_ne (o := .dK (dk (pt lw e.2.1 (hf hs e.2.1 + e.1)))) n4).trans hdc3
            have hle4 := hle3.put (o := .dK (dk (pt lw e.2.1 (hf hs e.2.1 + e.1)))) n3 (fun z b hz => ne_of (hle3.at_ z b hz) hdl3 (by intro e; cases e))
            have hdl4 := upd_same (H := H9) (a := dl) (o := .dK (dk (pt lw e.2.1 (hf hs e.2.1 + e.1))))
            revert sm4 hQ4 hdc4 hle4 hdl4
            generalize L2.upd H9 dl (.dK (dk (pt lw e.2.1 (hf hs e.2.1 + e.1)))) = H4
            intro sm4 hQ4 hdc4 hle4 hdl4
            obtain ⟨kvs, hkv, _, hkw⟩ := hle4.dc
            have ho4 := sm4 _ _ ho
            walk_at "s"
            refine ⟨.inl ⟨kvs, .inl hkv⟩, ?_⟩
            walk_at "s"
            intro e0 he0
            have sm5 := Same.putn (o := .lst []) sm4 (nn (o := .lst []) sm4 he0).1
            have s45 := same_new (o := .lst []) (Same.refl H4) he0
            obtain ⟨nl, hnl, hnl2⟩ : ∃ nl, (valV kvs (Sum.inl e.2.1 : Key)).getD (.ref e0) = .ref nl ∧ L2.upd H4 e0 (.lst []) nl = some (.lst ((nums ls S e.2.1).map nV)) := by
              rw [hkw]
              cases hfz : f e.2.1 with
              | none => exact ⟨e0, rfl, by rw [hle4.no _ hfz]; exact upd_same⟩
              | some a => exact ⟨a, rfl, s45 _ _ (hle4.at_ _ _ hfz)⟩
            have hQ4c := hQ4
            obtain ⟨xs4, hx4, _⟩ := hQ4c
            have hx5 := s45 _ _ hx4
            have hQ5 := hQ4.same s45
            have hle5 := hle4.keep fun b u _ e => s45 b u e
            have hdc5 := s45 _ _ hdc4
            have hdl5 := s45 _ _ hdl4
            have hkv5 := s45 _ _ hkv
            refine ⟨_, DGet.k (k := (Sum.inl e.2.1 : Key)) hkv5, ?_⟩
            refine ⟨_, rfl, ?_⟩
            revert sm5 s45 hnl2 hx5 hQ5 hle5 hdc5 hdl5 hkv5
            generalize L2.upd H4 e0 (.lst []) = H5
            intro sm5 s45 hnl2 hx5 hQ5 hle5 hdc5 hdl5 hkv5
            refine ⟨o, hd, ll, ls, S, hs, nl, dl, nums ls S e.2.1, pt lw e.2.1 (hf hs e.2.1 + e.1), by rw [hnl]; rfl, W.same sm5, hz, hnl2, by have := nums_len ls S e.2.1; omega, hdl5, fun n hn => ?_, fun l ts es2 H6 hl0 s6 hl6 hp6 hle6 hmem6 hfr6 => ?_⟩
            · obtain ⟨h1, h2⟩ := nums_mem.mp hn
              exact ⟨h1, hf hs e.2.1 + e.1, by rw [lk_pt, if_pos h2]⟩
            have nlq : l ≠ qa := (ne_of_none hx5 hl0).symm
            refine ⟨_, rfl, ⟨_, SqL.of hl6⟩, ?_⟩
            refine for_list (xs := ts.map V.ref) (fun i σ H' => ∃ (es3 : List Ent) (v13 : Option V), σ = [some (.ref o), some (.int (Lf ls S).x), some (.int (Lf ls S).y), some (.int (Lf ls S).k), some (.int (Lf ls S).l), some (.int (hf hs (Lf ls S).x - hf hs (Lf ls S).y - (Lf ls S).k)), some (.ref ld), some (.ref qa), some (.ref cd), some (.ref dl), some (.int e.1), some (.int e.2.1), some (.int (e.2.2 : Int)), v13] ∧
              Qu H' qa es3 ∧ es3.Perm (es' ++ es2.take i) ∧ ∀ b u, b ≠ qa → H6 b = some u → H' b = some u) ?_ ?_ ?_ ?_
            · exact ⟨es', _, rfl, hQ5.same s6, by simp, fun b u _ e => e⟩
            · rintro i σ H' _ ⟨es3, v13, rfl, _, _, k6⟩
              exact SqL.of (k6 _ _ nlq hl6)
            · rintro i x σ H' hx ⟨es3, v13, rfl, hQ', hpm, k6⟩
              have hi : i < (ts.map V.ref).length := (List.getElem?_eq_some_iff.mp hx).1
              rw [List.length_map] at hi
              obtain ⟨e2, he2, ht2⟩ := paired_get hp6 (List.getElem?_eq_getElem hi)
              rw [List.getElem?_map, List.getElem?_eq_getElem hi] at hx
              obtain rfl := (Option.some.inj hx).symm
              have ht3 := k6 _ _ (ne_of ht2 (s6 _ _ hx5) (by intro z; cases z)) ht2
              have hpl := hpm.length_eq
              have hnn := nums_len ls S e.2.1
              rw [List.length_append, List.length_take] at hpl
              walk_at "s"
              show HQ.rHPush _ [.ref qa, .ref ts[i]] H' _
              refine Qu.push hQ' ht3 (by omega) fun xs9 es4 hp4 hQ9 => ?_
              refine ⟨es4, _, rfl, hQ9, ?_, fun b u hb e => (upd_ne hb).trans (k6 b u hb e)⟩
              refine hp4.trans ?_
              rw [List.take_succ, he2, ← List.append_assoc]
              exact hpm.append_right _
            · rintro σ H' ⟨es3, v13, rfl, hQ', hpm, k6⟩
              rw [List.length_map] at hpm
              rw [List.take_of_length_le (by rw [Paired.length hp6]; exact Nat.le_refl _)] at hpm
              have hpl := hpm.length_eq
              rw [List.length_append] at hpl
              have hms : meas (Lf ls) S es3 (e.2.1 :: od) < meas (Lf ls) S es od := meas_low pe hod hle6 hpl
              have hst := I.st.low (q'' := es3) pe hmin hlx hyne (fun e' => by
                rw [hpm.mem_iff, List.mem_append, hmem6, put_lk]
                refine or_congr Iff.rfl ⟨?_, ?_⟩
                · rintro ⟨n, hn, a1, a2, a3⟩
                  obtain ⟨h1, h2⟩ := nums_mem.mp hn
                  have hc := chg_pt (ls := ls) (hs := hs) (lw := lw) (n := n) (v := hf hs e.2.1 + e.1)
                  rw [h2] at hc
                  rw [hc] at a2 a3
                  exact ⟨n, h1, h2, a1, a2, a3⟩
                · rintro ⟨n, h1, h2, a1, a2, a3⟩
                  have hc := chg_pt (ls := ls) (hs := hs) (lw := lw) (n := n) (v := hf hs e.2.1 + e.1)
                  rw [h2] at hc
                  exact ⟨n, nums_mem.mpr ⟨h1, h2⟩, a1, by rw [hc]; exact a2, by rw [hc]; exact a3⟩)
              rw [put_lk] at hst
              refine ⟨_, hms, es3, _, _, _, _, _, _, _, _, rfl, rfl, by omega, hst, hQ', k6 _ _ nq1 (s6 _ _ hdc5), hca, k6 _ _ nq2 (s6 _ _ hdl5), fun b u eb => k6 _ _ (ne_of_none eb nq) (s6 _ _ (sm5 _ _ eb)), ?_, hln, hcn⟩
              exact (hle5.keep fun b u _ e => s6 b u e).keep fun b u hb e => k6 b u (by
                rcases hb with rfl | ⟨z, hz⟩
                · exact n1
                · exact n5 z b hz) e
      · have hnp : ¬ ((0 : Int) < (xs.length : Nat)) := fun z => hb (decide_eq_true z)
        have hnil : es = [] := by
          cases es with
          | nil => rfl
          | cons a r => rw [List.length_cons] at hxl; omega
        subst hnil
        have hfit := I.st.done
        have hdlne : dl ≠ hd := (ne_of_none hdc nd).symm
        refine ⟨dl, .dK (dk lw), I.dl', trivial, fun od' => ?_⟩
        walk_at "s"
        refine ⟨dl, od', rfl, .inl ⟨dk lw, upd_same, ?_⟩⟩
        have old : ∀ b u, H1 b = some u → L2.upd H' dl (.frz od' (.dK (dk lw))) b = some u := fun b u e => (upd_ne (ne_of_none e nd)).trans (I.sm _ _ e)
        have hfz := upd_same (H := H') (a := dl) (o := .frz od' (.dK (dk lw)))
        revert old hfz
        generalize L2.upd H' dl (.frz od' (.dK (dk lw))) = HL
        intro old hfz
        refine for_it walk_keys (fun i σ H2 => ∃ (hs' : List (Int × Int)) (v11 : Option V), σ = [some (.ref o), some (.int (Lf ls S).x), some (.int (Lf ls S).y), some (.int (Lf ls S).k), some (.int (Lf ls S).l), some (.int (hf hs (Lf ls S).x - hf hs (Lf ls S).y - (Lf ls S).k)), some (.ref ld), some (.ref qa), some (.ref cd), some (.ref dl), v10, v11, v12, v13] ∧
          H2 hd = some (.dK (dk hs')) ∧ hs'.map (·.1) = hs.map (·.1) ∧ (∀ z, hf hs' z = if z ∈ (lw.take i).map (·.1) then (lk lw z).getD 0 else hf hs z) ∧ ∀ b u, b ≠ hd → HL b = some u → H2 b = some u) ?_ ?_ ?_ ?_
        · exact ⟨hs, _, rfl, old _ _ hdc, rfl, fun z => by simp, fun b u _ e => e⟩
        · rintro i σ H2 _ ⟨hs', v11, rfl, _, _, _, k2⟩
          exact k2 _ _ hdlne hfz
        · rintro i x σ H2 H3 hi ⟨hs', v11, rfl, hd2, hk2, hv2, k2⟩ ⟨rfl, k, v, hkv, rfl⟩
          obtain ⟨z, u, hzu, rfl, rfl⟩ : ∃ z u, lw[i]? = some (z, u) ∧ k = Sum.inl z ∧ v = .int u := by
            unfold dk at hkv
            rw [List.getElem?_map] at hkv
            cases e : lw[i]? with
            | none => rw [e] at hkv; cases hkv
            | some p =>
              rw [e] at hkv
              have := Option.some.inj hkv
              exact ⟨p.1, p.2, rfl, (congrArg Prod.fst this).symm, (congrArg Prod.snd this).symm⟩
          have hzm : z ∈ lw.map (·.1) := List.mem_map.mpr ⟨(z, u), List.mem_of_getElem? hzu, rfl⟩
          have hzl := lk_mem.mpr hzm
          obtain ⟨w9, hw9⟩ := Option.isSome_iff_exists.mp hzl
          have hdgz : DGet H3 dl (.int z) (some (.int w9)) := .inl ⟨dk lw, Sum.inl z, .inr ⟨od', k2 _ _ hdlne hfz⟩, rfl, by rw [dk_val, hw9]; rfl⟩
          have ho3 := k2 _ _ noh (old _ _ ho)
          have hkl := congrArg List.length hk2
          rw [List.length_map, List.length_map] at hkl
          walk_at "s"
          refine ⟨hd, _, rfl, dput_dk hd2 (by omega), ?_⟩
          refine ⟨pt hs' z w9, _, rfl, upd_same, ?_, fun p => ?_, fun b u hb e => (upd_ne hb).trans (k2 b u hb e)⟩
          · rw [keys_pt, hk2, if_pos (I.nl.2 z hzm)]
          · rw [hf_pt2, hv2, List.take_succ, hzu, List.map_append]
            by_cases hp : p = z
            · rw [if_pos hp, if_pos (by rw [hp]; simp), hp, hw9]; rfl
            · rw [if_neg hp]
              by_cases hq : p ∈ (lw.take i).map (·.1)
              · rw [if_pos hq, if_pos (List.mem_append.mpr (.inl hq))]
              · rw [if_neg hq, if_neg]
                intro hm
                rcases List.mem_append.mp hm with hm | hm
                · exact hq hm
                · exact hp (by simpa using hm)
        · rintro σ H2 ⟨hs', v11, rfl, hd2, hk2, hv2, k2⟩
          refine ⟨k2 _ _ hdlne hfz, ?_⟩
          walk_at "s"
          have hkl : (dk lw).length = lw.length := by unfold dk; rw [List.length_map]
          rw [hkl, List.take_length] at hv2
          have keep : ∀ b u, b ≠ hd → H1 b = some u → L2.upd H2 dl (.dK (dk lw)) b = some u := fun b u hb e => (upd_ne (ne_of_none e nd)).trans (k2 b u hb (old b u e))
          have hfun : hf hs' = fun p => (lk lw p).getD (hf hs p) := by
            funext z
            rw [hv2]
            by_cases hz : z ∈ lw.map (·.1)
            · rw [if_pos hz]
              obtain ⟨w9, hw9⟩ := Option.isSome_iff_exists.mp (lk_mem.mpr hz)
              rw [hw9]; rfl
            · rw [if_neg hz]
              cases hw : lk lw z with
              | none => rfl
              | some w9 => exact absurd (lk_mem.mp (by rw [hw]; rfl)) hz
          refine q1 hs' _ ?_ hk2 (by rw [hfun]; exact hfit S (Nat.le_refl _)) (fun b u e _ hb _ => keep b u hb e)
          refine { ob := ⟨dx, keep _ _ noh ho⟩, dc := (upd_ne hdlne.symm).trans hd2, lm := ?_, nd := by rw [hk2]; exact W.nd, le := W.le, z0 := by rw [hk2]; exact W.z0, xy := by rw [hk2]; exact W.xy, ok := fun n t hn ht => ?_ }
          · obtain ⟨ts9, g1, g2⟩ := W.lm
            exact ⟨ts9, keep _ _ nhl.symm g1, paired_imp (fun x e g => keep _ _ (ne_of g hdc (by intro z; cases z)) g) g2⟩
          · rw [hfun]
            rw [Lf_at (by omega)] at ht
            cases ht
            exact hfit n (by omega)
end
end K30


namespace K30
open PySem L2 WM
def sp_settle (C : Addr) : Sp := fun vs H Q _ => ∃ (o hd ll : Addr) (ls : List Lim) (S : Nat) (hs : List (Int × Int)), vs = [.ref o] ∧ WA C H o hd ll ls S hs ∧ ls.length ≤ 400 ∧ hs.length ≤ 900 ∧
  (∀ hs' H', WA C H' o hd ll ls ls.length hs' → hs'.map (·.1) = hs.map (·.1) → Own o hd ll H H' → Q .non H') ∧
  (∀ (S' : Nat) (hs' : List (Int × Int)) (r : Addr) (ns : List Nat) H', WA C H' o hd ll ls S' hs' → hs'.map (·.1) = hs.map (·.1) → Own o hd ll H H' → H r = none → Ring (ns.map (Lf ls)) → (∀ n ∈ ns, n < ls.length) → H' r = some (.lst ((ns.map fun n => (Lf ls n).l).map V.int)) → Q (.ref r) H')
theorem Own.none {C : Addr} {H H1 : Hp} {o hd ll : Addr} {ls S hs} (h : Own o hd ll H H1) (W : WA C H o hd ll ls S hs) {S' hs'} (W1 : WA C H1 o hd ll ls S' hs') {r : Addr} (e : H1 r = none) : H r = none := by
  obtain ⟨dx, ho⟩ := W1.ob
  obtain ⟨ts, hl, _⟩ := W1.lm
  cases e1 : H r with
  | none => rfl
  | some u =>
    have a1 : r ≠ o := fun z => by rw [z, ho] at e; cases e
    have a2 : r ≠ hd := fun z => by rw [z, W1.dc] at e; cases e
    have a3 : r ≠ ll := fun z => by rw [z, hl] at e; cases e
    rw [h r u e1 a1 a2 a3] at e; cases e
section
variable {P : Program} {w : World} {K : PySem.W.Frag} {mg : Str → Option Value} {base : Heap} {C : Addr}
theorem m_settle (T : CT K C) (B : Bi mg) (M : MetA K C "settle" "Ways.settle" s_settle p_settle)
    (m_settle_next : C8.Met P w K mg base 2 C "_settle_next" (sp_next C) []) : C8.Met P w K mg base 3 C "settle" (sp_settle C) [] := by
  obtain ⟨f, fd, me, F, b⟩ := M.ex
  obtain ⟨cl, nH, nL, nS⟩ := T
  have T := B
  refine C8.met0 cl me F b sc_settle (fun vs H Q E h => ?_) (fun cdv A outer s H vs Q E hr h => ?_)
  · obtain ⟨o, hd, ll, ls, S, hs, rfl, _⟩ := h
    rfl
  · obtain ⟨o, hd, ll, ls, S, hs, rfl, W, hz, hz9, q1, q2⟩ := h
    have hu := hu_of hr
    refine ⟨_, (pss_cons (ps_while PassesOwn.never (pt_cmpR op_lt (pe_fld (pv 0) rfl) (pe_callB call_len_seq (by rfl) T.b_len t_len (pa_cons (pe_fld (pv 0) rfl) pa_nil)) (nomark _)) (pss_cons (ps_set (i := 1) sc_settle.nd rfl (Or.inl rfl) (C8.pe_mt0 m_settle_next hr (by decide) (pv 0)))
          (C8.pss_cut (ps_if (pt_cmpR op_notN (pv 1) pe_non (nomark _)) (pss_one (ps_ret (pv 1))) pss_nil)
          (pss_one (ps_fldaug (pv 0) pe_int in_add)))))
      (pss_one (ps_ret pe_non))), ?_⟩
    refine ⟨fun m σ H' => ∃ (S' : Nat) (hs' : List (Int × Int)) (v1 : Option V), σ = [some (.ref o), v1] ∧ m = ls.length - S' ∧ WA C H' o hd ll ls S' hs' ∧ hs'.map (·.1) = hs.map (·.1) ∧ Own o hd ll H H', ⟨_, S, hs, none, rfl, rfl, W, rfl, Own.same (Same.refl _)⟩, ?_⟩
    rintro m σ H' ⟨S', hs', v1, rfl, rfl, W', hk, ow⟩
    obtain ⟨dx, ho⟩ := W'.ob
    obtain ⟨ts, hl, hts⟩ := W'.lm
    have hsl := Paired.length hts
    rw [List.length_map] at hsl
    have hle := W'.le
    have hkl := congrArg List.length hk
    rw [List.length_map, List.length_map] at hkl
    walk_at "s"
    refine ite2 (fun hb => ⟨_, fun _ _ h => h, ?_⟩) (fun hb => ?_)
    · have hlt : (S' : Int) < ((ts.map V.ref).length : Nat) := of_decide_eq_true hb
      rw [List.length_map] at hlt
      walk_at "s"
      refine ⟨o, hd, ll, ls, S', hs', rfl, W', hz, by omega, by omega, fun hs2 H2 W2 hk2 hf2 ow2 => ?_, fun r ns H2 hr0 s2 hR hns hr2 => ?_⟩
      · walk_at "s"
        refine ⟨fun σ' H' => σ' = [some (.ref o), some .non] ∧ H' = H2, ?_, ?_⟩
        · walk_at "s"
          exact ⟨rfl, rfl⟩
        · rintro σ' H9 ⟨rfl, rfl⟩
          obtain ⟨dx2, ho2⟩ := W2.ob
          obtain ⟨nhl, noh, nol⟩ := ne_hd_ll W2
          walk_at "s"
          refine ⟨dx2, _, ho2, (show (flds hd ll (S' : Int)).length < 1000 by unfold flds; simp), ?_⟩
          refine ⟨ls.length - (S' + 1), by omega, S' + 1, hs2, _, rfl, rfl, ?_, hk2.trans hk, fun b u e h1 h2 h3 => (upd_ne h1).trans (ow2 _ _ (ow b u e h1 h2 h3) h1 h2 h3)⟩
          rw [fl_put]
          refine { ob := ⟨dx2, ?_⟩, dc := (upd_ne noh.symm).trans W2.dc, lm := ?_, nd := W2.nd, le := by omega, z0 := W2.z0, xy := W2.xy, ok := fun n t hn ht => ?_ }
          · have : ((S' + 1 : Nat) : Int) = (S' : Int) + 1 := by omega
            rw [this]
            exact upd_same
          · obtain ⟨ts9, g1, g2⟩ := W2.lm
            exact ⟨ts9, (upd_ne nol.symm).trans g1, paired_imp (fun x e g => (upd_ne (ne_of g ho2 (by intro z; cases z))).trans g) g2⟩
          · by_cases h : n < S'
            · exact W2.ok n t h ht
            · have e : n = S' := by omega
              subst e
              rw [Lf_at (by omega)] at ht
              cases ht
              exact hf2
      · walk_at "s"
        refine ⟨fun σ' H' => False, ?_, fun σ' H' h => h.elim⟩
        walk_at "s"
        exact q2 S' hs' r ns H2 (W'.same s2) hk (ow.trans (Own.same s2)) (ow.none W W' hr0) hR (fun n hn => by have := hns n hn; omega) hr2
    · have hge : ¬ (S' : Int) < ((ts.map V.ref).length : Nat) := fun z => hb (decide_eq_true z)
      rw [List.length_map] at hge
      walk_at "s"
      have e : S' = ls.length := by omega
      subst e
      exact q1 hs' H' W' hk ow
end
end K30


namespace K30
open PySem L2 WM
theorem kit_same (K : PySem.W.Frag) (n : String) : PySem.W.kitOne K (.type n) (.type n) = some true := if_pos (beq_self_eq_true _)
theorem kit_ib (K : PySem.W.Frag) : PySem.W.kitOne K (.type "int") (.type "bool") = some false := by
  unfold PySem.W.kitOne PySem.W.kitCls
  rfl
theorem isi_int {K : PySem.W.Frag} {z : Int} {H : Hp} {Q : VK} (h : Q (.bl true) H) : rIsi K [.int z, .ty "int"] H Q := ⟨_, _, _, _, _, rfl, .ty _, .base (.int z), kit_same K "int", h⟩
theorem isi_notb {K : PySem.W.Frag} {z : Int} {H : Hp} {Q : VK} (h : Q (.bl false) H) : rIsi K [.int z, .ty "bool"] H Q := ⟨_, _, _, _, _, rfl, .ty _, .base (.int z), kit_ib K, h⟩
theorem isi_list {K : PySem.W.Frag} {a : Addr} {xs : List V} {H : Hp} {Q : VK} (e : H a = some (.lst xs)) (h : Q (.bl true) H) : rIsi K [.ref a, .ty "list"] H Q := ⟨_, _, _, _, _, rfl, .ty _, .base (.lst e), kit_same K "list", h⟩
theorem isi_dict {K : PySem.W.Frag} {a : Addr} {xs : List (Key × V)} {H : Hp} {Q : VK} (e : H a = some (.dK xs)) (h : Q (.bl true) H) : rIsi K [.ref a, .ty "dict"] H Q := ⟨_, _, _, _, _, rfl, .ty _, .base (.dK e), kit_same K "dict", h⟩
theorem flat_ints (zs : List Int) : (zs.map V.int).all flatV = true := by
  rw [List.all_map, List.all_eq_true]
  intro x _; rfl
theorem inV_ints (z : Int) : ∀ zs : List Int, inV (.int z) (zs.map V.int) = decide (z ∈ zs)
  | [] => by simp [inV]
  | y :: zs => by
    have ih := inV_ints z zs
    unfold inV at ih ⊢
    rw [List.map_cons, List.any_cons, ih]
    show ((y == z) || decide (z ∈ zs)) = decide (z ∈ y :: zs)
    by_cases h : y = z
    · rw [h]; simp
    · have : (y == z) = false := by simpa using h
      rw [this, Bool.false_or]
      exact decide_eq_decide.mpr (by simp [Ne.symm h])
/-- the places of some limits -/
def IsPl (ls : List Lim) (z : Int) : Prop := z = 0 ∨ ∃ t ∈ ls, z = t.x ∨ z = t.y
def sp_whole : Sp := fun vs H Q _ => ∃ z : Int, vs = [.int z] ∧ Q (.bl true) H
def sp_due : Sp := fun vs H Q _ => ∃ (l : Addr) (ls : List Lim), vs = [.ref l] ∧ LL H l ls ∧ ls.length ≤ 400 ∧
  ∀ (d : Addr) (ks : List Int) H', H d = none → Same H H' → ks.Pairwise (· ≤ ·) → ks.Nodup → (∀ z, z ∈ ks ↔ IsPl ls z) → H' d = some (.lst (ks.map V.int)) → ks.length ≤ 1 + 2 * ls.length → Q (.ref d) H'
section
variable {P : Program} {w : World} {K : PySem.W.Frag} {mg : Str → Option Value} {base : Heap} {C : Addr}
theorem c_whole (T : Bi mg) (D : DefA K mg "_law_whole" s_whole p_whole) : C8.Cal P w K mg base 1 "_law_whole" sp_whole [] := by
  obtain ⟨f, fd, D, b⟩ := D.ex
  refine C8.cal0 D b .nil sc_whole (fun vs H Q E h => ?_) (fun cdv A outer s H vs Q E hr h => ?_)
  · obtain ⟨z, rfl, _⟩ := h
    rfl
  · obtain ⟨z, rfl, q⟩ := h
    refine ⟨_, (pss_one (ps_ret (pe_and (pe_callB call_isi (by rfl) T.b_isinstance t_isinstance (pa_cons (pv 0) (pa_cons (pe_bltn (v := V.ty "int") (by rfl) T.b_int t_int rfl) pa_nil))) (pe_one (pe_not (pe_callB call_isi (by rfl) T.b_isinstance t_isinstance (pa_cons (pv 0) (pa_cons (pe_bltn (v := V.ty "bool") (by rfl) T.b_bool t_bool rfl) pa_nil)))))))), ?_⟩
    walk_at "s"
    refine ⟨_, _, _, _, _, rfl, .ty _, .base (.int z), kit_same K "int", ?_⟩
    walk_at "s"
    refine ⟨_, _, _, _, _, rfl, .ty _, .base (.int z), kit_ib K, ?_⟩
    walk_at "s"
    exact q
theorem c_due (T : Bi mg) (D : DefA K mg "_law_due_places" s_due p_due) : C8.Cal P w K mg base 1 "_law_due_places" sp_due [] := by
  obtain ⟨f, fd, D, b⟩ := D.ex
  refine C8.cal0 D b .nil sc_due (fun vs H Q E h => ?_) (fun cdv A outer s H vs Q E hr h => ?_)
  · obtain ⟨l, ls, rfl, _⟩ := h
    rfl
  · obtain ⟨l, ls, rfl, hL, hz, q⟩ := h
    obtain ⟨ts, hl, hts⟩ := hL
    have htl := Paired.length hts
    rw [List.length_map] at htl
    refine ⟨_, (pss_cons (ps_set (i := 1) sc_due.nd rfl (Or.inl rfl) (pe_lst (pa_cons pe_int pa_nil)))
      (pss_cons (ps_for PassesOwn.never rfl (pi_list (pv 0)) (pg_name (i := 2) sc_due.nd rfl (Or.inl rfl)) (pss_one (ps_for PassesOwn.never rfl (pi_tup (pe_tup (pa_cons (pe_ix ix_tup (pv 2) pe_int (fun _ _ => rfl)) (pa_cons (pe_ix ix_tup (pv 2) pe_int (fun _ _ => rfl)) pa_nil)))) (pg_name (i := 3) sc_due.nd rfl (Or.inl rfl)) (pss_one (ps_if (pt_cmpR op_notIn_seq (pv 3) (pv 1) (by rfl)) (pss_one (ps_expr (pe_bm PySem.F.plainAttrs_list PySem.F.slot_list_append PySem.F.type_list_append mt_append (pv 1) (pa_cons (pv 3) pa_nil)))) pss_nil)))))
      (pss_one (ps_ret (pe_callB cr_sortedI (by rfl) T.b_sorted t_sorted (pa_cons (pv 1) pa_nil)))))), ?_⟩
    walk_at "s"
    intro p hp
    walk_at "s"
    have hl1 := (upd_ne (o := .lst [V.int 0]) (ne_of_none hl hp)).trans hl
    refine for_list (xs := ts.map V.ref) (fun i σ H' => ∃ (ks : List Int) (v2 v3 : Option V), σ = [some (.ref l), some (.ref p), v2, v3] ∧ H' p = some (.lst (ks.map V.int)) ∧ Same H H' ∧ ks.Nodup ∧ (∀ z, z ∈ ks ↔ IsPl (ls.take i) z) ∧ ks.length ≤ 1 + 2 * i) ?_ ?_ ?_ ?_
    · exact ⟨[0], none, none, rfl, upd_same, same_new (Same.refl _) hp, by simp, fun z => by simp [IsPl], by simp⟩
    · rintro i σ H' _ ⟨ks, v2, v3, rfl, _, sm, _⟩
      exact SqL.of (sm _ _ hl)
    · rintro i x σ H' hx ⟨ks, v2, v3, rfl, hp', sm, hnd, hmem, hkl⟩
      have hi := (List.getElem?_eq_some_iff.mp hx).1
      rw [List.length_map] at hi
      obtain ⟨r, hr2, ht⟩ := paired_get hts (List.getElem?_eq_getElem hi)
      rw [List.getElem?_map, List.getElem?_eq_getElem hi] at hx
      obtain rfl := (Option.some.inj hx).symm
      rw [List.getElem?_map] at hr2
      obtain ⟨t, ht2, rfl⟩ := Option.map_eq_some_iff.mp hr2
      have ht' : H' ts[i] = some (.tup [.int t.x, .int t.y, .int t.k, .int t.l]) := sm _ _ ht
      walk_at "s"
      intro q2 hq2
      have hp2 := (upd_ne (o := .tup [V.int t.x, V.int t.y]) (ne_of_none hp' hq2)).trans hp'
      have sm2 := same_new (o := .tup [V.int t.x, V.int t.y]) sm hq2
      have hpq : p ≠ q2 := ne_of_none hp' hq2
      refine ⟨_, rfl, ⟨_, SqT.of upd_same⟩, ?_⟩
      have two : ∀ z, IsPl (ls.take (i + 1)) z ↔ IsPl (ls.take i) z ∨ z ∈ [t.x, t.y] := fun z => by
        rw [List.take_succ, ht2]
        unfold IsPl
        constructor
        · rintro (h | ⟨u, hu, h⟩)
          · exact .inl (.inl h)
          · rcases List.mem_append.mp hu with hu | hu
            · exact .inl (.inr ⟨u, hu, h⟩)
            · have : u = t := by simpa using hu
              subst this
              exact .inr (by rcases h with h | h <;> simp [h])
        · rintro ((h | ⟨u, hu, h⟩) | h)
          · exact .inl h
          · exact .inr ⟨u, List.mem_append.mpr (.inl hu), h⟩
          · refine .inr ⟨t, List.mem_append.mpr (.inr (by simp)), by simpa using h⟩
      refine for_tup (xs := [V.int t.x, V.int t.y]) (fun j σ H3 => ∃ (ks : List Int) (v3 : Option V), σ = [some (.ref l), some (.ref p), some (.ref ts[i]), v3] ∧ H3 p = some (.lst (ks.map V.int)) ∧ Same H H3 ∧ H3 q2 = some (.tup [V.int t.x, V.int t.y]) ∧ ks.Nodup ∧ (∀ z, z ∈ ks ↔ IsPl (ls.take i) z ∨ z ∈ [t.x, t.y].take j) ∧ ks.length ≤ 1 + 2 * i + j) ?_ ?_ ?_ ?_
      · exact ⟨ks, _, rfl, hp2, sm2, upd_same, hnd, fun z => by rw [hmem]; simp, by omega⟩
      · rintro j σ H3 _ ⟨ks, v3, rfl, _, _, h2, _⟩
        exact SqT.of h2
      · rintro j x σ H3 hx3 ⟨ks, v3, rfl, hp3, sm3, hq3, hnd3, hmem3, hkl3⟩
        obtain ⟨z, hz3, rfl⟩ : ∃ z, [t.x, t.y][j]? = some z ∧ x = .int z := by
          have e : [V.int t.x, V.int t.y] = [t.x, t.y].map V.int := rfl
          rw [e, List.getElem?_map] at hx3
          obtain ⟨z, h1, h2⟩ := Option.map_eq_some_iff.mp hx3
          exact ⟨z, h1, h2.symm⟩
        have hj : j < 2 := (List.getElem?_eq_some_iff.mp hz3).1
        have hfl := flat_ints ks
        have hin := inV_ints z ks
        walk_at "s"
        refine ⟨rfl, hfl, _, rfl, ?_⟩
        have hin2 : (if true = true then !inV (V.int z) (ks.map V.int) else inV (V.int z) (ks.map V.int)) = !decide (z ∈ ks) := by rw [if_pos rfl, hin]
        refine ite2 (fun hb => ?_) (fun hb => ?_)
        · rw [hin2] at hb
          have hno : z ∉ ks := by simpa using hb
          walk_at "s"
          refine ⟨ks ++ [z], _, rfl, by rw [List.map_append]; exact upd_same, Same.putn sm3 hp, ?_, ?_, ?_, by rw [List.length_append]; simp; omega⟩
          · exact (upd_ne hpq.symm).trans hq3
          · refine List.nodup_append.mpr ⟨hnd3, by simp, fun a ha b hb e => ?_⟩
            rw [List.mem_singleton] at hb
            rw [e, hb] at ha; exact hno ha
          · intro u
            rw [List.take_succ, hz3, List.mem_append, List.mem_append, ← or_assoc, ← hmem3]; rfl
        · rw [hin2] at hb
          have hyes : z ∈ ks := by simpa using hb
          refine ⟨ks, _, rfl, hp3, sm3, hq3, hnd3, fun u => ?_, by omega⟩
          rw [List.take_succ, hz3, List.mem_append, ← or_assoc, ← hmem3]
          constructor
          · exact .inl
          · rintro (h | h)
            · exact h
            · have : u = z := by simpa using h
              rw [this]; exact hyes
      · rintro σ H3 ⟨ks, v3, rfl, hp3, sm3, hq3, hnd3, hmem3, hkl3⟩
        exact ⟨ks, _, _, rfl, hp3, sm3, hnd3, fun z => by rw [hmem3, two]; rfl, by simp at hkl3; omega⟩
    · rintro σ H' ⟨ks, v2, v3, rfl, hp', sm, hnd, hmem, hkl⟩
      rw [List.length_map] at hmem hkl
      rw [List.take_of_length_le (by omega)] at hmem
      walk_at "s"
      refine ⟨p, ks, rfl, SqL.of hp', fun ks' p' pm so hp9 => ?_⟩
      walk_at "s"
      have hp9H : H p' = none := by
        cases e : H p' with
        | none => rfl
        | some u => rw [sm _ _ e] at hp9; cases hp9
      exact q p' ks' _ hp9H (same_new sm hp9) so (pm.nodup_iff.mpr hnd) (fun z => by rw [pm.mem_iff]; exact hmem z) upd_same (by rw [pm.length_eq]; omega)
end
end K30


namespace K30
open PySem L2 WM
theorem first_at {z : Int} : ∀ {ks : List Int}, z ∈ ks → ∃ j, ks[j]? = some z ∧ ∀ (m : Nat) (z' : Int), m < j → ks[m]? = some z' → z' ≠ z
  | y :: ks, h => by
    by_cases e : y = z
    · exact ⟨0, by rw [e]; rfl, fun m z' hm => by omega⟩
    · have hz : z ∈ ks := by
        rcases List.mem_cons.mp h with h | h
        · exact absurd h.symm e
        · exact h
      obtain ⟨j, h1, h2⟩ := first_at hz
      refine ⟨j + 1, by simpa using h1, fun m z' hm hz' => ?_⟩
      rcases m with _ | m
      · have : y = z' := by simpa using hz'
        rw [← this]; exact e
      · exact h2 m z' (by omega) (by simpa using hz')
theorem idx_at {ks : List Int} {z : Int} (hz : z ∈ ks) : ∃ j : Nat, ks[j]? = some z ∧ (ks.map V.int)[j]? = some (.int z) ∧ ∀ (m : Nat) (z' : V), m < j → (ks.map V.int)[m]? = some z' → eqV z' (.int z) = false := by
  obtain ⟨j, h1, h2⟩ := first_at hz
  refine ⟨j, h1, by rw [List.getElem?_map, h1]; rfl, fun m z' hm hz' => ?_⟩
  rw [List.getElem?_map] at hz'
  obtain ⟨u, hu, rfl⟩ := Option.map_eq_some_iff.mp hz'
  have := h2 m u hm hu
  show (u == z) = false
  simpa using this
theorem map_at {ks : List Int} {g : Int → Int} {j : Nat} {z : Int} (h : ks[j]? = some z) : atI ((ks.map g).map V.int) (j : Int) = some (.int (g z)) := by
  refine atI_nat ?_
  rw [List.getElem?_map, List.getElem?_map, h]; rfl
theorem map_put {ks : List Int} {g g' : Int → Int} {j : Nat} {z : Int} (hn : ks.Nodup) (h : ks[j]? = some z) (hg : ∀ u, u ≠ z → g' u = g u) : ((ks.map g).map V.int).set j (.int (g' z)) = (ks.map g').map V.int := by
  refine List.ext_getElem? fun i => ?_
  rw [List.getElem?_set]
  by_cases e : j = i
  · subst e
    rw [if_pos rfl]
    have hj := (List.getElem?_eq_some_iff.mp h).1
    rw [if_pos (by simpa using hj), List.getElem?_map, List.getElem?_map, h]; rfl
  · rw [if_neg e]
    rw [List.getElem?_map, List.getElem?_map, List.getElem?_map, List.getElem?_map]
    cases e2 : ks[i]? with
    | none => rfl
    | some u =>
      have hne : u ≠ z := fun q => by
        rw [q] at e2
        have hj := (List.getElem?_eq_some_iff.mp h).1
        exact e ((List.getElem?_inj hj hn).mp (h.trans e2.symm))
      show some (V.int (g u)) = some (V.int (g' u))
      rw [hg u hne]
theorem ixN_nat {n j : Nat} (h : j < n) : ixN n (j : Int) = some j := by
  unfold ixN
  simp
  omega
def sp_heights : Sp := fun vs H Q _ => ∃ (l d : Addr) (ls : List Lim) (ks : List Int), vs = [.ref l, .ref d] ∧ LL H l ls ∧ ls.length ≤ 400 ∧ H d = some (.lst (ks.map V.int)) ∧ ks.Nodup ∧ ks.length ≤ 900 ∧ (∀ t ∈ ls, t.x ∈ ks ∧ t.y ∈ ks) ∧
  ∀ (b : Bool) H', Same H H' → (b = true ↔ Feas ls) → Q (.bl b) H'
section
variable {P : Program} {w : World} {K : PySem.W.Frag} {mg : Str → Option Value} {base : Heap} {C : Addr}
theorem c_heights (T : Bi mg) (D : DefA K mg "_law_heights" s_heights p_heights) : C8.Cal P w K mg base 1 "_law_heights" sp_heights [] := by
  obtain ⟨f, fd, D, b⟩ := D.ex
  refine C8.cal0 D b .nil sc_heights (fun vs H Q E h => ?_) (fun cdv A outer s H vs Q E hr h => ?_)
  · obtain ⟨l, d, ls, ks, rfl, _⟩ := h
    rfl
  · obtain ⟨l, d, ls, ks, rfl, hL, hz, hd, hnd, hkl, hxy, q⟩ := h
    obtain ⟨ts, hl, hts⟩ := hL
    have htl := Paired.length hts
    rw [List.length_map] at htl
    refine ⟨_, (pss_cons (ps_setLc (i := 2) (own := [("_law_place", 8)]) (g := gName 8) (tt := tYes) rfl sc_heights.nd rfl rfl (sw_true rfl rfl rfl (by decide +kernel)) (pi_list (pv 1)) (blkOk_by (N := n_heights) (sc := C8.fnScope s_heights) (by decide +kernel)) (fun _ _ _ _ _ => pg_name (i := 8) sc_heights.nd rfl (Or.inl rfl)) (fun _ _ _ _ _ => pts_nil) (fun _ _ _ _ _ => pe_int))
      (pss_cons (ps_for PassesOwn.never rfl (pi_range1 (by rfl) T.b_range (pa_cons (pe_op op_add (pe_callB call_len_seq (by rfl) T.b_len t_len (pa_cons (pv 1) pa_nil)) pe_int) pa_nil)) (pg_name (i := 3) sc_heights.nd rfl (Or.inl rfl)) (pss_cons (ps_set (i := 4) sc_heights.nd rfl (Or.inl rfl) pe_bl)
          (pss_cons (ps_for PassesOwn.never rfl (pi_list (pv 0)) (pg_name (i := 5) sc_heights.nd rfl (Or.inl rfl)) (pss_cons (ps_set (i := 6) sc_heights.nd rfl (Or.inl rfl) (pe_bm PySem.F.plainAttrs_list PySem.F.slot_list_index PySem.F.type_list_index mt_index (pv 1) (pa_cons (pe_ix ix_tup (pv 5) pe_int (fun _ _ => rfl)) pa_nil)))
              (pss_cons (ps_set (i := 7) sc_heights.nd rfl (Or.inl rfl) (pe_bm PySem.F.plainAttrs_list PySem.F.slot_list_index PySem.F.type_list_index mt_index (pv 1) (pa_cons (pe_ix ix_tup (pv 5) pe_int (fun _ _ => rfl)) pa_nil)))
              (pss_one (ps_if (pt_cmpR op_gt (pe_ix ix_list (pv 2) (pv 6) (fun _ _ => rfl)) (pe_op op_add (pe_ix ix_list (pv 2) (pv 7) (fun _ _ => rfl)) (pe_ix ix_tup (pv 5) pe_int (fun _ _ => rfl))) (nomark _)) (pss_cons (ps_asg (pe_op op_add (pe_ix ix_list (pv 2) (pv 7) (fun _ _ => rfl)) (pe_ix ix_tup (pv 5) pe_int (fun _ _ => rfl))) (pg_sub (pv 2) (pv 6) set_list))
                (pss_one (ps_set (i := 4) sc_heights.nd rfl (Or.inl rfl) pe_bl))) pss_nil)))))
          (pss_one (ps_if (pt_not (pt_val (pv 4))) (pss_one (ps_ret pe_bl)) pss_nil)))))
      (pss_one (ps_ret pe_bl)))), ?_⟩
    walk_at "s"
    refine fun D1 hD1 => lc_list (xs := ks.map V.int) (fun i H' => H' D1 = some (.lst (((ks.take i).map fun _ => (0 : Int)).map V.int)) ∧ Same H H') ?_ ?_ ?_ ?_
    · exact ⟨upd_same, same_new (Same.refl _) hD1⟩
    · rintro i H' _ ⟨_, sm⟩
      exact SqL.of (sm _ _ hd)
    · rintro i x H' hx ⟨hD', sm⟩
      have hi := (List.getElem?_eq_some_iff.mp hx).1
      rw [List.length_map] at hi
      obtain ⟨z, hz3⟩ : ∃ z, ks[i]? = some z := ⟨_, List.getElem?_eq_getElem hi⟩
      walk_at "s"
      refine ⟨_, hD', small1000 (by rw [List.length_map, List.length_map, List.length_take]; omega), ?_, Same.putn sm hD1⟩
      rw [List.take_succ, hz3, List.map_append, List.map_append]
      exact upd_same
    · rintro H' ⟨hD', sm⟩
      rw [List.length_map, List.take_length] at hD'
      have hd' := sm _ _ hd
      walk_at "s"
      refine And.intro (by rw [List.length_map]; omega) ?_
      refine for_range (lo := 0) (fun i σ H2 => ∃ (g : Int → Int) (v3 v4 v5 v6 v7 : Option V), σ = [some (.ref l), some (.ref d), some (.ref D1), v3, v4, v5, v6, v7, none] ∧ H2 D1 = some (.lst ((ks.map g).map V.int)) ∧ Same H H2 ∧ RS ls ks i g) ?_ ?_ ?_
      · exact ⟨fun _ => 0, none, none, none, none, none, rfl, hD', sm, RS.start _ _⟩
      · rintro i σ H2 hi ⟨g, v3, v4, v5, v6, v7, rfl, hD2, sm2, R⟩
        walk_at "s"
        refine And.intro ⟨_, SqL.of (sm2 _ _ hl)⟩ ?_
        refine for_list (xs := ts.map V.ref) (fun j σ H3 => ∃ (v5 v6 v7 : Option V), σ = [some (.ref l), some (.ref d), some (.ref D1), some (.int (0 + (i : Int))), some (.bl (round (ls.take j) (g, false)).2), v5, v6, v7, none] ∧ H3 D1 = some (.lst ((ks.map (round (ls.take j) (g, false)).1).map V.int)) ∧ Same H H3) ?_ ?_ ?_ ?_
        · exact ⟨_, _, _, rfl, hD2, sm2⟩
        · rintro j σ H3 _ ⟨v5, v6, v7, rfl, _, sm3⟩
          exact SqL.of (sm3 _ _ hl)
        · rintro j x σ H3 hx ⟨v5, v6, v7, rfl, hD3, sm3⟩
          have hj := (List.getElem?_eq_some_iff.mp hx).1
          rw [List.length_map] at hj
          obtain ⟨r, hr2, ht⟩ := paired_get hts (List.getElem?_eq_getElem hj)
          rw [List.getElem?_map, List.getElem?_eq_getElem hj] at hx
          obtain rfl := (Option.some.inj hx).symm
          rw [List.getElem?_map] at hr2
          obtain ⟨t, ht2, rfl⟩ := Option.map_eq_some_iff.mp hr2
          have ht' : H3 ts[j] = some (.tup [.int t.x, .int t.y, .int t.k, .int t.l]) := sm3 _ _ ht
          have hd3 := sm3 _ _ hd
          have hxy' := hxy t (List.mem_of_getElem? ht2)
          have hrd : round (ls.take (j + 1)) (g, false) = rel1 (round (ls.take j) (g, false)) t := by
            unfold round
            rw [List.take_succ, ht2, List.foldl_append]; rfl
          rw [hrd]
          revert hD3
          generalize round (ls.take j) (g, false) = s9
          intro hD3
          walk_at "s"
          obtain ⟨jx, hjx, hjx1, hjx2⟩ := idx_at hxy'.1
          refine ⟨_, _, _, jx, _, rfl, rfl, SqL.of hd3, rfl, flat_ints _, hjx1, beq_self_eq_true _, hjx2, ?_⟩
          walk_at "s"
          obtain ⟨jy, hjy, hjy1, hjy2⟩ := idx_at hxy'.2
          refine ⟨_, _, _, jy, _, rfl, rfl, SqL.of hd3, rfl, flat_ints _, hjy1, beq_self_eq_true _, hjy2, ?_⟩
          have hax := map_at (g := s9.1) hjx
          have hay := map_at (g := s9.1) hjy
          walk_at "s"
          refine ite2 (fun hb => ?_) (fun hb => ?_)
          · have hgt : s9.1 t.y + t.k < s9.1 t.x := of_decide_eq_true hb
            have e9 : rel1 s9 t = (low1 s9.1 t, true) := if_pos hgt
            have hset := map_put (g' := low1 s9.1 t) hnd hjx (fun u hu => if_neg hu)
            have hlow : low1 s9.1 t t.x = s9.1 t.y + t.k := if_pos rfl
            rw [hlow] at hset
            walk_at "s"
            refine ⟨D1, _, _, jx, rfl, rfl, hD3, ixN_nat (by rw [List.length_map, List.length_map]; exact (List.getElem?_eq_some_iff.mp hjx).1), ?_⟩
            walk_at "s"
            rw [e9]
            refine ⟨_, _, _, rfl, ?_, Same.putn sm3 hD1⟩
            rw [hset]
            exact upd_same
          · have hgt : ¬ s9.1 t.y + t.k < s9.1 t.x := fun z => hb (decide_eq_true z)
            have e9 : rel1 s9 t = s9 := if_neg hgt
            rw [e9]
            exact ⟨_, _, _, rfl, hD3, sm3⟩
        · rintro σ H3 ⟨v5, v6, v7, rfl, hD3, sm3⟩
          rw [List.length_map] at hD3 ⊢
          rw [List.take_of_length_le (by omega)] at hD3 ⊢
          cases hc : (round ls (g, false)).2 with
          | false =>
            walk_at "s"
            exact q true _ sm3 ⟨fun _ => feas_still hc, fun _ => rfl⟩
          | true =>
            walk_at "s"
            exact ⟨_, _, _, _, _, _, rfl, hD3, sm3, R.turn hxy hc⟩
      · rintro σ H2 ⟨g, v3, v4, v5, v6, v7, rfl, hD2, sm2, R⟩
        walk_at "s"
        have e : ((((ks.map V.int).length : Nat) : Int) + 1).toNat = ks.length + 1 := by rw [List.length_map]; omega
        have R' : RS ls ks (ks.length + 1) g := e ▸ R
        exact q false _ sm2 ⟨(fun z => by cases z), fun F => absurd F R'.end⟩
end
end K30


namespace K30
open PySem L2 WM
theorem cut_take {xs : List V} {i : Nat} (h : i ≤ xs.length) : cutV xs none (some (i : Int)) = xs.take i := by
  unfold cutV
  rw [HT.sIx_none, HT.sIx_nat, List.drop_zero, Nat.sub_zero, Nat.min_eq_left h]
def sp_lring : Sp := fun vs H Q _ => ∃ (d l : Addr) (ls : List Lim) (us : List Lim), vs = [.ref d, .ref l] ∧ LL H l ls ∧ ls.length ≤ 400 ∧ (ls.map (·.l)).Nodup ∧ H d = some (.lst ((us.map (·.l)).map V.int)) ∧ (∀ u ∈ us, u ∈ ls) ∧ Ring us ∧ us.length ≤ 900 ∧
  ∀ H', Same H H' → Q (.bl true) H'
section
variable {P : Program} {w : World} {K : PySem.W.Frag} {mg : Str → Option Value} {base : Heap} {C : Addr}
theorem c_ring (T : Bi mg) (D : DefA K mg "_law_ring" s_lring p_lring) (c_law_whole : C8.Cal P w K mg base 1 "_law_whole" sp_whole []) : C8.Cal P w K mg base 2 "_law_ring" sp_lring [] := by
  obtain ⟨f, fd, D, b⟩ := D.ex
  refine C8.cal0 D b .nil sc_lring (fun vs H Q E h => ?_) (fun cdv A outer s H vs Q E hr h => ?_)
  · obtain ⟨d, l, ls, us, rfl, _⟩ := h
    rfl
  · obtain ⟨d, l, ls, us, rfl, hL, hz, hnl, hd, hus, R, hul, q⟩ := h
    obtain ⟨ts, hl, hts⟩ := hL
    have hu := hu_of hr
    have htl := Paired.length hts
    rw [List.length_map] at htl
    refine ⟨_, (C8.pss_cut (ps_if (PW.pt (pw_or (pt_not (pt_val (pe_callB call_isi (by rfl) T.b_isinstance t_isinstance (pa_cons (pv 0) (pa_cons (pe_bltn (v := V.ty "list") (by rfl) T.b_list t_list rfl) pa_nil))))) (pw_or1 (pt_cmpR op_eq (pe_callB call_len_seq (by rfl) T.b_len t_len (pa_cons (pv 0) pa_nil)) pe_int (nomark _))))) (pss_one (ps_ret pe_bl)) pss_nil)
      (pss_cons (ps_set (i := 2) sc_lring.nd rfl (Or.inl rfl) pe_dnewK)
      (pss_cons (ps_for PassesOwn.never rfl (pi_list (pv 1)) (pg_name (i := 3) sc_lring.nd rfl (Or.inl rfl)) (pss_one (ps_dput hu (pv 2) (pe_ix ix_tup (pv 3) pe_int (fun _ _ => rfl)) (pv 3) rfl)))
      (pss_cons (ps_set (i := 4) sc_lring.nd rfl (Or.inl rfl) (pe_lst pa_nil))
      (pss_cons (ps_for PassesOwn.never rfl (pi_list (pv 0)) (pg_name (i := 5) sc_lring.nd rfl (Or.inl rfl)) (C8.pss_cut (ps_if (PW.pt (pw_or (pt_not (pt_val (C8.pe_c c_law_whole hr (by decide) (by rfl) (pa_cons (pv 5) pa_nil)))) (pw_or1 (pt_cmp (pc_dnotin hu (pv 5) (pv 2)))))) (pss_one (ps_ret pe_bl)) pss_nil)
          (pss_one (ps_expr (pe_bm PySem.F.plainAttrs_list PySem.F.slot_list_append PySem.F.type_list_append mt_append (pv 4) (pa_cons (pe_dget hu (pv 2) (pv 5) (fun _ _ => rfl)) pa_nil))))))
      (pss_cons (ps_setLc (i := 6) (own := [("_law_row", 3)]) (g := gName 3) (tt := tYes) rfl sc_lring.nd rfl rfl (sw_true rfl rfl rfl (by decide +kernel)) (pi_list (pv 4)) (blkOk_by (N := n_lring) (sc := C8.fnScope s_lring) (by decide +kernel)) (fun _ _ _ _ _ => pg_name (i := 3) sc_lring.nd rfl (Or.inl rfl)) (fun _ _ _ _ _ => pts_nil) (fun _ _ _ _ _ => (pe_ix (r := rIxT K) ix_tup (pv 3) pe_int (fun _ _ => rfl))))
      (pss_cons (ps_set (i := 7) sc_lring.nd rfl (Or.inl rfl) pe_int)
      (pss_cons (ps_for PassesOwn.never rfl (pi_range1 (by rfl) T.b_range (pa_cons (pe_callB call_len_seq (by rfl) T.b_len t_len (pa_cons (pv 4) pa_nil)) pa_nil)) (pg_name (i := 8) sc_lring.nd rfl (Or.inl rfl)) (C8.pss_cut (ps_if (PW.pt (pw_or (pt_cmpR op_in_seq (pe_ix ix_list (pv 6) (pv 8) (fun _ _ => rfl)) (pe_slice sl_list (pv 6) po_none (po_some (pv 8))) (by rfl)) (pw_or1 (pt_cmpR op_ne (pe_ix ix_tup (pe_ix ix_list (pv 4) (pv 8) (fun _ _ => rfl)) pe_int (fun _ _ => rfl)) (pe_ix ix_list (pv 6) (pe_op op_mod (pe_callTy call_int1 (by rfl) T.b_int t_int (pa_cons (pe_op op_add (pv 8) pe_int) pa_nil)) (pe_callB call_len_seq (by rfl) T.b_len t_len (pa_cons (pv 4) pa_nil))) (fun _ _ => rfl)) (nomark _))))) (pss_one (ps_ret pe_bl)) pss_nil)
          (pss_one (ps_set (i := 7) sc_lring.nd rfl (Or.inl rfl) (pe_op op_add (pv 7) (pe_ix ix_tup (pe_ix ix_list (pv 4) (pv 8) (fun _ _ => rfl)) pe_int (fun _ _ => rfl)))))))
      (pss_one (ps_ret (pe_cmpR op_lt (pv 7) pe_int (nomark _)))))))))))), ?_⟩
    have hne : us.length ≠ 0 := fun z => R.ne (List.eq_nil_of_length_eq_zero z)
    refine ⟨fun σ' H' => σ' = [some (.ref d), some (.ref l), none, none, none, none, none, none, none] ∧ H' = H, ?_, ?_⟩
    · walk_at "s"
      refine ⟨_, _, _, _, _, rfl, .ty _, .base (.lst hd), kit_same K "list", ?_⟩
      walk_at "s"
      refine ite2 (fun hb => ?_) (fun hb => ⟨rfl, rfl⟩)
      exfalso
      have := V.int.inj (of_decide_eq_true hb)
      rw [List.length_map, List.length_map] at this
      omega
    rintro σ1 H1 ⟨rfl, rfl⟩
    walk_at "s"
    intro td htd
    walk_at "s"
    have hl1 := (upd_ne (o := .dK []) (ne_of_none hl htd)).trans hl
    refine for_list (xs := ts.map V.ref) (fun i σ H2 => ∃ (kvs : List (Key × V)) (v3 : Option V), σ = [some (.ref d), some (.ref l), some (.ref td), v3, none, none, none, none, none] ∧ H2 td = some (.dK kvs) ∧ kvs.length ≤ i ∧ Same H1 H2 ∧ ∀ j, j < i → ∀ a, ts[j]? = some a → valV kvs (Sum.inl (Lf ls j).l : Key) = some (.ref a)) ?_ ?_ ?_ ?_
    · exact ⟨[], none, rfl, upd_same, Nat.zero_le _, same_new (Same.refl _) htd, fun j hj => by omega⟩
    · rintro i σ H2 _ ⟨kvs, v3, rfl, _, _, sm, _⟩
      exact SqL.of (sm _ _ hl)
    · rintro i x σ H2 hx ⟨kvs, v3, rfl, htd2, hkl, sm, hval⟩
      have hi := (List.getElem?_eq_some_iff.mp hx).1
      rw [List.length_map] at hi
      obtain ⟨r, hr2, ht⟩ := paired_get hts (List.getElem?_eq_getElem hi)
      rw [List.getElem?_map, List.getElem?_eq_getElem hi] at hx
      obtain rfl := (Option.some.inj hx).symm
      rw [List.getElem?_map, Lf_at (by omega)] at hr2
      obtain rfl := Option.some.inj hr2
      have ht' : H2 ts[i] = some (.tup [.int (Lf ls i).x, .int (Lf ls i).y, .int (Lf ls i).k, .int (Lf ls i).l]) := sm _ _ ht
      walk_at "s"
      refine ⟨td, _, rfl, DPut.k (k := (Sum.inl (Lf ls i).l : Key)) htd2 (small1000 (by omega)), ?_⟩
      refine ⟨_, _, rfl, upd_same, Nat.le_trans (length_putK _ _ _) (by omega), Same.putn sm htd, fun j hj a ha => ?_⟩
      rw [valV_put]
      by_cases e : j = i
      · subst e
        rw [if_pos rfl]
        rw [List.getElem?_eq_getElem hi] at ha
        rw [Option.some.inj ha]
      · rw [if_neg, hval j (by omega) a ha]
        intro z
        have z := Sum.inl.inj z
        have h1 : (ls.map (·.l))[j]? = some (Lf ls j).l := by rw [List.getElem?_map, Lf_at (by omega)]; rfl
        have h2 : (ls.map (·.l))[i]? = some (Lf ls i).l := by rw [List.getElem?_map, Lf_at (by omega)]; rfl
        rw [z, ← h2] at h1
        exact e ((List.getElem?_inj (by rw [List.length_map]; omega) hnl).mp h1)
    rintro σ2 H2 ⟨kvs, v3, rfl, htd2, hkl, sm2, hval⟩
    rw [List.length_map, htl] at hval hkl
    have look : ∀ u ∈ us, ∃ a, valV kvs (Sum.inl u.l : Key) = some (.ref a) ∧ H1 a = some (.tup ((Lim.row u).map V.int)) := fun u hu => by
      obtain ⟨j, hj⟩ := List.mem_iff_getElem?.mp (hus u hu)
      have hjl := (List.getElem?_eq_some_iff.mp hj).1
      have hjt : j < ts.length := by omega
      obtain ⟨r, hr2, ht⟩ := paired_get hts (List.getElem?_eq_getElem hjt)
      rw [List.getElem?_map, hj] at hr2
      obtain rfl := Option.some.inj hr2
      have := hval j hjl _ (List.getElem?_eq_getElem hjt)
      rw [Lf_at hjl] at hj
      rw [Option.some.inj hj] at this
      exact ⟨_, this, ht⟩
    walk_at "s"
    intro wk hwk
    have hwk1 : H1 wk = none := by
      cases e : H1 wk with
      | none => rfl
      | some u => rw [sm2 _ _ e] at hwk; cases hwk
    have hd3 := (upd_ne (o := .lst []) (ne_of_none (sm2 _ _ hd) hwk)).trans (sm2 _ _ hd)
    have ntw : td ≠ wk := ne_of_none htd2 hwk
    walk_at "s"
    refine for_list (xs := (us.map (·.l)).map V.int) (fun i σ H3 => ∃ (as : List Addr) (v3 v5 : Option V), σ = [some (.ref d), some (.ref l), some (.ref td), v3, some (.ref wk), v5, none, none, none] ∧ H3 wk = some (.lst (as.map V.ref)) ∧ Paired (fun a u => H1 a = some (.tup ((Lim.row u).map V.int))) as (us.take i) ∧ Same H1 H3 ∧ H3 td = some (.dK kvs)) ?_ ?_ ?_ ?_
    · exact ⟨[], _, none, rfl, upd_same, .nil, Same.putn sm2 hwk1, (upd_ne ntw).trans htd2⟩
    · rintro i σ H3 _ ⟨as, v3, v5, rfl, _, _, sm, _⟩
      exact SqL.of (sm _ _ hd)
    · rintro i x σ H3 hx ⟨as, v3, v5, rfl, hwk3, hpr, sm3, htd3⟩
      rw [List.map_map, List.getElem?_map] at hx
      obtain ⟨u, hu3, rfl⟩ := Option.map_eq_some_iff.mp hx
      have hi := (List.getElem?_eq_some_iff.mp hu3).1
      obtain ⟨a, ha, hta⟩ := look u (List.mem_of_getElem? hu3)
      have hdg : DGet H3 td (.int u.l) (some (.ref a)) := by
        have := DGet.k (k := (Sum.inl u.l : Key)) htd3
        rw [ha] at this
        exact this
      have hal := Paired.length hpr
      rw [List.length_take] at hal
      refine ⟨fun σ' H' => σ' = [some (.ref d), some (.ref l), some (.ref td), v3, some (.ref wk), some (.int u.l), none, none, none] ∧ H' = H3, ?_, ?_⟩
      · walk_at "s"
        exact ⟨rfl, rfl⟩
      · rintro σ' H' ⟨rfl, rfl⟩
        walk_at "s"
        refine ⟨as ++ [a], _, _, rfl, by rw [List.map_append]; exact upd_same, ?_, Same.putn sm3 hwk1, (upd_ne ntw).trans htd3⟩
        rw [List.take_succ, hu3]
        exact paired_app hpr (.cons hta .nil)
    rintro σ3 H3 ⟨as, v3, v5, rfl, hwk3, hpr, sm3, htd3⟩
    rw [List.length_map, List.length_map, List.take_length] at hpr
    have hal := Paired.length hpr
    walk_at "s"
    refine fun D1 hD1 => lc_list (xs := as.map V.ref) (fun i H' => H' D1 = some (.lst (((us.take i).map (·.x)).map V.int)) ∧ Same H3 H') ?_ ?_ ?_ ?_
    · exact ⟨upd_same, same_new (Same.refl _) hD1⟩
    · rintro i H' _ ⟨_, sm⟩
      exact SqL.of (sm _ _ hwk3)
    · rintro i x H' hx ⟨hD', sm⟩
      rw [List.getElem?_map] at hx
      obtain ⟨a, ha, rfl⟩ := Option.map_eq_some_iff.mp hx
      obtain ⟨u, hu3, hta⟩ := paired_get hpr ha
      have hta' : H' a = some (.tup [.int u.x, .int u.y, .int u.k, .int u.l]) := sm _ _ (sm3 _ _ hta)
      have hi := (List.getElem?_eq_some_iff.mp hu3).1
      walk_at "s"
      refine ⟨_, hD', small1000 (by rw [List.length_map, List.length_map, List.length_take]; omega), ?_, Same.putn sm hD1⟩
      rw [List.take_succ, hu3, List.map_append, List.map_append]
      exact upd_same
    rintro H4 ⟨hD4, sm4⟩
    rw [List.length_map, hal, List.take_length] at hD4
    have hwk4 := sm4 _ _ hwk3
    walk_at "s"
    refine And.intro (by rw [List.length_map]; omega) ?_
    refine for_range (lo := 0) (fun i σ H5 => ∃ v8 : Option V, σ = [some (.ref d), some (.ref l), some (.ref td), v3, some (.ref wk), v5, some (.ref D1), some (.int ((us.take i).map (·.k)).sum), v8] ∧ Same H4 H5) ?_ ?_ ?_
    · exact ⟨none, rfl, Same.refl _⟩
    · rintro i σ H5 hi ⟨v8, rfl, sm5⟩
      have hi9 : i < us.length := by
        rw [List.length_map] at hi
        omega
      have hu3 := List.getElem?_eq_getElem hi9
      obtain ⟨u2, hu2, hch⟩ := R.chain hu3
      have hD5 := sm5 _ _ hD4
      have hwk5 := sm5 _ _ hwk4
      have ha9 : i < as.length := by omega
      obtain ⟨u', hu', hta⟩ := paired_get hpr (List.getElem?_eq_getElem ha9)
      rw [hu3] at hu'
      obtain rfl := Option.some.inj hu'
      have hta5 : H5 as[i] = some (.tup [.int us[i].x, .int us[i].y, .int us[i].k, .int us[i].l]) := sm5 _ _ (sm4 _ _ (sm3 _ _ hta))
      have hat1 : atI ((us.map (·.x)).map V.int) (0 + (i : Int)) = some (.int us[i].x) := by
        rw [Int.zero_add]
        exact atI_nat (by rw [List.getElem?_map, List.getElem?_map, hu3]; rfl)
      have hat2 : atI (as.map V.ref) (0 + (i : Int)) = some (.ref as[i]) := by
        rw [Int.zero_add]
        exact atI_nat (by rw [List.getElem?_map, List.getElem?_eq_getElem ha9]; rfl)
      refine ⟨fun σ' H' => σ' = [some (.ref d), some (.ref l), some (.ref td), v3, some (.ref wk), v5, some (.ref D1), some (.int ((us.take i).map (·.k)).sum), some (.int (0 + (i : Int)))] ∧ Same H4 H', ?_, ?_⟩
      · walk_at "s"
        have hcut : cutV ((us.map (·.x)).map V.int) none (some (0 + (i : Int))) = ((us.take i).map (·.x)).map V.int := by
          rw [Int.zero_add, cut_take (by rw [List.length_map, List.length_map]; omega), List.map_take, List.map_take]
        have hin : inV (.int us[i].x) (((us.take i).map (·.x)).map V.int) = false := by
          rw [inV_ints]
          refine decide_eq_false fun hm => ?_
          obtain ⟨v, hv, e⟩ := List.mem_map.mp hm
          obtain ⟨j, hj⟩ := List.mem_iff_getElem?.mp hv
          rw [List.getElem?_take] at hj
          split at hj
          · rename_i hji
            have h1 : (us.map (·.x))[j]? = some v.x := by rw [List.getElem?_map, hj]; rfl
            have h2 : (us.map (·.x))[i]? = some us[i].x := by rw [List.getElem?_map, hu3]; rfl
            rw [e, ← h2] at h1
            have := (List.getElem?_inj (by rw [List.length_map]; omega) R.nd).mp h1
            omega
          · cases hj
        refine ⟨D1, _, rfl, SqL.of hD5, fun p5 hp5 => ?_⟩
        rw [hcut]
        refine ⟨p5, _, rfl, .inl (SqL.of upd_same), rfl, flat_ints _, _, rfl, ?_⟩
        have s9 := same_new (o := .lst (((us.take i).map (·.x)).map V.int)) (Same.refl H5) hp5
        have hwk9 := s9 _ _ hwk5
        have hD9 := s9 _ _ hD5
        have hta9 := s9 _ _ hta5
        have sm9 : Same H4 (L2.upd H5 p5 (.lst (((us.take i).map (·.x)).map V.int))) := fun b u e => s9 _ _ (sm5 _ _ e)
        refine ite2 (fun hb => ?_) (fun hb => ?_)
        · rw [if_neg Bool.false_ne_true, hin] at hb
          cases hb
        revert hwk9 hD9 hta9 sm9
        generalize L2.upd H5 p5 (.lst (((us.take i).map (·.x)).map V.int)) = H9
        intro hwk9 hD9 hta9 sm9
        have hlen : (((as.map V.ref).length : Nat) : Int) = (us.length : Int) := by rw [List.length_map, hal]
        have hlen2 : (0 : Int) < (((as.map V.ref).length : Nat) : Int) := by omega
        have hat3 : atI ((us.map (·.x)).map V.int) ((0 + (i : Int) + 1) % (((as.map V.ref).length : Nat) : Int)) = some (.int u2.x) := by
          have e : (0 + (i : Int) + 1) % (((as.map V.ref).length : Nat) : Int) = (((i + 1) % us.length : Nat) : Int) := by
            have e2 : (0 : Int) + (i : Int) + 1 = ((i + 1 : Nat) : Int) := by omega
            rw [hlen, e2]; rfl
          rw [e]
          exact atI_nat (by rw [List.getElem?_map, List.getElem?_map, hu2]; rfl)
        walk_at "s"
        refine ite2 (fun hb => ?_) (fun hb => ⟨rfl, sm9⟩)
        rw [hch] at hb
        simp at hb
      · rintro σ' H6 ⟨rfl, sm6⟩
        have hD6 := sm6 _ _ hD4
        have hwk6 := sm6 _ _ hwk4
        have hta6 : H6 as[i] = some (.tup [.int us[i].x, .int us[i].y, .int us[i].k, .int us[i].l]) := sm6 _ _ (sm4 _ _ (sm3 _ _ hta))
        walk_at "s"
        have hsum : ((us.take (i + 1)).map (·.k)).sum = ((us.take i).map (·.k)).sum + us[i].k := by
          rw [List.take_succ, hu3, List.map_append, List.sum_append]
          simp
        rw [hsum]
        exact ⟨_, rfl, sm6⟩
    · rintro σ H5 ⟨v8, rfl, sm5⟩
      have e : (((as.map V.ref).length : Nat) : Int).toNat = us.length := by rw [List.length_map]; omega
      rw [e, List.take_length]
      walk_at "s"
      have hlt : decide ((us.map (·.k)).sum < 0) = true := decide_eq_true R.sum
      show Q (.bl (decide ((us.map (·.k)).sum < 0))) H5
      rw [hlt]
      exact q H5 fun b u e => sm5 _ _ (sm4 _ _ (sm3 _ _ e))
end
end K30


namespace K30
open PySem L2 WM
theorem sorted_eq : ∀ {as bs : List Int}, as.Pairwise (· ≤ ·) → bs.Pairwise (· ≤ ·) → as.Perm bs → as = bs
  | [], bs, _, _, p => (List.nil_perm.mp p).symm
  | a :: as, [], _, _, p => absurd (p.length_eq) (by simp)
  | a :: as, b :: bs, ha, hb, p => by
    have h1 := List.pairwise_cons.mp ha
    have h2 := List.pairwise_cons.mp hb
    have e : a = b := by
      have m1 : a ∈ b :: bs := p.mem_iff.mp List.mem_cons_self
      have m2 : b ∈ a :: as := p.mem_iff.mpr List.mem_cons_self
      rcases List.mem_cons.mp m1 with m1 | m1
      · exact m1
      · rcases List.mem_cons.mp m2 with m2 | m2
        · exact m2.symm
        · have := h2.1 a m1
          have := h1.1 b m2
          omega
    subst e
    rw [sorted_eq h1.2 h2.2 (List.Perm.cons_inv p)]
theorem dp_ints {K : PySem.W.Frag} {H : Hp} : ∀ ks : List Int, DpAll K H (ks.map V.int) (ks.map PyData.int)
  | [] => .nil
  | k :: ks => .cons (.int k) (dp_ints ks)
theorem depth_ints : ∀ ks : List Int, PyData.depthAll (ks.map PyData.int) ≤ 1
  | [] => by simp [PyData.depthAll]
  | k :: ks => by
    have := depth_ints ks
    simp only [List.map_cons, PyData.depthAll, PyData.depth]
    omega
theorem lay_ints : ∀ ks : List Int, PyData.canLayAll0 (ks.map PyData.int) = true
  | [] => rfl
  | k :: ks => by
    have := lay_ints ks
    simp only [List.map_cons, PyData.canLayAll0, PyData.canLay0, this, Bool.true_and]
theorem shaped_ints (ks : List Int) : SeqAt.shaped (.list (ks.map PyData.int)) = true := by
  have h1 := depth_ints ks
  have h2 : PyData.depth (.list (ks.map PyData.int)) ≤ 64 := by
    simp only [PyData.depth]
    omega
  show (PyData.canLay0 (.list (ks.map PyData.int)) && decide (PyData.depth (.list (ks.map PyData.int)) ≤ 64)) = true
  rw [Bool.and_eq_true]
  exact ⟨by simp only [PyData.canLay0]; exact lay_ints ks, decide_eq_true h2⟩
theorem eqv_ints : ∀ ks : List Int, PyData.eqvAll (ks.map PyData.int) (ks.map PyData.int) = true
  | [] => by simp [PyData.eqvAll]
  | k :: ks => by
    have := eqv_ints ks
    simp only [List.map_cons, PyData.eqvAll, PyData.eqv, this]
    simp
theorem lk_fn {f : Int → Int} {z : Int} : ∀ {ks : List Int}, z ∈ ks → lk (ks.map fun z => (z, f z)) z = some (f z)
  | y :: ks, h => by
    rw [List.map_cons, lk_cons]
    by_cases e : y = z
    · rw [if_pos e]; simp [e]
    · rw [if_neg e]
      rcases List.mem_cons.mp h with h | h
      · exact absurd h.symm e
      · exact lk_fn h
def sp_holds (C : Addr) : Sp := fun vs H Q _ => ∃ (o hd ll : Addr) (wls : List Lim) (S : Nat) (hs : List (Int × Int)) (l : Addr) (ls : List Lim), vs = [.ref o, .ref l] ∧ WA C H o hd ll wls S hs ∧ hs.length ≤ 900 ∧ LL H l ls ∧ ls.length ≤ 400 ∧
  (∀ z, z ∈ hs.map (·.1) ↔ IsPl ls z) ∧ (∀ t ∈ ls, Fits (hf hs) t) ∧ ∀ H', Same H H' → Q (.bl true) H'
section
variable {P : Program} {w : World} {K : PySem.W.Frag} {mg : Str → Option Value} {base : Heap} {C : Addr}
theorem c_holds (T : Bi mg) (D : DefA K mg "_law_holds" s_holds p_holds) (c_law_whole : C8.Cal P w K mg base 1 "_law_whole" sp_whole []) (c_law_due_places : C8.Cal P w K mg base 1 "_law_due_places" sp_due []) (m_heights : C8.Met P w K mg base 1 C "heights" (sp_wheights C) []) : C8.Cal P w K mg base 2 "_law_holds" (sp_holds C) [] := by
  obtain ⟨f, fd, D, b⟩ := D.ex
  refine C8.cal0 D b .nil sc_holds (fun vs H Q E h => ?_) (fun cdv A outer s H vs Q E hr h => ?_)
  · obtain ⟨o, hd, ll, wls, S, hs, l, ls, rfl, _⟩ := h
    rfl
  · obtain ⟨o, hd, ll, wls, S, hs, l, ls, rfl, W, hz9, hL, hz, hpl, hfit, q⟩ := h
    have hu := hu_of hr
    obtain ⟨dx, ho⟩ := W.ob
    obtain ⟨ts, hl, hts⟩ := hL
    have htl := Paired.length hts
    rw [List.length_map] at htl
    refine ⟨_, (pss_cons (ps_set (i := 2) sc_holds.nd rfl (Or.inr rfl) (C8.pe_mt0 m_heights hr (by decide) (pv 0)))
      (C8.pss_cut (ps_if (PW.pt (pw_or (pt_not (pt_val (pe_callB call_isi (by rfl) T.b_isinstance t_isinstance (pa_cons (pv 2) (pa_cons (pe_bltn (v := V.ty "dict") (by rfl) T.b_dict t_dict rfl) pa_nil))))) (pw_or1 (pt_cmpR (op_neD hr.units) (pe_callTy (call_listD rfl) (by rfl) T.b_list t_list (pa_cons (pv 2) pa_nil)) (C8.pe_c c_law_due_places hr (by decide) (by rfl) (pa_cons (pv 1) pa_nil)) (nomark _))))) (pss_one (ps_ret pe_bl)) pss_nil)
      (pss_cons (ps_for PassesOwn.never rfl (pi_list (pe_callTy (call_listD rfl) (by rfl) T.b_list t_list (pa_cons (pv 2) pa_nil))) (pg_name (i := 3) sc_holds.nd rfl (Or.inl rfl)) (pss_one (ps_if (PW.pt (pw_or (pt_not (pt_val (C8.pe_c c_law_whole hr (by decide) (by rfl) (pa_cons (pv 3) pa_nil)))) (pw_or1 (pt_not (pt_val (C8.pe_c c_law_whole hr (by decide) (by rfl) (pa_cons (pe_dget hu (pv 2) (pv 3) (fun _ _ => rfl)) pa_nil))))))) (pss_one (ps_ret pe_bl)) pss_nil)))
      (C8.pss_cut (ps_if (pt_cmpR op_ne (pe_dget hu (pv 2) pe_int (fun _ _ => rfl)) pe_int (nomark _)) (pss_one (ps_ret pe_bl)) pss_nil)
      (C8.pss_cut (ps_if (pt_cmpR op_gt (pe_callB call_len_seq (by rfl) T.b_len t_len (pa_cons (pe_lc (own := [("_law_row", 4)]) (g := gName 4) rfl sc_holds.nd (pi_list (pv 1)) (blkOk_by (N := n_holds) (sc := C8.fnScope s_holds) (by decide +kernel)) (fun _ _ _ _ _ => pg_name (i := 4) sc_holds.nd rfl (Or.inl rfl)) (fun _ _ _ _ _ => pts_one (pt_cmpR op_gt (pe_op op_sub (pe_dget hu (pv 2) (pe_ix (r := rIxT K) ix_tup (pv 4) pe_int (fun _ _ => rfl)) (fun _ _ => rfl)) (pe_dget hu (pv 2) (pe_ix (r := rIxT K) ix_tup (pv 4) pe_int (fun _ _ => rfl)) (fun _ _ => rfl))) (pe_ix (r := rIxT K) ix_tup (pv 4) pe_int (fun _ _ => rfl)) (nomark _))) (fun _ _ _ _ _ => (pv 4))) pa_nil)) pe_int (nomark _)) (pss_one (ps_ret pe_bl)) pss_nil)
      (pss_cons (ps_dput hu (pv 2) pe_int pe_int rfl)
      (pss_cons (ps_dput hu (pv 2) pe_int pe_int rfl)
      (pss_one (ps_ret pe_bl))))))))), ?_⟩
    walk_at "s"
    refine ⟨o, hd, ll, wls, S, hs, rfl, W, hz9, fun d ks H1 hd0 sm1 pk sk hd1 => ?_⟩
    have hmk : ∀ z, z ∈ ks ↔ IsPl ls z := fun z => by rw [pk.mem_iff]; exact hpl z
    have hkl := pk.length_eq
    rw [List.length_map] at hkl
    have hnk : ks.Nodup := pk.nodup_iff.mpr W.nd
    have hlk : ∀ z, IsPl ls z → lk (ks.map fun z => (z, hf hs z - hf hs 0)) z = some (hf hs z - hf hs 0) := fun z hz => lk_fn (f := fun z => hf hs z - hf hs 0) ((hmk z).mpr hz)
    have ek : (dk (ks.map fun z => (z, hf hs z - hf hs 0))).map (fun kv => kV kv.1) = ks.map V.int := by unfold dk; rw [List.map_map, List.map_map]; rfl
    have hl1 := sm1 _ _ hl
    refine ⟨fun σ' H' => σ' = [some (.ref o), some (.ref l), some (.ref d), none, none] ∧ Same H1 H', ?_, ?_⟩
    · walk_at "s"
      refine ⟨_, _, _, _, _, rfl, .ty _, .base (.dK hd1), kit_same K "dict", ?_⟩
      walk_at "s"
      intro p hp
      rw [ek]
      have s2 := same_new (o := .lst (ks.map V.int)) (Same.refl H1) hp
      walk_at "s"
      refine ⟨l, ls, rfl, ⟨ts, s2 _ _ hl1, paired_same s2 (paired_same sm1 hts)⟩, hz, fun d2 ks2 H3 hd20 sm3 so2 hn2 hm2 hd2 hl2 => ?_⟩
      have e2 : ks2 = ks := sorted_eq so2 sk ((List.perm_ext_iff_of_nodup hn2 hnk).mpr fun z => by rw [hm2, hmk])
      subst e2
      refine ⟨.list (ks2.map PyData.int), .list (ks2.map PyData.int), .lst (SqL.of (sm3 _ _ upd_same)) (dp_ints ks2), .lst (SqL.of hd2) (dp_ints ks2), shaped_ints _, shaped_ints _, ?_⟩
      have hev : PyData.eqv (.list (ks2.map PyData.int)) (.list (ks2.map PyData.int)) = true := by
        simp only [PyData.eqv]; exact eqv_ints ks2
      rw [hev]
      walk_at "s"
      exact ⟨rfl, fun b u e => sm3 _ _ (s2 _ _ e)⟩
    rintro σ2 H2 ⟨rfl, sm2⟩
    have hd2 := sm2 _ _ hd1
    walk_at "s"
    intro p hp
    rw [ek]
    have s3 := same_new (o := .lst (ks.map V.int)) (Same.refl H2) hp
    have hp3 := upd_same (H := H2) (a := p) (o := .lst (ks.map V.int))
    have sm3 : Same H1 (L2.upd H2 p (.lst (ks.map V.int))) := fun b u e => s3 _ _ (sm2 _ _ e)
    revert hp3 sm3
    generalize L2.upd H2 p (.lst (ks.map V.int)) = H3
    intro hp3 sm3
    refine ⟨p, rfl, ⟨_, SqL.of hp3⟩, ?_⟩
    refine for_list (xs := ks.map V.int) (fun i σ H4 => ∃ v3 : Option V, σ = [some (.ref o), some (.ref l), some (.ref d), v3, none] ∧ Same H3 H4) ?_ ?_ ?_ ?_
    · exact ⟨none, rfl, Same.refl _⟩
    · rintro i σ H4 _ ⟨v3, rfl, sm4⟩
      exact SqL.of (sm4 _ _ hp3)
    · rintro i x σ H4 hx ⟨v3, rfl, sm4⟩
      rw [List.getElem?_map] at hx
      obtain ⟨z, hz4, rfl⟩ := Option.map_eq_some_iff.mp hx
      have hlz := hlk z ((hmk z).mp (List.mem_of_getElem? hz4))
      have hd4 := sm4 _ _ (sm3 _ _ hd1)
      walk_at "s"
      exact sm4
    rintro σ4 H4 ⟨v3, rfl, sm4⟩
    have hl0 := hlk 0 (.inl rfl)
    have hd4 := sm4 _ _ (sm3 _ _ hd1)
    refine ⟨fun σ' H' => σ' = [some (.ref o), some (.ref l), some (.ref d), v3, none] ∧ Same H3 H', ?_, ?_⟩
    · walk_at "s"
      refine ite2 (fun hb => ?_) (fun hb => ⟨rfl, sm4⟩)
      rw [Int.sub_self] at hb
      simp at hb
    rintro σ5 H5 ⟨rfl, sm5⟩
    have hd5 := sm5 _ _ (sm3 _ _ hd1)
    have hl5 := sm5 _ _ (sm3 _ _ hl1)
    refine ⟨fun σ' H' => σ' = [some (.ref o), some (.ref l), some (.ref d), v3, none] ∧ Same H5 H', ?_, ?_⟩
    · walk_at "s"
      refine fun D1 hD1 => lc_list (xs := ts.map V.ref) (fun i H' => H' D1 = some (.lst []) ∧ Same H5 H') ?_ ?_ ?_ ?_
      · exact ⟨upd_same, same_new (Same.refl _) hD1⟩
      · rintro i H' _ ⟨_, sm⟩
        exact SqL.of (sm _ _ hl5)
      · rintro i x H' hx ⟨hD', sm⟩
        have hi := (List.getElem?_eq_some_iff.mp hx).1
        rw [List.length_map] at hi
        obtain ⟨r, hr2, ht⟩ := paired_get hts (List.getElem?_eq_getElem hi)
        rw [List.getElem?_map, List.getElem?_eq_getElem hi] at hx
        obtain rfl := (Option.some.inj hx).symm
        rw [List.getElem?_map] at hr2
        obtain ⟨t, ht2, rfl⟩ := Option.map_eq_some_iff.mp hr2
        have ht' : H' ts[i] = some (.tup [.int t.x, .int t.y, .int t.k, .int t.l]) := sm _ _ (sm5 _ _ (sm3 _ _ (sm1 _ _ ht)))
        have hd' := sm _ _ hd5
        have htm := List.mem_of_getElem? ht2
        have hlx := hlk t.x (.inr ⟨t, htm, .inl rfl⟩)
        have hly := hlk t.y (.inr ⟨t, htm, .inr rfl⟩)
        have hf := hfit t htm
        unfold Fits at hf
        walk_at "s"
        refine ite2 (fun hb => ?_) (fun hb => ⟨hD', sm⟩)
        have := of_decide_eq_true hb
        omega
      · rintro H6 ⟨hD6, sm6⟩
        walk_at "s"
        exact ⟨rfl, sm6⟩
    rintro σ6 H6 ⟨rfl, sm6⟩
    have hd6 := sm6 _ _ hd5
    walk_at "s"
    refine ⟨d, _, rfl, dput_dk hd6 (by rw [List.length_map]; omega), ?_⟩
    walk_at "s"
    refine ⟨d, _, rfl, dput_dk upd_same (Nat.le_trans (pt_len _ _ _) (by rw [List.length_map]; omega)), ?_⟩
    walk_at "s"
    exact q _ (Same.putn (Same.putn (fun b u e => sm6 _ _ (sm5 _ _ (sm3 _ _ (sm1 _ _ e)))) hd0) hd0)
end
end K30


namespace K30
open PySem L2 WM
theorem Own.at_ {C : Addr} {H H1 : Hp} {o hd ll : Addr} {ls S hs} (h : Own o hd ll H H1) (W : WA C H o hd ll ls S hs) {b : Addr} {u : HO} (e : H b = some u) (h1 : ∀ dx fs, u ≠ .ins C dx fs) (h2 : ∀ k, u ≠ .dK k) (h3 : b ≠ ll) : H1 b = some u := by
  obtain ⟨dx, ho⟩ := W.ob
  exact h b u e (ne_of e ho (h1 _ _)) (ne_of e W.dc (h2 _)) h3
theorem LL.own {C : Addr} {H H1 : Hp} {o hd ll : Addr} {ls S hs} (h : Own o hd ll H H1) (W : WA C H o hd ll ls S hs) {l : Addr} {rs : List Lim} (hl : LL H l rs) (hn : l ≠ ll) : LL H1 l rs := by
  obtain ⟨ts, h1, h2⟩ := hl
  obtain ⟨us, g1, _⟩ := W.lm
  refine ⟨ts, h.at_ W h1 (fun _ _ z => by cases z) (fun _ z => by cases z) hn, paired_imp (fun a r e => h.at_ W e (fun _ _ z => by cases z) (fun _ z => by cases z) (ne_of e g1 (by intro z; cases z))) h2⟩
theorem WA.own {C : Addr} {H H1 : Hp} {o hd ll o2 hd2 ll2 : Addr} {ls S hs ls2 S2 hs2} (h : Own o hd ll H H1) (W : WA C H o hd ll ls S hs) (W2 : WA C H o2 hd2 ll2 ls2 S2 hs2) (n1 : o2 ≠ o) (n2 : hd2 ≠ hd) (n3 : ll2 ≠ ll) : WA C H1 o2 hd2 ll2 ls2 S2 hs2 := by
  obtain ⟨dx, ho⟩ := W.ob
  obtain ⟨us, hl, _⟩ := W.lm
  obtain ⟨dx2, ho2⟩ := W2.ob
  exact { W2 with
    ob := ⟨dx2, h _ _ ho2 n1 (ne_of ho2 W.dc (by intro z; cases z)) (ne_of ho2 hl (by intro z; cases z))⟩
    dc := h _ _ W2.dc (ne_of W2.dc ho (by intro z; cases z)) n2 (ne_of W2.dc hl (by intro z; cases z))
    lm := LL.own h W W2.lm n3 }
theorem WA.lst {C : Addr} {H : Hp} {o hd ll r : Addr} {ls S hs} (W : WA C H o hd ll ls S hs) {xs ys : List V} (hr : H r = some (.lst xs)) (hn : r ≠ ll) : WA C (L2.upd H r (.lst ys)) o hd ll ls S hs := by
  obtain ⟨dx, ho⟩ := W.ob
  obtain ⟨us, hl, hp⟩ := W.lm
  exact { W with
    ob := ⟨dx, (upd_ne (ne_of ho hr (by intro z; cases z))).trans ho⟩
    dc := (upd_ne (ne_of W.dc hr (by intro z; cases z))).trans W.dc
    lm := ⟨us, (upd_ne hn.symm).trans hl, paired_imp (fun a r e => (upd_ne (ne_of e hr (by intro z; cases z))).trans e) hp⟩ }
theorem Own.put {o hd ll r : Addr} {H H1 : Hp} {u : HO} (h : Own o hd ll H H1) (hr : H r = Option.none) : Own o hd ll H (L2.upd H1 r u) := fun b v e h1 h2 h3 => (upd_ne (ne_of_none e hr)).trans (h b v e h1 h2 h3)
theorem Own.ref (o hd ll : Addr) (H : Hp) : Own o hd ll H H := fun b v e _ _ _ => e
theorem Feas.of {L M : List Lim} (F : Feas L) (h : ∀ t ∈ M, t ∈ L) : Feas M := let ⟨f, g⟩ := F; ⟨f, fun t ht => g t (h t ht)⟩
def sp_settled (C : Addr) : Sp := fun vs H Q _ => ∃ (o hd ll : Addr) (wls : List Lim) (S : Nat) (hs : List (Int × Int)) (l : Addr) (ls : List Lim) (p : Bool), vs = [.ref o, .ref l, .bl p] ∧ WA C H o hd ll wls S hs ∧ wls.length ≤ 400 ∧ hs.length ≤ 900 ∧ LL H l ls ∧ l ≠ ll ∧ ls.length ≤ 400 ∧
  (ls.map (·.l)).Nodup ∧ (∀ t, t ∈ wls ↔ t ∈ ls) ∧ (∀ z, z ∈ hs.map (·.1) ↔ IsPl ls z) ∧ (p = true ↔ Feas ls) ∧ ∀ S' hs' H', WA C H' o hd ll wls S' hs' → Own o hd ll H H' → Q (.bl true) H'
section
variable {P : Program} {w : World} {K : PySem.W.Frag} {mg : Str → Option Value} {base : Heap} {C : Addr}
theorem c_settled (N : CT K C) (T : Bi mg) (D : DefA K mg "_law_settled" s_settled p_settled) (c_law_holds : C8.Cal P w K mg base 2 "_law_holds" (sp_holds C) []) (c_law_ring : C8.Cal P w K mg base 2 "_law_ring" sp_lring [])
    (m_settle : C8.Met P w K mg base 3 C "settle" (sp_settle C) []) : C8.Cal P w K mg base 4 "_law_settled" (sp_settled C) [] := by
  obtain ⟨f, fd, D, b⟩ := D.ex
  refine C8.cal0 D b .nil sc_settled (fun vs H Q E h => ?_) (fun cdv A outer s H vs Q E hr h => ?_)
  · obtain ⟨o, hd, ll, wls, S, hs, l, ls, p, rfl, _⟩ := h
    rfl
  · obtain ⟨o, hd, ll, wls, S, hs, l, ls, p, rfl, W, hwz, hz9, hL, hnl, hz, hnd, hmm, hpl, hfe, q⟩ := h
    have hu := hu_of hr
    refine ⟨_, (pss_cons (ps_for PassesOwn.never rfl (pi_range1 (by rfl) T.b_range (pa_cons pe_int pa_nil)) (pg_name (i := 3) sc_settled.nd rfl (Or.inl rfl)) (pss_cons (ps_set (i := 4) sc_settled.nd rfl (Or.inl rfl) (C8.pe_mt0 m_settle hr (by decide) (pv 0)))
          (pss_one (ps_if (pt_val (pv 2)) (pss_one (ps_if (PW.pt (pw_or (pt_cmpR op_notN (pv 4) pe_non (nomark _)) (pw_or (pt_not (pt_val (C8.pe_c c_law_holds hr (by decide) (by rfl) (pa_cons (pv 0) (pa_cons (pv 1) pa_nil))))) (pw_or1 (pt_not (pt_val (C8.pe_c c_law_holds hr (by decide) (by rfl) (pa_cons (pv 0) (pa_cons (pv 1) pa_nil))))))))) (pss_one (ps_ret pe_bl)) pss_nil)) (C8.pss_cut (ps_if (pt_not (pt_val (C8.pe_c c_law_ring hr (by decide) (by rfl) (pa_cons (pv 4) (pa_cons (pv 1) pa_nil))))) (pss_one (ps_ret pe_bl)) pss_nil)
            (pss_one (ps_expr (pe_bm0 PySem.F.plainAttrs_list PySem.F.slot_list_clear PySem.F.type_list_clear mt_clear (pv 4)))))))))
      (pss_one (ps_ret pe_bl))), ?_⟩
    walk_at "s"
    refine for_range (lo := 0) (fun i σ H' => ∃ (S' : Nat) (hs' : List (Int × Int)) (v3 v4 : Option V), σ = [some (.ref o), some (.ref l), some (.bl p), v3, v4] ∧ WA C H' o hd ll wls S' hs' ∧ hs'.map (·.1) = hs.map (·.1) ∧ Own o hd ll H H') ?_ ?_ ?_
    · exact ⟨S, hs, none, none, rfl, W, rfl, Own.ref _ _ _ _⟩
    · rintro i σ H' hi ⟨S', hs', v3, v4, rfl, W', hk, ow⟩
      obtain ⟨dx, ho⟩ := W'.ob
      have hkl := congrArg List.length hk
      rw [List.length_map, List.length_map] at hkl
      walk_at "s"
      refine ⟨o, hd, ll, wls, S', hs', rfl, W', hwz, by omega, fun hs2 H2 W2 hk2 ow2 => ?_, fun S2 hs2 r ns H2 W2 hk2 ow2 hr0 hR hns hr2 => ?_⟩
      · have hfit : ∀ t ∈ ls, Fits (hf hs2) t := fun t ht => by
          obtain ⟨n, hn⟩ := List.mem_iff_getElem?.mp ((hmm t).mpr ht)
          exact W2.ok n t (List.getElem?_eq_some_iff.mp hn).1 hn
        have hp : p = true := hfe.mpr ⟨_, hfit⟩
        subst hp
        have hkl2 := congrArg List.length hk2
        rw [List.length_map, List.length_map] at hkl2
        have hL2 := LL.own (fun b u e h1 h2 h3 => ow2 _ _ (ow _ _ e h1 h2 h3) h1 h2 h3) W hL hnl
        walk_at "s"
        refine ⟨o, hd, ll, wls, _, hs2, l, ls, rfl, W2, by omega, hL2, hz, fun z => by rw [hk2, hk]; exact hpl z, hfit, fun H3 sm3 => ?_⟩
        walk_at "s"
        refine ⟨o, hd, ll, wls, _, hs2, l, ls, rfl, W2.same sm3, by omega, TL.same hL2 sm3, hz, fun z => by rw [hk2, hk]; exact hpl z, hfit, fun H4 sm4 => ?_⟩
        walk_at "s"
        exact ⟨_, hs2, _, _, rfl, (W2.same sm3).same sm4, hk2.trans hk, fun b u e h1 h2 h3 => sm4 _ _ (sm3 _ _ (ow2 _ _ (ow _ _ e h1 h2 h3) h1 h2 h3))⟩
      · have hmem : ∀ u ∈ ns.map (Lf wls), u ∈ wls := fun u hu => by
          obtain ⟨n, hn, rfl⟩ := List.mem_map.mp hu
          exact List.mem_of_getElem? (Lf_at (hns n hn))
        have hp : p = false := by
          cases p with
          | false => rfl
          | true =>
            obtain ⟨f, hf⟩ := hfe.mp rfl
            exact (hR.no fun t ht => hf t ((hmm t).mp (hmem t ht))).elim
        subst hp
        have hL2 := LL.own (fun b u e h1 h2 h3 => ow2 _ _ (ow _ _ e h1 h2 h3) h1 h2 h3) W hL hnl
        have hul : (ns.map (Lf wls)).length ≤ 900 := by
          have h1 := nodup_sub_len (m := hs.map (·.1)) hR.nd (fun z hz => by
            obtain ⟨t, ht, rfl⟩ := List.mem_map.mp hz
            exact (W.xy t (hmem t ht)).1)
          simp only [List.length_map] at h1 ⊢
          omega
        have er : (ns.map fun n => (Lf wls n).l) = (ns.map (Lf wls)).map (·.l) := by rw [List.map_map]; rfl
        rw [er] at hr2
        have hrH : H r = none := ow.none W W' hr0
        have hrl : r ≠ ll := fun z => by
          obtain ⟨us, g, _⟩ := W.lm
          rw [z, g] at hrH; cases hrH
        walk_at "s"
        refine ⟨fun σ' H' => σ' = [some (.ref o), some (.ref l), some (.bl false), some (.int (0 + (i : Int))), some (.ref r)] ∧ Same H2 H', ?_, ?_⟩
        · walk_at "s"
          refine ⟨fun u hu => (hmm u).mp (hmem u hu), hR, hul, fun H3 sm3 => ?_⟩
          walk_at "s"
          exact ⟨rfl, sm3⟩
        · rintro σ' H3 ⟨rfl, sm3⟩
          have hr3 := sm3 _ _ hr2
          walk_at "s"
          refine ⟨r, _, rfl, rfl, hr3, ?_⟩
          refine ⟨S2, hs2, _, _, rfl, (W2.same sm3).lst hr3 hrl, hk2.trans hk, Own.put (fun b u e h1 h2 h3 => sm3 _ _ (ow2 _ _ (ow _ _ e h1 h2 h3) h1 h2 h3)) hrH⟩
    · rintro σ H' ⟨S', hs', v3, v4, rfl, W', hk, ow⟩
      walk_at "s"
      exact q S' hs' H' W' ow
end
end K30


namespace K30
open PySem L2 WM
theorem pe_mk0 {X : Cx} {k j : Nat} {C : Addr} {x : Str} {sp : Sp} {dvs : List V} {p pos : Pos} (c : C8.Mak X.prog X.w X.K X.mg X.base k x C sp dvs) (hr : Room j X.A) (hk : k + 1 ≤ j) (hg : Gl X x) (hdb : (x == ("__debug__" : Str)) = false := by decide) :
    PE X (.Call (.Name x p) [] [] pos) (tMake C sp dvs C8.E0 tNil) := by
  obtain ⟨f, fd, ps, ds, M, F, hm, b, d⟩ := c.ex
  exact pe_make0 M F (hr.mono hk) hg hm b d C8.pass0 hdb
theorem take_snoc {ls : List Lim} {n : Nat} (h : n < ls.length) : ls.take (n + 1) = ls.take n ++ [Lf ls n] := by
  rw [List.take_succ, Lf_at h]; rfl
theorem pl_snoc {ls : List Lim} {t : Lim} {z : Int} : IsPl (ls ++ [t]) z ↔ IsPl ls z ∨ z = t.x ∨ z = t.y := by
  unfold IsPl
  constructor
  · rintro (h | ⟨u, hu, h⟩)
    · exact .inl (.inl h)
    · rcases List.mem_append.mp hu with hu | hu
      · exact .inl (.inr ⟨u, hu, h⟩)
      · rw [List.mem_singleton.mp hu] at h
        exact .inr h
  · rintro ((h | ⟨u, hu, h⟩) | h)
    · exact .inl h
    · exact .inr ⟨u, List.mem_append.mpr (.inl hu), h⟩
    · exact .inr ⟨t, List.mem_append.mpr (.inr (by simp)), h⟩
theorem upd_none' {H : Hp} {a b : Addr} {o : HO} (e : L2.upd H a o b = none) : H b = none := by
  by_cases h : b = a
  · rw [h, upd_same] at e; cases e
  · rw [upd_ne h] at e; exact e
theorem pl_rev {ls : List Lim} {z : Int} : IsPl ls.reverse z ↔ IsPl ls z := by
  unfold IsPl
  simp only [List.mem_reverse]
/-- one of the two Ways, n limits in -/
def Way (C : Addr) (H : Hp) (o hd ll : Addr) (ls : List Lim) (n : Nat) : Prop := ∃ hs, WA C H o hd ll (ls.take n) 0 hs ∧ (∀ z, z ∈ hs.map (·.1) ↔ IsPl (ls.take n) z) ∧ hs.length ≤ 1 + 2 * n
structure Two (C l pr o1 hd1 ll1 o2 hd2 ll2 : Addr) (ls : List Lim) (n1 n2 : Nat) (H : Hp) : Prop where
  w1 : Way C H o1 hd1 ll1 ls n1
  w2 : Way C H o2 hd2 ll2 ls.reverse n2
  rl : LL H l ls
  pp : H pr = some (.lst [.ref o1, .ref o2])
  nl1 : l ≠ ll1
  nl2 : l ≠ ll2
  np1 : pr ≠ ll1
  np2 : pr ≠ ll2
  no : o1 ≠ o2
  nh : hd1 ≠ hd2
  nk : ll1 ≠ ll2
theorem Way.step {C : Addr} {H H' : Hp} {o hd ll : Addr} {ls : List Lim} {n : Nat} {hs hs' : List (Int × Int)} (hn : n < ls.length) (W : WA C H o hd ll (ls.take n) 0 hs) (hk : ∀ z, z ∈ hs.map (·.1) ↔ IsPl (ls.take n) z) (hl : hs.length ≤ 1 + 2 * n)
    (W' : WA C H' o hd ll (ls.take n ++ [Lf ls n]) 0 hs') (hk' : ∀ z, z ∈ hs'.map (·.1) ↔ z ∈ hs.map (·.1) ∨ z = (Lf ls n).x ∨ z = (Lf ls n).y) : Way C H' o hd ll ls (n + 1) := by
  refine ⟨hs', by rw [take_snoc hn]; exact W', fun z => by rw [take_snoc hn, pl_snoc, hk', hk], ?_⟩
  have := nodup_sub_len (m := hs.map (·.1) ++ [(Lf ls n).x, (Lf ls n).y]) W'.nd (fun z hz => by
    rcases (hk' z).mp hz with h | h
    · exact List.mem_append.mpr (.inl h)
    · exact List.mem_append.mpr (.inr (by simpa using h)))
  rw [List.length_append, List.length_map, List.length_map] at this
  simp at this
  omega
theorem Two.step1 {C l pr o1 hd1 ll1 o2 hd2 ll2 : Addr} {ls : List Lim} {n1 n2 : Nat} {H H' : Hp} (T : Two C l pr o1 hd1 ll1 o2 hd2 ll2 ls n1 n2 H) {S hs ws} (W : WA C H o1 hd1 ll1 ws S hs) (h : Own o1 hd1 ll1 H H') {m : Nat} (w : Way C H' o1 hd1 ll1 ls m) : Two C l pr o1 hd1 ll1 o2 hd2 ll2 ls m n2 H' :=
  { T with
    w1 := w
    w2 := (let ⟨hs2, a, b, c⟩ := T.w2; ⟨hs2, WA.own h W a T.no.symm T.nh.symm T.nk.symm, b, c⟩)
    rl := LL.own h W T.rl T.nl1
    pp := h.at_ W T.pp (fun _ _ z => by cases z) (fun _ z => by cases z) T.np1 }
theorem Two.step2 {C l pr o1 hd1 ll1 o2 hd2 ll2 : Addr} {ls : List Lim} {n1 n2 : Nat} {H H' : Hp} (T : Two C l pr o1 hd1 ll1 o2 hd2 ll2 ls n1 n2 H) {S hs ws} (W : WA C H o2 hd2 ll2 ws S hs) (h : Own o2 hd2 ll2 H H') {m : Nat} (w : Way C H' o2 hd2 ll2 ls.reverse m) : Two C l pr o1 hd1 ll1 o2 hd2 ll2 ls n1 m H' :=
  { T with
    w2 := w
    w1 := (let ⟨hs2, a, b, c⟩ := T.w1; ⟨hs2, WA.own h W a T.no T.nh T.nk, b, c⟩)
    rl := LL.own h W T.rl T.nl2
    pp := h.at_ W T.pp (fun _ _ z => by cases z) (fun _ z => by cases z) T.np2 }
theorem Two.same {C l pr o1 hd1 ll1 o2 hd2 ll2 : Addr} {ls : List Lim} {n1 n2 : Nat} {H H' : Hp} (T : Two C l pr o1 hd1 ll1 o2 hd2 ll2 ls n1 n2 H) (s : Same H H') : Two C l pr o1 hd1 ll1 o2 hd2 ll2 ls n1 n2 H' :=
  { T with
    w1 := (let ⟨hs2, a, b, c⟩ := T.w1; ⟨hs2, a.same s, b, c⟩)
    w2 := (let ⟨hs2, a, b, c⟩ := T.w2; ⟨hs2, a.same s, b, c⟩)
    rl := TL.same T.rl s
    pp := s _ _ T.pp }
theorem Lf_rev {ls : List Lim} {k : Nat} (h : k < ls.length) : Lf ls.reverse k = Lf ls (ls.length - 1 - k) := by
  unfold Lf
  rw [List.getD_eq_getElem?_getD, List.getD_eq_getElem?_getD, List.getElem?_reverse h]
def sp_law (K : PySem.W.Frag) : Sp := fun vs H Q _ => ∃ (a : Addr) (ns : List Int), vs = [.ref a] ∧ Scr K H a ns ∧ ∀ H', Q (.bl true) H'
section
variable {P : Program} {w : World} {K : PySem.W.Frag} {mg : Str → Option Value} {base : Heap} {C : Addr}
theorem ok_law {f : Addr} {fd : FuncData} (F : C8.Fun K "law" "law" s_law f fd) (T : Bi mg) (c_Ways : C8.Mak P w K mg base 1 "Ways" C (sp_init C) []) (m_limit : C8.Met P w K mg base 1 C "limit" (sp_limit C) []) (m_limits : C8.Met P w K mg base 1 C "limits" (sp_limits C) [])
    (c_law_drawn : C8.Cal P w K mg base 4 "_law_drawn" (sp_drawn K) []) (c_law_whole : C8.Cal P w K mg base 1 "_law_whole" sp_whole []) (c_law_due_places : C8.Cal P w K mg base 1 "_law_due_places" sp_due []) (c_law_heights : C8.Cal P w K mg base 1 "_law_heights" sp_heights [])
    (c_law_settled : C8.Cal P w K mg base 4 "_law_settled" (sp_settled C) []) : FnOk P w K mg base C8.CX0 5 f fd p_law (sp_law K) := by
  refine C8.fn0 F sc_law (fun vs H Q E h => ?_) (fun cdv A outer s H vs Q E hr h => ?_)
  · obtain ⟨a, ns, rfl, _⟩ := h
    rfl
  · obtain ⟨a, ns, rfl, hS, q⟩ := h
    have hu := hu_of hr
    refine ⟨_, (pss_cons (ps_set (i := 1) sc_law.nd rfl (Or.inl rfl) (C8.pe_c c_law_drawn hr (by decide) (by rfl) (pa_cons (pv 0) pa_nil)))
      (pss_cons (ps_set (i := 2) sc_law.nd rfl (Or.inl rfl) (C8.pe_c c_law_heights hr (by decide) (by rfl) (pa_cons (pv 1) (pa_cons (C8.pe_c c_law_due_places hr (by decide) (by rfl) (pa_cons (pv 1) pa_nil)) pa_nil))))
      (pss_cons (ps_set (i := 3) sc_law.nd rfl (Or.inl rfl) (pe_lst (pa_cons (pe_mk0 c_Ways hr (by decide) (by rfl)) (pa_cons (pe_mk0 c_Ways hr (by decide) (by rfl)) pa_nil))))
      (pss_cons (ps_for PassesOwn.never rfl (pi_range1 (by rfl) T.b_range (pa_cons (pe_callB call_len_seq (by rfl) T.b_len t_len (pa_cons (pv 1) pa_nil)) pa_nil)) (pg_name (i := 4) sc_law.nd rfl (Or.inl rfl)) (pss_one (ps_for PassesOwn.never rfl (pi_range1 (by rfl) T.b_range (pa_cons pe_int pa_nil)) (pg_name (i := 5) sc_law.nd rfl (Or.inl rfl)) (pss_cons (ps_set (i := 6) sc_law.nd rfl (Or.inl rfl) (pe_ix ix_list (pv 1) (pv 4) (fun _ _ => rfl)))
            (C8.pss_cut (ps_if (pt_cmpR op_eq (pv 5) pe_int (nomark _)) (pss_one (ps_set (i := 6) sc_law.nd rfl (Or.inl rfl) (pe_ix ix_list (pv 1) (pe_op op_sub (pe_op op_sub (pe_callB call_len_seq (by rfl) T.b_len t_len (pa_cons (pv 1) pa_nil)) pe_int) (pv 4)) (fun _ _ => rfl)))) pss_nil)
            (pss_cons (ps_set (i := 7) sc_law.nd rfl (Or.inl rfl) (pe_ix ix_list (pv 3) (pv 5) (fun _ _ => rfl)))
            (C8.pss_cut (ps_if (pt_cmpR op_notN (C8.pe_mt m_limit hr (by decide) (pv 7) (pa_cons (pe_ix ix_tup (pv 6) pe_int (fun _ _ => rfl)) (pa_cons (pe_ix ix_tup (pv 6) pe_int (fun _ _ => rfl)) (pa_cons (pe_ix ix_tup (pv 6) pe_int (fun _ _ => rfl)) (pa_cons (pe_ix ix_tup (pv 6) pe_int (fun _ _ => rfl)) pa_nil))))) pe_non (nomark _)) (pss_one (ps_ret pe_bl)) pss_nil)
            (pss_cons (ps_set (i := 8) sc_law.nd rfl (Or.inl rfl) (C8.pe_mt0 m_limits hr (by decide) (pv 7)))
            (pss_one (ps_if (PW.pt (pw_or (pt_not (pt_val (C8.pe_c c_law_whole hr (by decide) (by rfl) (pa_cons (pv 8) pa_nil)))) (pw_or1 (pt_cmpR op_ne (pv 8) (pe_op op_add (pv 4) pe_int) (nomark _))))) (pss_one (ps_ret pe_bl)) pss_nil))))))))))
      (pss_cons (ps_for PassesOwn.never rfl (pi_list (pv 3)) (pg_name (i := 7) sc_law.nd rfl (Or.inl rfl)) (pss_one (ps_if (pt_not (pt_val (C8.pe_c c_law_settled hr (by decide) (by rfl) (pa_cons (pv 7) (pa_cons (pv 1) (pa_cons (pv 2) pa_nil)))))) (pss_one (ps_ret pe_bl)) pss_nil)))
      (pss_one (ps_ret pe_bl))))))), ?_⟩
    walk_at "s"
    intro l ls H1 hl0 sm1 hL hlz hnd
    walk_at "s"
    intro d ks H2 hd0 sm2 sk nk hmk hd hkl
    have hL2 := TL.same hL sm2
    refine ⟨l, d, ls, ks, rfl, hL2, by omega, hd, nk, by omega, fun t ht => ⟨(hmk _).mpr (.inr ⟨t, ht, .inl rfl⟩), (hmk _).mpr (.inr ⟨t, ht, .inr rfl⟩)⟩, fun bp H3 sm3 hbp => ?_⟩
    have hL3 := TL.same hL2 sm3
    walk_at "s"
    intro o1 dx1 ho1 hdx1 hne1
    refine ⟨o1, dx1, rfl, upd_same, fun hd1 ll1 H4 hhd1 hll1 hn1 W1 fr1 => ⟨rfl, ?_⟩⟩
    have sm4 : Same H3 H4 := fun b u e => fr1 b u ((upd_ne (ne_of_none e ho1)).trans ((upd_ne (ne_of_none e hdx1)).trans e)) (ne_of_none e ho1)
    intro o2 dx2 ho2 hdx2 hne2
    refine ⟨o2, dx2, rfl, upd_same, fun hd2 ll2 H5 hhd2 hll2 hn2 W2 fr2 => ⟨rfl, ?_⟩⟩
    have sm5 : Same H4 H5 := fun b u e => fr2 b u ((upd_ne (ne_of_none e ho2)).trans ((upd_ne (ne_of_none e hdx2)).trans e)) (ne_of_none e ho2)
    have both : ∀ {H8 : Hp} {x y z : Addr} {u v : HO}, L2.upd (L2.upd H8 x u) y v z = none → H8 z = none := fun {H8 x y z u v} e => by
      have h1 := upd_none' e
      exact upd_none' h1
    have hL4 := TL.same hL3 sm4
    have hL5 := TL.same hL4 sm5
    obtain ⟨ts, hl5, hts5⟩ := hL5
    obtain ⟨ts3, hl3, _⟩ := hL3
    obtain ⟨ts4, hl4, _⟩ := hL4
    obtain ⟨ex1, hob1⟩ := W1.ob
    obtain ⟨us1, hlm1, _⟩ := W1.lm
    have nl1 : l ≠ ll1 := ne_of_none hl3 (both hll1)
    have nl2 : l ≠ ll2 := ne_of_none hl4 (both hll2)
    have no : o1 ≠ o2 := ne_of_none hob1 ho2
    have nh : hd1 ≠ hd2 := ne_of_none W1.dc (both hhd2)
    have nk : ll1 ≠ ll2 := ne_of_none hlm1 (both hll2)
    have htl := Paired.length hts5
    rw [List.length_map] at htl
    walk_at "s"
    intro pr hpr
    have W15 := W1.same sm5
    obtain ⟨_, hlm15, _⟩ := W15.lm
    obtain ⟨_, hlm25, _⟩ := W2.lm
    have T0 : Two C l pr o1 hd1 ll1 o2 hd2 ll2 ls 0 0 (L2.upd H5 pr (.lst [.ref o1, .ref o2])) := {
      w1 := ⟨_, W15.same (same_new (Same.refl _) hpr), fun z => by simp [IsPl], by simp⟩
      w2 := ⟨_, W2.same (same_new (Same.refl _) hpr), fun z => by simp [IsPl], by simp⟩
      rl := TL.same ⟨ts, hl5, hts5⟩ (same_new (Same.refl _) hpr)
      pp := upd_same
      nl1 := nl1
      nl2 := nl2
      np1 := (ne_of_none hlm15 hpr).symm
      np2 := (ne_of_none hlm25 hpr).symm
      no := no
      nh := nh
      nk := nk }
    revert T0
    generalize L2.upd H5 pr (.lst [.ref o1, .ref o2]) = H6
    intro T0
    obtain ⟨ts6, hl6, hts6⟩ := T0.rl
    have htl6 := Paired.length hts6
    rw [List.length_map] at htl6
    have hbound : (((ts6.map V.ref).length : Nat) : Int) < 2 ^ 62 := by rw [List.length_map]; omega
    walk_at "s"
    refine for_range (lo := 0) (fun k σ H' => ∃ (v4 v5 v6 v7 v8 : Option V), σ = [some (.ref a), some (.ref l), some (.bl bp), some (.ref pr), v4, v5, v6, v7, v8] ∧ Two C l pr o1 hd1 ll1 o2 hd2 ll2 ls k k H') ?_ ?_ ?_
    · exact ⟨none, none, none, none, none, rfl, T0⟩
    · rintro k σ H' hk ⟨v4, v5, v6, v7, v8, rfl, T2⟩
      have hk9 : k < ls.length := by
        rw [List.length_map] at hk
        omega
      walk_at "s"
      refine for_range (lo := 0) (fun j σ H' => ∃ (v5 v6 v7 v8 : Option V), σ = [some (.ref a), some (.ref l), some (.bl bp), some (.ref pr), some (.int (0 + (k : Int))), v5, v6, v7, v8] ∧ Two C l pr o1 hd1 ll1 o2 hd2 ll2 ls (if j = 0 then k else k + 1) (if j = 2 then k + 1 else k) H') ?_ ?_ ?_
      · exact ⟨_, _, _, _, rfl, T2⟩
      · rintro j σ H' hj ⟨v5, v6, v7, v8, rfl, T3⟩
        have hj2 : j = 0 ∨ j = 1 := by omega
        obtain ⟨ts7, hl7, hts7⟩ := T3.rl
        have htl7 := Paired.length hts7
        rw [List.length_map] at htl7
        have rowat : ∀ n, n < ls.length → ∃ t, ts7[n]? = some t ∧ H' t = some (.tup [.int (Lf ls n).x, .int (Lf ls n).y, .int (Lf ls n).k, .int (Lf ls n).l]) := fun n hn => by
          obtain ⟨r, hr2, ht⟩ := paired_get hts7 (List.getElem?_eq_getElem (show n < ts7.length by omega))
          rw [List.getElem?_map, Lf_at hn] at hr2
          obtain rfl := Option.some.inj hr2
          exact ⟨_, List.getElem?_eq_getElem (show n < ts7.length by omega), ht⟩
        have hpp := T3.pp
        obtain ⟨tr0, htr0, _⟩ := rowat k hk9
        have hat0 : atI (ts7.map V.ref) (0 + (k : Int)) = some (.ref tr0) := by
          rw [Int.zero_add]
          exact atI_nat (by rw [List.getElem?_map, htr0]; rfl)
        have key : ∃ (o hd ll : Addr) (wls : List Lim) (hs : List (Int × Int)) (t : Lim) (tr : Addr), atI [V.ref o1, V.ref o2] (0 + (j : Int)) = some (.ref o) ∧ H' tr = some (.tup [.int t.x, .int t.y, .int t.k, .int t.l]) ∧ (j = 0 → tr = tr0) ∧
            (j = 1 → atI (ts7.map V.ref) ((((ts7.map V.ref).length : Nat) : Int) - 1 - (0 + (k : Int))) = some (.ref tr)) ∧ WA C H' o hd ll wls 0 hs ∧ wls.length = k ∧ hs.length ≤ 1 + 2 * k ∧
            ∀ hs' H'', WA C H'' o hd ll (wls ++ [t]) 0 hs' → (∀ z, z ∈ hs'.map (·.1) ↔ z ∈ hs.map (·.1) ∨ z = t.x ∨ z = t.y) → Own o hd ll H' H'' → Two C l pr o1 hd1 ll1 o2 hd2 ll2 ls (if j + 1 = 0 then k else k + 1) (if j + 1 = 2 then k + 1 else k) H'' := by
          rcases hj2 with rfl | rfl
          · have T4 : Two C l pr o1 hd1 ll1 o2 hd2 ll2 ls k k H' := T3
            obtain ⟨hs, W, hk8, hl8⟩ := T4.w1
            obtain ⟨t, ht1, ht2⟩ := rowat k hk9
            refine ⟨o1, hd1, ll1, _, hs, Lf ls k, t, rfl, ht2, fun _ => ?_, (fun z => by cases z), W, by rw [List.length_take]; omega, hl8, fun hs' H'' W' hk' ow' => ?_⟩
            · rw [htr0] at ht1; exact (Option.some.inj ht1).symm
            · exact T4.step1 W ow' (Way.step hk9 W hk8 hl8 W' hk')
          · have T4 : Two C l pr o1 hd1 ll1 o2 hd2 ll2 ls (k + 1) k H' := T3
            obtain ⟨hs, W, hk8, hl8⟩ := T4.w2
            obtain ⟨t, ht1, ht2⟩ := rowat (ls.length - 1 - k) (by omega)
            refine ⟨o2, hd2, ll2, _, hs, Lf ls.reverse k, t, rfl, by rw [Lf_rev hk9]; exact ht2, (fun z => by cases z), fun _ => ?_, W, by rw [List.length_take, List.length_reverse]; omega, hl8, fun hs' H'' W' hk' ow' => ?_⟩
            · have e : (((ts7.map V.ref).length : Nat) : Int) - 1 - (0 + (k : Int)) = ((ls.length - 1 - k : Nat) : Int) := by rw [List.length_map]; omega
              rw [e]
              exact atI_nat (by rw [List.getElem?_map, ht1]; rfl)
            · exact T4.step2 W ow' (Way.step (by rw [List.length_reverse]; exact hk9) W hk8 hl8 W' hk')
        obtain ⟨o, hd9, ll9, wls, hs, t, tr, hato, htr, hj0, hj1, W, hwl, hhl, fin⟩ := key
        walk_at "s"
        refine ⟨fun σ' H9 => σ' = [some (.ref a), some (.ref l), some (.bl bp), some (.ref pr), some (.int (0 + (k : Int))), some (.int (0 + (j : Int))), some (.ref tr), v7, v8] ∧ H9 = H', ?_, ?_⟩
        · walk_at "s"
          refine ite2 (fun hb => ?_) (fun hb => ?_)
          · have e := V.int.inj (of_decide_eq_true hb)
            have hj9 : j = 1 := by omega
            have hat1 := hj1 hj9
            walk_at "s"
            exact ⟨rfl, rfl⟩
          · have hj9 : j = 0 := by
              rcases hj2 with h | h
              · exact h
              · exact absurd (decide_eq_true (by rw [h]; rfl)) hb
            rw [hj0 hj9]
            exact ⟨rfl, rfl⟩
        rintro σ9 H9 ⟨rfl, rfl⟩
        walk_at "s"
        refine ⟨fun σ' H8 => σ' = [some (.ref a), some (.ref l), some (.bl bp), some (.ref pr), some (.int (0 + (k : Int))), some (.int (0 + (j : Int))), some (.ref tr), some (.ref o), v8] ∧ (∃ hs', WA C H8 o hd9 ll9 (wls ++ [t]) 0 hs') ∧ Two C l pr o1 hd1 ll1 o2 hd2 ll2 ls (if j + 1 = 0 then k else k + 1) (if j + 1 = 2 then k + 1 else k) H8, ?_, ?_⟩
        · obtain ⟨ex9, hob9⟩ := W.ob
          walk_at "s"
          refine ⟨o, hd9, ll9, wls, 0, hs, t, rfl, W, by omega, by omega, fun hs' H8 W8 k8 ow8 => ?_⟩
          walk_at "s"
          exact ⟨rfl, ⟨hs', W8⟩, fin hs' H8 W8 k8 ow8⟩
        rintro σ8 H8 ⟨rfl, ⟨hs', W8⟩, T8⟩
        obtain ⟨ex8, hob8⟩ := W8.ob
        walk_at "s"
        refine ⟨o, hd9, ll9, _, _, hs', rfl, W8, ?_⟩
        walk_at "s"
        have hlen : (((wls ++ [t]).length : Nat) : Int) = 0 + (k : Int) + 1 := by
          rw [List.length_append, hwl, List.length_singleton]; omega
        refine ite2 (fun hb => ?_) (fun hb => ⟨_, _, _, _, rfl, T8⟩)
        rw [hlen] at hb
        simp at hb
      · rintro σ H' ⟨v5, v6, v7, v8, rfl, T3⟩
        exact ⟨_, _, _, _, _, rfl, T3⟩
    · rintro σ H' ⟨v4, v5, v6, v7, v8, rfl, T2⟩
      have en : (((ts6.map V.ref).length : Nat) : Int).toNat = ls.length := by rw [List.length_map]; omega
      rw [en] at T2
      have hpp := T2.pp
      walk_at "s"
      refine for_list (xs := [V.ref o1, V.ref o2]) (fun j σ H8 => ∃ v7 : Option V, σ = [some (.ref a), some (.ref l), some (.bl bp), some (.ref pr), v4, v5, v6, v7, v8] ∧ H8 pr = some (.lst [V.ref o1, V.ref o2]) ∧ (j = 0 → Two C l pr o1 hd1 ll1 o2 hd2 ll2 ls ls.length ls.length H8) ∧ (j = 1 → Way C H8 o2 hd2 ll2 ls.reverse ls.length ∧ LL H8 l ls)) ?_ ?_ ?_ ?_
      · exact ⟨_, rfl, hpp, fun _ => T2, (fun z => by cases z)⟩
      · rintro j σ H8 _ ⟨v7, rfl, hp8, _⟩
        exact SqL.of hp8
      · rintro j x σ H8 hx ⟨v7, rfl, hp8, hT0, hT1⟩
        have hj : j < 2 := (List.getElem?_eq_some_iff.mp hx).1
        have hj2 : j = 0 ∨ j = 1 := by omega
        rcases hj2 with rfl | rfl
        · obtain rfl := Option.some.inj hx
          have T9 := hT0 rfl
          obtain ⟨hs, W, hk8, hl8⟩ := T9.w1
          rw [List.take_length] at W hk8
          walk_at "s"
          refine ⟨o1, hd1, ll1, ls, 0, hs, l, ls, bp, rfl, W, by omega, by omega, T9.rl, T9.nl1, by omega, hnd, fun t => Iff.rfl, hk8, hbp, fun S' hs' H9 W9 ow9 => ?_⟩
          have hpp9 := ow9.at_ W T9.pp (fun _ _ z => by cases z) (fun _ z => by cases z) T9.np1
          have hLL9 := LL.own ow9 W T9.rl T9.nl1
          have hw9 : Way C H9 o2 hd2 ll2 ls.reverse ls.length := let ⟨hs2, a, b, c⟩ := T9.w2; ⟨hs2, WA.own ow9 W a T9.no.symm T9.nh.symm T9.nk.symm, b, c⟩
          walk_at "s"
          exact fun _ => ⟨hw9, hLL9⟩
        · obtain rfl := Option.some.inj hx
          obtain ⟨hw, hLL⟩ := hT1 rfl
          obtain ⟨hs, W, hk8, hl8⟩ := hw
          rw [List.take_of_length_le (by rw [List.length_reverse]; exact Nat.le_refl _)] at W hk8
          walk_at "s"
          refine ⟨o2, hd2, ll2, ls.reverse, 0, hs, l, ls, bp, rfl, W, by rw [List.length_reverse]; omega, by omega, hLL, nl2, by omega, hnd, fun t => List.mem_reverse, fun z => by rw [hk8, pl_rev], hbp, fun S' hs' H9 W9 ow9 => ?_⟩
          have hpp9 := ow9.at_ W hp8 (fun _ _ z => by cases z) (fun _ z => by cases z) T2.np2
          walk_at "s"
          exact fun z => by cases z
      · rintro σ H8 ⟨v7, rfl, hp8, _⟩
        walk_at "s"
        exact q H8
end
end K30

namespace K30
open PySem L2 WM
theorem all_mk {l : PySem.W.OpenLaw} {w : World} {K : PySem.W.Frag} {h : Heap} {mg : Str → Option Value} {fa C f0 f1 f2 f3 f4 f5 f6 f7 f8 f9 f10 f11 f12 f13 f14 f15 f16 f17 f18 f19 f20 f21 f22 f23 f24 : Addr} (X : K.In h) (G : h.Ns mainGlobals mg) (hfa : mg "law" = some (.ref fa))
    {od0 an0 : Option Addr} {sl0 : Array (Option Value)} {oc0 kV0 dc0 pm0 cd0 ct0 : Value}
    {od1 an1 : Option Addr} {sl1 : Array (Option Value)} {oc1 kV1 dc1 pm1 cd1 ct1 : Value}
    {od2 an2 : Option Addr} {sl2 : Array (Option Value)} {oc2 kV2 dc2 pm2 cd2 ct2 : Value}
    {od3 an3 : Option Addr} {sl3 : Array (Option Value)} {oc3 kV3 dc3 pm3 cd3 ct3 : Value}
    {od4 an4 : Option Addr} {sl4 : Array (Option Value)} {oc4 kV4 dc4 pm4 cd4 ct4 : Value}
    {od5 an5 : Option Addr} {sl5 : Array (Option Value)} {oc5 kV5 dc5 pm5 cd5 ct5 : Value}
    {od6 an6 : Option Addr} {sl6 : Array (Option Value)} {oc6 kV6 dc6 pm6 cd6 ct6 : Value}
    {od7 an7 : Option Addr} {sl7 : Array (Option Value)} {oc7 kV7 dc7 pm7 cd7 ct7 : Value}
    {od8 an8 : Option Addr} {sl8 : Array (Option Value)} {oc8 kV8 dc8 pm8 cd8 ct8 : Value}
    {od9 an9 : Option Addr} {sl9 : Array (Option Value)} {oc9 kV9 dc9 pm9 cd9 ct9 : Value}
    {od10 an10 : Option Addr} {sl10 : Array (Option Value)} {oc10 kV10 dc10 pm10 cd10 ct10 : Value}
    {od11 an11 : Option Addr} {sl11 : Array (Option Value)} {oc11 kV11 dc11 pm11 cd11 ct11 : Value}
    {od12 an12 : Option Addr} {sl12 : Array (Option Value)} {oc12 kV12 dc12 pm12 cd12 ct12 : Value}
    {od13 an13 : Option Addr} {sl13 : Array (Option Value)} {oc13 kV13 dc13 pm13 cd13 ct13 : Value}
    {od14 an14 : Option Addr} {sl14 : Array (Option Value)} {oc14 kV14 dc14 pm14 cd14 ct14 : Value}
    {od15 an15 : Option Addr} {sl15 : Array (Option Value)} {oc15 kV15 dc15 pm15 cd15 ct15 : Value}
    {od16 an16 : Option Addr} {sl16 : Array (Option Value)} {oc16 kV16 dc16 pm16 cd16 ct16 : Value}
    {od17 an17 : Option Addr} {sl17 : Array (Option Value)} {oc17 kV17 dc17 pm17 cd17 ct17 : Value}
    {od18 an18 : Option Addr} {sl18 : Array (Option Value)} {oc18 kV18 dc18 pm18 cd18 ct18 : Value}
    {od19 an19 : Option Addr} {sl19 : Array (Option Value)} {oc19 kV19 dc19 pm19 cd19 ct19 : Value}
    {od20 an20 : Option Addr} {sl20 : Array (Option Value)} {oc20 kV20 dc20 pm20 cd20 ct20 : Value}
    {od21 an21 : Option Addr} {sl21 : Array (Option Value)} {oc21 kV21 dc21 pm21 cd21 ct21 : Value}
    {od22 an22 : Option Addr} {sl22 : Array (Option Value)} {oc22 kV22 dc22 pm22 cd22 ct22 : Value}
    {od23 an23 : Option Addr} {sl23 : Array (Option Value)} {oc23 kV23 dc23 pm23 cd23 ct23 : Value}
    {od24 an24 : Option Addr} {sl24 : Array (Option Value)} {oc24 kV24 dc24 pm24 cd24 ct24 : Value}
    (a0 : PySem.W.findIn K (.ref C) "__init__" = some (some (.ref f0))) (i0 : PySem.W.isFn K (.ref f0) = true)
    (l0 : K.lookup f0 = some ⟨oc0, od0, .func (PySem.W.fnOf "__init__" "Ways.__init__" (C8.fnArgs s_init) (C8.fnBody s_init) (C8.fnScope s_init) .none kV0 dc0 pm0 an0 cd0 ct0), sl0⟩) (c0 : PySem.W.codeIn K cd0 "Ways.__init__" = true) (k0 : PySem.W.keepIn K (.ref f0) = true)
    (a1 : PySem.W.findIn K (.ref C) "limit" = some (some (.ref f1))) (i1 : PySem.W.isFn K (.ref f1) = true)
    (l1 : K.lookup f1 = some ⟨oc1, od1, .func (PySem.W.fnOf "limit" "Ways.limit" (C8.fnArgs s_limit) (C8.fnBody s_limit) (C8.fnScope s_limit) .none kV1 dc1 pm1 an1 cd1 ct1), sl1⟩) (c1 : PySem.W.codeIn K cd1 "Ways.limit" = true) (k1 : PySem.W.keepIn K (.ref f1) = true)
    (a2 : PySem.W.findIn K (.ref C) "limits" = some (some (.ref f2))) (i2 : PySem.W.isFn K (.ref f2) = true)
    (l2 : K.lookup f2 = some ⟨oc2, od2, .func (PySem.W.fnOf "limits" "Ways.limits" (C8.fnArgs s_limits) (C8.fnBody s_limits) (C8.fnScope s_limits) .none kV2 dc2 pm2 an2 cd2 ct2), sl2⟩) (c2 : PySem.W.codeIn K cd2 "Ways.limits" = true) (k2 : PySem.W.keepIn K (.ref f2) = true)
    (a3 : PySem.W.findIn K (.ref C) "heights" = some (some (.ref f3))) (i3 : PySem.W.isFn K (.ref f3) = true)
    (l3 : K.lookup f3 = some ⟨oc3, od3, .func (PySem.W.fnOf "heights" "Ways.heights" (C8.fnArgs s_wheights) (C8.fnBody s_wheights) (C8.fnScope s_wheights) .none kV3 dc3 pm3 an3 cd3 ct3), sl3⟩) (c3 : PySem.W.codeIn K cd3 "Ways.heights" = true) (k3 : PySem.W.keepIn K (.ref f3) = true)
    (a4 : PySem.W.findIn K (.ref C) "settle" = some (some (.ref f4))) (i4 : PySem.W.isFn K (.ref f4) = true)
    (l4 : K.lookup f4 = some ⟨oc4, od4, .func (PySem.W.fnOf "settle" "Ways.settle" (C8.fnArgs s_settle) (C8.fnBody s_settle) (C8.fnScope s_settle) .none kV4 dc4 pm4 an4 cd4 ct4), sl4⟩) (c4 : PySem.W.codeIn K cd4 "Ways.settle" = true) (k4 : PySem.W.keepIn K (.ref f4) = true)
    (a5 : PySem.W.findIn K (.ref C) "_settle_next" = some (some (.ref f5))) (i5 : PySem.W.isFn K (.ref f5) = true)
    (l5 : K.lookup f5 = some ⟨oc5, od5, .func (PySem.W.fnOf "_settle_next" "Ways._settle_next" (C8.fnArgs s_next) (C8.fnBody s_next) (C8.fnScope s_next) .none kV5 dc5 pm5 an5 cd5 ct5), sl5⟩) (c5 : PySem.W.codeIn K cd5 "Ways._settle_next" = true) (k5 : PySem.W.keepIn K (.ref f5) = true)
    (a6 : PySem.W.findIn K (.ref C) "_leading" = some (some (.ref f6))) (i6 : PySem.W.isFn K (.ref f6) = true)
    (l6 : K.lookup f6 = some ⟨oc6, od6, .func (PySem.W.fnOf "_leading" "Ways._leading" (C8.fnArgs s_leading) (C8.fnBody s_leading) (C8.fnScope s_leading) .none kV6 dc6 pm6 an6 cd6 ct6), sl6⟩) (c6 : PySem.W.codeIn K cd6 "Ways._leading" = true) (k6 : PySem.W.keepIn K (.ref f6) = true)
    (a7 : PySem.W.findIn K (.ref C) "_falls" = some (some (.ref f7))) (i7 : PySem.W.isFn K (.ref f7) = true)
    (l7 : K.lookup f7 = some ⟨oc7, od7, .func (PySem.W.fnOf "_falls" "Ways._falls" (C8.fnArgs s_falls) (C8.fnBody s_falls) (C8.fnScope s_falls) .none kV7 dc7 pm7 an7 cd7 ct7), sl7⟩) (c7 : PySem.W.codeIn K cd7 "Ways._falls" = true) (k7 : PySem.W.keepIn K (.ref f7) = true)
    (a8 : PySem.W.findIn K (.ref C) "_ring" = some (some (.ref f8))) (i8 : PySem.W.isFn K (.ref f8) = true)
    (l8 : K.lookup f8 = some ⟨oc8, od8, .func (PySem.W.fnOf "_ring" "Ways._ring" (C8.fnArgs s_ring) (C8.fnBody s_ring) (C8.fnScope s_ring) .none kV8 dc8 pm8 an8 cd8 ct8), sl8⟩) (c8 : PySem.W.codeIn K cd8 "Ways._ring" = true) (k8 : PySem.W.keepIn K (.ref f8) = true)
    (a9 : PySem.W.nsIn K mainGlobals "_law_pool" = some (some (.ref f9)))
    (l9 : K.lookup f9 = some ⟨oc9, od9, .func (PySem.W.fnOf "_law_pool" "_law_pool" (C8.fnArgs s_pool) (C8.fnBody s_pool) (C8.fnScope s_pool) .none kV9 dc9 pm9 an9 cd9 ct9), sl9⟩) (c9 : PySem.W.codeIn K cd9 "_law_pool" = true) (k9 : PySem.W.keepIn K (.ref f9) = true)
    (a10 : PySem.W.nsIn K mainGlobals "_law_take" = some (some (.ref f10)))
    (l10 : K.lookup f10 = some ⟨oc10, od10, .func (PySem.W.fnOf "_law_take" "_law_take" (C8.fnArgs s_take) (C8.fnBody s_take) (C8.fnScope s_take) .none kV10 dc10 pm10 an10 cd10 ct10), sl10⟩) (c10 : PySem.W.codeIn K cd10 "_law_take" = true) (k10 : PySem.W.keepIn K (.ref f10) = true)
    (a11 : PySem.W.nsIn K mainGlobals "_law_turn" = some (some (.ref f11)))
    (l11 : K.lookup f11 = some ⟨oc11, od11, .func (PySem.W.fnOf "_law_turn" "_law_turn" (C8.fnArgs s_turn) (C8.fnBody s_turn) (C8.fnScope s_turn) .none kV11 dc11 pm11 an11 cd11 ct11), sl11⟩) (c11 : PySem.W.codeIn K cd11 "_law_turn" = true) (k11 : PySem.W.keepIn K (.ref f11) = true)
    (a12 : PySem.W.nsIn K mainGlobals "_law_mixed" = some (some (.ref f12)))
    (l12 : K.lookup f12 = some ⟨oc12, od12, .func (PySem.W.fnOf "_law_mixed" "_law_mixed" (C8.fnArgs s_mixed) (C8.fnBody s_mixed) (C8.fnScope s_mixed) .none kV12 dc12 pm12 an12 cd12 ct12), sl12⟩) (c12 : PySem.W.codeIn K cd12 "_law_mixed" = true) (k12 : PySem.W.keepIn K (.ref f12) = true)
    (a13 : PySem.W.nsIn K mainGlobals "_law_height" = some (some (.ref f13)))
    (l13 : K.lookup f13 = some ⟨oc13, od13, .func (PySem.W.fnOf "_law_height" "_law_height" (C8.fnArgs s_height) (C8.fnBody s_height) (C8.fnScope s_height) .none kV13 dc13 pm13 an13 cd13 ct13), sl13⟩) (c13 : PySem.W.codeIn K cd13 "_law_height" = true) (k13 : PySem.W.keepIn K (.ref f13) = true)
    (a14 : PySem.W.nsIn K mainGlobals "_law_places" = some (some (.ref f14)))
    (l14 : K.lookup f14 = some ⟨oc14, od14, .func (PySem.W.fnOf "_law_places" "_law_places" (C8.fnArgs s_places) (C8.fnBody s_places) (C8.fnScope s_places) .none kV14 dc14 pm14 an14 cd14 ct14), sl14⟩) (c14 : PySem.W.codeIn K cd14 "_law_places" = true) (k14 : PySem.W.keepIn K (.ref f14) = true)
    (a15 : PySem.W.nsIn K mainGlobals "_law_loose" = some (some (.ref f15)))
    (l15 : K.lookup f15 = some ⟨oc15, od15, .func (PySem.W.fnOf "_law_loose" "_law_loose" (C8.fnArgs s_loose) (C8.fnBody s_loose) (C8.fnScope s_loose) .none kV15 dc15 pm15 an15 cd15 ct15), sl15⟩) (c15 : PySem.W.codeIn K cd15 "_law_loose" = true) (k15 : PySem.W.keepIn K (.ref f15) = true)
    (a16 : PySem.W.nsIn K mainGlobals "_law_circle" = some (some (.ref f16)))
    (l16 : K.lookup f16 = some ⟨oc16, od16, .func (PySem.W.fnOf "_law_circle" "_law_circle" (C8.fnArgs s_circle) (C8.fnBody s_circle) (C8.fnScope s_circle) .none kV16 dc16 pm16 an16 cd16 ct16), sl16⟩) (c16 : PySem.W.codeIn K cd16 "_law_circle" = true) (k16 : PySem.W.keepIn K (.ref f16) = true)
    (a17 : PySem.W.nsIn K mainGlobals "_law_drawn" = some (some (.ref f17)))
    (l17 : K.lookup f17 = some ⟨oc17, od17, .func (PySem.W.fnOf "_law_drawn" "_law_drawn" (C8.fnArgs s_drawn) (C8.fnBody s_drawn) (C8.fnScope s_drawn) .none kV17 dc17 pm17 an17 cd17 ct17), sl17⟩) (c17 : PySem.W.codeIn K cd17 "_law_drawn" = true) (k17 : PySem.W.keepIn K (.ref f17) = true)
    (a18 : PySem.W.nsIn K mainGlobals "_law_whole" = some (some (.ref f18)))
    (l18 : K.lookup f18 = some ⟨oc18, od18, .func (PySem.W.fnOf "_law_whole" "_law_whole" (C8.fnArgs s_whole) (C8.fnBody s_whole) (C8.fnScope s_whole) .none kV18 dc18 pm18 an18 cd18 ct18), sl18⟩) (c18 : PySem.W.codeIn K cd18 "_law_whole" = true) (k18 : PySem.W.keepIn K (.ref f18) = true)
    (a19 : PySem.W.nsIn K mainGlobals "_law_due_places" = some (some (.ref f19)))
    (l19 : K.lookup f19 = some ⟨oc19, od19, .func (PySem.W.fnOf "_law_due_places" "_law_due_places" (C8.fnArgs s_due) (C8.fnBody s_due) (C8.fnScope s_due) .none kV19 dc19 pm19 an19 cd19 ct19), sl19⟩) (c19 : PySem.W.codeIn K cd19 "_law_due_places" = true) (k19 : PySem.W.keepIn K (.ref f19) = true)
    (a20 : PySem.W.nsIn K mainGlobals "_law_heights" = some (some (.ref f20)))
    (l20 : K.lookup f20 = some ⟨oc20, od20, .func (PySem.W.fnOf "_law_heights" "_law_heights" (C8.fnArgs s_heights) (C8.fnBody s_heights) (C8.fnScope s_heights) .none kV20 dc20 pm20 an20 cd20 ct20), sl20⟩) (c20 : PySem.W.codeIn K cd20 "_law_heights" = true) (k20 : PySem.W.keepIn K (.ref f20) = true)
    (a21 : PySem.W.nsIn K mainGlobals "_law_ring" = some (some (.ref f21)))
    (l21 : K.lookup f21 = some ⟨oc21, od21, .func (PySem.W.fnOf "_law_ring" "_law_ring" (C8.fnArgs s_lring) (C8.fnBody s_lring) (C8.fnScope s_lring) .none kV21 dc21 pm21 an21 cd21 ct21), sl21⟩) (c21 : PySem.W.codeIn K cd21 "_law_ring" = true) (k21 : PySem.W.keepIn K (.ref f21) = true)
    (a22 : PySem.W.nsIn K mainGlobals "_law_holds" = some (some (.ref f22)))
    (l22 : K.lookup f22 = some ⟨oc22, od22, .func (PySem.W.fnOf "_law_holds" "_law_holds" (C8.fnArgs s_holds) (C8.fnBody s_holds) (C8.fnScope s_holds) .none kV22 dc22 pm22 an22 cd22 ct22), sl22⟩) (c22 : PySem.W.codeIn K cd22 "_law_holds" = true) (k22 : PySem.W.keepIn K (.ref f22) = true)
    (a23 : PySem.W.nsIn K mainGlobals "_law_settled" = some (some (.ref f23)))
    (l23 : K.lookup f23 = some ⟨oc23, od23, .func (PySem.W.fnOf "_law_settled" "_law_settled" (C8.fnArgs s_settled) (C8.fnBody s_settled) (C8.fnScope s_settled) .none kV23 dc23 pm23 an23 cd23 ct23), sl23⟩) (c23 : PySem.W.codeIn K cd23 "_law_settled" = true) (k23 : PySem.W.keepIn K (.ref f23) = true)
    (a24 : PySem.W.nsIn K mainGlobals "law" = some (some (.ref f24)))
    (l24 : K.lookup f24 = some ⟨oc24, od24, .func (PySem.W.fnOf "law" "law" (C8.fnArgs s_law) (C8.fnBody s_law) (C8.fnScope s_law) .none kV24 dc24 pm24 an24 cd24 ct24), sl24⟩) (c24 : PySem.W.codeIn K cd24 "law" = true) (k24 : PySem.W.keepIn K (.ref f24) = true)
    (aC : PySem.W.nsIn K mainGlobals "Ways" = some (some (.ref C)))
    (pg : PySem.W.plainGet K C Str.empty = true) (hd : PySem.W.hasDictIn K C = true) (po : PySem.W.plainOver K C = true) (sa : PySem.W.findIn K (.ref C) "__setattr__" = some (some (.builtin "object.__setattr__"))) (mk : PySem.W.makesIn K C = true) (kc : PySem.W.keepIn K (.ref C) = true)
    (nf0 : PySem.W.findIn K (.ref C) "_heights" = some none)
    (nf1 : PySem.W.findIn K (.ref C) "_limits" = some none)
    (nf2 : PySem.W.findIn K (.ref C) "_settled" = some none)
    (z0 : PySem.W.nsIn K mainGlobals "len" = some none)
    (z1 : PySem.W.nsIn K mainGlobals "int" = some none)
    (z2 : PySem.W.nsIn K mainGlobals "range" = some none)
    (z3 : PySem.W.nsIn K mainGlobals "sorted" = some none)
    (z4 : PySem.W.nsIn K mainGlobals "list" = some none)
    (z5 : PySem.W.nsIn K mainGlobals "isinstance" = some none)
    (z6 : PySem.W.nsIn K mainGlobals "dict" = some none)
    (z7 : PySem.W.nsIn K mainGlobals "bool" = some none)
    (g0 : PySem.W.nsIn K mainGlobals "heappop" = some (some (.builtin "_heapq.heappop")))
    (g1 : PySem.W.nsIn K mainGlobals "heappush" = some (some (.builtin "_heapq.heappush"))) :
    ∃ fd : FuncData, (∀ (s : Shared) (v : Value), BindsTo s fd ⟨[v], []⟩ [("_law_script", v)]) ∧ ∀ base : Heap, K.In base → base.Ns mainGlobals mg → FnOk l.prog w K mg base C8.CX0 5 fa fd ["_law_script"] (sp_law K) := by
  have e := hfa.symm.trans (PySem.W.mg_of X G a24)
  cases e
  have T : CT K C := ⟨⟨pg, hd, po, sa⟩, nf0, nf1, nf2⟩
  have mgC := PySem.W.mg_of X G aC
  have B : Bi mg := ⟨PySem.W.mg_none_of X G z0, PySem.W.mg_none_of X G z1, PySem.W.mg_none_of X G z2, PySem.W.mg_none_of X G z3, PySem.W.mg_none_of X G z4, PySem.W.mg_none_of X G z5, PySem.W.mg_none_of X G z6, PySem.W.mg_none_of X G z7⟩
  have hheappop := PySem.W.mg_of X G g0
  have hheappush := PySem.W.mg_of X G g1
  have F0 := (⟨_, _, .none, _, _, _, _, _, _, _, rfl, l0, c0⟩ : C8.Fun K "__init__" "Ways.__init__" s_init _ _)
  have b0 := F0.binds rfl (ps := p_init) fun _ _ _ _ _ _ us hl => match us, hl with | [_], _ => rfl
  have I_init : ∃ f fd, Mk K C f ∧ C8.Fun K "__init__" "Ways.__init__" s_init f fd ∧ Binds K fd p_init [] := ⟨f0, _, ⟨mk, a0, i0, kc⟩, F0, b0⟩
  have F1 := (⟨_, _, .none, _, _, _, _, _, _, _, rfl, l1, c1⟩ : C8.Fun K "limit" "Ways.limit" s_limit _ _)
  have b1 := F1.binds rfl (ps := p_limit) fun _ _ _ _ _ _ us hl => match us, hl with | [_, _, _, _, _], _ => rfl
  have M_limit : MetA K C "limit" "Ways.limit" s_limit p_limit := ⟨f1, _, ⟨a1, i1, k1⟩, F1, b1⟩
  have F2 := (⟨_, _, .none, _, _, _, _, _, _, _, rfl, l2, c2⟩ : C8.Fun K "limits" "Ways.limits" s_limits _ _)
  have b2 := F2.binds rfl (ps := p_limits) fun _ _ _ _ _ _ us hl => match us, hl with | [_], _ => rfl
  have M_limits : MetA K C "limits" "Ways.limits" s_limits p_limits := ⟨f2, _, ⟨a2, i2, k2⟩, F2, b2⟩
  have F3 := (⟨_, _, .none, _, _, _, _, _, _, _, rfl, l3, c3⟩ : C8.Fun K "heights" "Ways.heights" s_wheights _ _)
  have b3 := F3.binds rfl (ps := p_wheights) fun _ _ _ _ _ _ us hl => match us, hl with | [_], _ => rfl
  have M_wheights : MetA K C "heights" "Ways.heights" s_wheights p_wheights := ⟨f3, _, ⟨a3, i3, k3⟩, F3, b3⟩
  have F4 := (⟨_, _, .none, _, _, _, _, _, _, _, rfl, l4, c4⟩ : C8.Fun K "settle" "Ways.settle" s_settle _ _)
  have b4 := F4.binds rfl (ps := p_settle) fun _ _ _ _ _ _ us hl => match us, hl with | [_], _ => rfl
  have M_settle : MetA K C "settle" "Ways.settle" s_settle p_settle := ⟨f4, _, ⟨a4, i4, k4⟩, F4, b4⟩
  have F5 := (⟨_, _, .none, _, _, _, _, _, _, _, rfl, l5, c5⟩ : C8.Fun K "_settle_next" "Ways._settle_next" s_next _ _)
  have b5 := F5.binds rfl (ps := p_next) fun _ _ _ _ _ _ us hl => match us, hl with | [_], _ => rfl
  have M_next : MetA K C "_settle_next" "Ways._settle_next" s_next p_next := ⟨f5, _, ⟨a5, i5, k5⟩, F5, b5⟩
  have F6 := (⟨_, _, .none, _, _, _, _, _, _, _, rfl, l6, c6⟩ : C8.Fun K "_leading" "Ways._leading" s_leading _ _)
  have b6 := F6.binds rfl (ps := p_leading) fun _ _ _ _ _ _ us hl => match us, hl with | [_], _ => rfl
  have M_leading : MetA K C "_leading" "Ways._leading" s_leading p_leading := ⟨f6, _, ⟨a6, i6, k6⟩, F6, b6⟩
  have F7 := (⟨_, _, .none, _, _, _, _, _, _, _, rfl, l7, c7⟩ : C8.Fun K "_falls" "Ways._falls" s_falls _ _)
  have b7 := F7.binds rfl (ps := p_falls) fun _ _ _ _ _ _ us hl => match us, hl with | [_, _, _], _ => rfl
  have M_falls : MetA K C "_falls" "Ways._falls" s_falls p_falls := ⟨f7, _, ⟨a7, i7, k7⟩, F7, b7⟩
  have F8 := (⟨_, _, .none, _, _, _, _, _, _, _, rfl, l8, c8⟩ : C8.Fun K "_ring" "Ways._ring" s_ring _ _)
  have b8 := F8.binds rfl (ps := p_ring) fun _ _ _ _ _ _ us hl => match us, hl with | [_, _, _], _ => rfl
  have M_ring : MetA K C "_ring" "Ways._ring" s_ring p_ring := ⟨f8, _, ⟨a8, i8, k8⟩, F8, b8⟩
  have F9 := (⟨_, _, .none, _, _, _, _, _, _, _, rfl, l9, c9⟩ : C8.Fun K "_law_pool" "_law_pool" s_pool _ _)
  have b9 := F9.binds rfl (ps := p_pool) fun _ _ _ _ _ _ us hl => match us, hl with | [_, _], _ => rfl
  have D_pool : DefA K mg "_law_pool" s_pool p_pool := ⟨f9, _, ⟨F9, PySem.W.mg_of X G a9, k9⟩, b9⟩
  have F10 := (⟨_, _, .none, _, _, _, _, _, _, _, rfl, l10, c10⟩ : C8.Fun K "_law_take" "_law_take" s_take _ _)
  have b10 := F10.binds rfl (ps := p_take) fun _ _ _ _ _ _ us hl => match us, hl with | [_, _], _ => rfl
  have D_take : DefA K mg "_law_take" s_take p_take := ⟨f10, _, ⟨F10, PySem.W.mg_of X G a10, k10⟩, b10⟩
  have F11 := (⟨_, _, .none, _, _, _, _, _, _, _, rfl, l11, c11⟩ : C8.Fun K "_law_turn" "_law_turn" s_turn _ _)
  have b11 := F11.binds rfl (ps := p_turn) fun _ _ _ _ _ _ us hl => match us, hl with | [_, _, _], _ => rfl
  have D_turn : DefA K mg "_law_turn" s_turn p_turn := ⟨f11, _, ⟨F11, PySem.W.mg_of X G a11, k11⟩, b11⟩
  have F12 := (⟨_, _, .none, _, _, _, _, _, _, _, rfl, l12, c12⟩ : C8.Fun K "_law_mixed" "_law_mixed" s_mixed _ _)
  have b12 := F12.binds rfl (ps := p_mixed) fun _ _ _ _ _ _ us hl => match us, hl with | [_, _], _ => rfl
  have D_mixed : DefA K mg "_law_mixed" s_mixed p_mixed := ⟨f12, _, ⟨F12, PySem.W.mg_of X G a12, k12⟩, b12⟩
  have F13 := (⟨_, _, .none, _, _, _, _, _, _, _, rfl, l13, c13⟩ : C8.Fun K "_law_height" "_law_height" s_height _ _)
  have b13 := F13.binds rfl (ps := p_height) fun _ _ _ _ _ _ us hl => match us, hl with | [_, _], _ => rfl
  have D_height : DefA K mg "_law_height" s_height p_height := ⟨f13, _, ⟨F13, PySem.W.mg_of X G a13, k13⟩, b13⟩
  have F14 := (⟨_, _, .none, _, _, _, _, _, _, _, rfl, l14, c14⟩ : C8.Fun K "_law_places" "_law_places" s_places _ _)
  have b14 := F14.binds rfl (ps := p_places) fun _ _ _ _ _ _ us hl => match us, hl with | [_, _], _ => rfl
  have D_places : DefA K mg "_law_places" s_places p_places := ⟨f14, _, ⟨F14, PySem.W.mg_of X G a14, k14⟩, b14⟩
  have F15 := (⟨_, _, .none, _, _, _, _, _, _, _, rfl, l15, c15⟩ : C8.Fun K "_law_loose" "_law_loose" s_loose _ _)
  have b15 := F15.binds rfl (ps := p_loose) fun _ _ _ _ _ _ us hl => match us, hl with | [_, _, _, _], _ => rfl
  have D_loose : DefA K mg "_law_loose" s_loose p_loose := ⟨f15, _, ⟨F15, PySem.W.mg_of X G a15, k15⟩, b15⟩
  have F16 := (⟨_, _, .none, _, _, _, _, _, _, _, rfl, l16, c16⟩ : C8.Fun K "_law_circle" "_law_circle" s_circle _ _)
  have b16 := F16.binds rfl (ps := p_circle) fun _ _ _ _ _ _ us hl => match us, hl with | [_, _, _], _ => rfl
  have D_circle : DefA K mg "_law_circle" s_circle p_circle := ⟨f16, _, ⟨F16, PySem.W.mg_of X G a16, k16⟩, b16⟩
  have F17 := (⟨_, _, .none, _, _, _, _, _, _, _, rfl, l17, c17⟩ : C8.Fun K "_law_drawn" "_law_drawn" s_drawn _ _)
  have b17 := F17.binds rfl (ps := p_drawn) fun _ _ _ _ _ _ us hl => match us, hl with | [_], _ => rfl
  have D_drawn : DefA K mg "_law_drawn" s_drawn p_drawn := ⟨f17, _, ⟨F17, PySem.W.mg_of X G a17, k17⟩, b17⟩
  have F18 := (⟨_, _, .none, _, _, _, _, _, _, _, rfl, l18, c18⟩ : C8.Fun K "_law_whole" "_law_whole" s_whole _ _)
  have b18 := F18.binds rfl (ps := p_whole) fun _ _ _ _ _ _ us hl => match us, hl with | [_], _ => rfl
  have D_whole : DefA K mg "_law_whole" s_whole p_whole := ⟨f18, _, ⟨F18, PySem.W.mg_of X G a18, k18⟩, b18⟩
  have F19 := (⟨_, _, .none, _, _, _, _, _, _, _, rfl, l19, c19⟩ : C8.Fun K "_law_due_places" "_law_due_places" s_due _ _)
  have b19 := F19.binds rfl (ps := p_due) fun _ _ _ _ _ _ us hl => match us, hl with | [_], _ => rfl
  have D_due : DefA K mg "_law_due_places" s_due p_due := ⟨f19, _, ⟨F19, PySem.W.mg_of X G a19, k19⟩, b19⟩
  have F20 := (⟨_, _, .none, _, _, _, _, _, _, _, rfl, l20, c20⟩ : C8.Fun K "_law_heights" "_law_heights" s_heights _ _)
  have b20 := F20.binds rfl (ps := p_heights) fun _ _ _ _ _ _ us hl => match us, hl with | [_, _], _ => rfl
  have D_heights : DefA K mg "_law_heights" s_heights p_heights := ⟨f20, _, ⟨F20, PySem.W.mg_of X G a20, k20⟩, b20⟩
  have F21 := (⟨_, _, .none, _, _, _, _, _, _, _, rfl, l21, c21⟩ : C8.Fun K "_law_ring" "_law_ring" s_lring _ _)
  have b21 := F21.binds rfl (ps := p_lring) fun _ _ _ _ _ _ us hl => match us, hl with | [_, _], _ => rfl
  have D_lring : DefA K mg "_law_ring" s_lring p_lring := ⟨f21, _, ⟨F21, PySem.W.mg_of X G a21, k21⟩, b21⟩
  have F22 := (⟨_, _, .none, _, _, _, _, _, _, _, rfl, l22, c22⟩ : C8.Fun K "_law_holds" "_law_holds" s_holds _ _)
  have b22 := F22.binds rfl (ps := p_holds) fun _ _ _ _ _ _ us hl => match us, hl with | [_, _], _ => rfl
  have D_holds : DefA K mg "_law_holds" s_holds p_holds := ⟨f22, _, ⟨F22, PySem.W.mg_of X G a22, k22⟩, b22⟩
  have F23 := (⟨_, _, .none, _, _, _, _, _, _, _, rfl, l23, c23⟩ : C8.Fun K "_law_settled" "_law_settled" s_settled _ _)
  have b23 := F23.binds rfl (ps := p_settled) fun _ _ _ _ _ _ us hl => match us, hl with | [_, _, _], _ => rfl
  have D_settled : DefA K mg "_law_settled" s_settled p_settled := ⟨f23, _, ⟨F23, PySem.W.mg_of X G a23, k23⟩, b23⟩
  have F24 := (⟨_, _, .none, _, _, _, _, _, _, _, rfl, l24, c24⟩ : C8.Fun K "law" "law" s_law _ _)
  refine ⟨PySem.W.fnOf "law" "law" (C8.fnArgs s_law) (C8.fnBody s_law) (C8.fnScope s_law) .none kV24 dc24 pm24 an24 cd24 ct24, fun s v => .of_eq rfl, fun base _ _ => ?_⟩
  have x_pool := c_pool (P := l.prog) (w := w) (base := base) B D_pool
  have x_take := c_take (P := l.prog) (w := w) (base := base) B D_take
  have x_turn := c_turn B D_turn x_pool
  have x_height := c_height B D_height x_take
  have x_places := c_places B D_places x_take
  have x_mixed := c_mixed B D_mixed x_take
  have x_loose := c_loose B D_loose x_take x_turn
  have x_circle := c_circle B D_circle x_take x_mixed
  have x_drawn := c_drawn B D_drawn x_pool x_take x_mixed x_height x_places x_loose x_circle
  have y_init := m_init (P := l.prog) (w := w) (base := base) T I_init mgC
  have y_limits := m_limits (P := l.prog) (w := w) (mg := mg) (base := base) T B M_limits
  have y_limit := m_limit (P := l.prog) (w := w) (mg := mg) (base := base) T B M_limit
  have y_heights := m_heights (P := l.prog) (w := w) (mg := mg) (base := base) T B M_wheights
  have y_leading := m_leading (P := l.prog) (w := w) (mg := mg) (base := base) T B M_leading
  have y_falls := m_falls (P := l.prog) (w := w) (mg := mg) (base := base) T B M_falls
  have y_ring := m_ring (P := l.prog) (w := w) (mg := mg) (base := base) T B M_ring
  have y_next := m_next T B hheappop hheappush M_next y_leading y_falls y_ring
  have y_settle := m_settle T B M_settle y_next
  have x_whole := c_whole (P := l.prog) (w := w) (base := base) B D_whole
  have x_due := c_due (P := l.prog) (w := w) (base := base) B D_due
  have x_heights := c_heights (P := l.prog) (w := w) (base := base) B D_heights
  have x_ring := c_ring B D_lring x_whole
  have x_holds := c_holds B D_holds x_whole x_due y_heights
  have x_settled := c_settled T B D_settled x_holds x_ring y_settle
  exact ok_law F24 B y_init y_limit y_limits x_drawn x_whole x_due x_heights x_settled
theorem scr_of {K : PySem.W.Frag} {H : Hp} {a : Addr} {ns : List Int} (hO : Only H) (h : SqL K H a (ns.map V.int)) : Scr K H a ns := by
  rcases h with (h | h) | h
  · rcases hO a with e | ⟨o, xs, e⟩
    · rw [e] at h; cases h
    · rw [e] at h; cases h
  · exact .inl h
  · exact .inr h
theorem walk {l : PySem.W.OpenLaw} {q : Program} {loose : List Str} {XP : (Str → Option Value) → Heap → Prop} {YP : World → Heap → Prop} {d : DefRec} {K : Params → PySem.W.Frag} (hn : l.most = some 63) (hdf : d.params.defaults = [])
    (hY : ∀ (w : World) (h : Heap), YP w h → (K w.params).In h)
    (F : ∀ (w : World) (mg : Str → Option Value) (fa : Addr) (h : Heap), (K w.params).In h → h.Ns mainGlobals mg → mg d.name = some (.ref fa) →
      ∃ fd : FuncData, (∀ (s : Shared) (u : Value), BindsTo s fd ⟨[u], []⟩ [("_law_script", u)]) ∧ ∀ base : Heap, (K w.params).In base → base.Ns mainGlobals mg → FnOk l.prog w (K w.params) mg base C8.CX0 5 fa fd ["_law_script"] (sp_law (K w.params))) :
    PySem.W.WalkO q loose XP YP l.row.toRowW d [] (fun f vs => PySem.call f vs) :=
  L2.walk_of (n := 63) (k := 5) (x := "_law_script") (CX := fun _ => C8.CX0) (sp := fun w => sp_law (K w.params)) hn (by decide) hdf ⟨rfl, by decide, by decide⟩ hY F (fun _ _ a ns hl hO hS => ⟨a, ns, rfl, scr_of hO hS, fun _ => rfl⟩) fun _ _ _ _ _ z => z
end K30
open PySem PySem.W PyProof.Rows
set_option maxRecDepth 100000 in
set_option maxHeartbeats 0 in
theorem PySem.Challenge.cw_papersat_k30_ways_settle_holds : PySem.Challenge.rw_papersat_k30_ways_settle.Holds := by
  w_on; o_law; k_head; (case hw => w_witness2)
  k_fill
  refine K30.walk (l := PySem.Challenge.rw_papersat_k30_ways_settle) rfl rfl (fun w h Y => PySem.W.kIn_of Y) ?F
  case F =>
    intro w mg fa h KX G hmg
    refine' K30.all_mk KX G hmg ?a0 ?i0 ?l0 ?c0 ?k0 ?a1 ?i1 ?l1 ?c1 ?k1 ?a2 ?i2 ?l2 ?c2 ?k2 ?a3 ?i3 ?l3 ?c3 ?k3 ?a4 ?i4 ?l4 ?c4 ?k4 ?a5 ?i5 ?l5 ?c5 ?k5 ?a6 ?i6 ?l6 ?c6 ?k6 ?a7 ?i7 ?l7 ?c7 ?k7 ?a8 ?i8 ?l8 ?c8 ?k8 ?a9 ?l9 ?c9 ?k9 ?a10 ?l10 ?c10 ?k10 ?a11 ?l11 ?c11 ?k11 ?a12 ?l12 ?c12 ?k12 ?a13 ?l13 ?c13 ?k13 ?a14 ?l14 ?c14 ?k14 ?a15 ?l15 ?c15 ?k15 ?a16 ?l16 ?c16 ?k16 ?a17 ?l17 ?c17 ?k17 ?a18 ?l18 ?c18 ?k18 ?a19 ?l19 ?c19 ?k19 ?a20 ?l20 ?c20 ?k20 ?a21 ?l21 ?c21 ?k21 ?a22 ?l22 ?c22 ?k22 ?a23 ?l23 ?c23 ?k23 ?a24 ?l24 ?c24 ?k24 ?aC ?pg ?hd ?po ?sa ?mk ?kc ?nf0 ?nf1 ?nf2 ?z0 ?z1 ?z2 ?z3 ?z4 ?z5 ?z6 ?z7 ?g0 ?g1
    (case aC => k_is)
    (case a0 => k_is)
    (case i0 => k_is)
    (case l0 => k_is)
    (case c0 => k_is)
    (case k0 => k_is)
    (case a1 => k_is)
    (case i1 => k_is)
    (case l1 => k_is)
    (case c1 => k_is)
    (case k1 => k_is)
    (case a2 => k_is)
    (case i2 => k_is)
    (case l2 => k_is)
    (case c2 => k_is)
    (case k2 => k_is)
    (case a3 => k_is)
    (case i3 => k_is)
    (case l3 => k_is)
    (case c3 => k_is)
    (case k3 => k_is)
    (case a4 => k_is)
    (case i4 => k_is)
    (case l4 => k_is)
    (case c4 => k_is)
    (case k4 => k_is)
    (case a5 => k_is)
    (case i5 => k_is)
    (case l5 => k_is)
    (case c5 => k_is)
    (case k5 => k_is)
    (case a6 => k_is)
    (case i6 => k_is)
    (case l6 => k_is)
    (case c6 => k_is)
    (case k6 => k_is)
    (case a7 => k_is)
    (case i7 => k_is)
    (case l7 => k_is)
    (case c7 => k_is)
    (case k7 => k_is)
    (case a8 => k_is)
    (case i8 => k_is)
    (case l8 => k_is)
    (case c8 => k_is)
    (case k8 => k_is)
    (case a9 => k_is)
    (case l9 => k_is)
    (case c9 => k_is)
    (case k9 => k_is)
    (case a10 => k_is)
    (case l10 => k_is)
    (case c10 => k_is)
    (case k10 => k_is)
    (case a11 => k_is)
    (case l11 => k_is)
    (case c11 => k_is)
    (case k11 => k_is)
    (case a12 => k_is)
    (case l12 => k_is)
    (case c12 => k_is)
    (case k12 => k_is)
    (case a13 => k_is)
    (case l13 => k_is)
    (case c13 => k_is)
    (case k13 => k_is)
    (case a14 => k_is)
    (case l14 => k_is)
    (case c14 => k_is)
    (case k14 => k_is)
    (case a15 => k_is)
    (case l15 => k_is)
    (case c15 => k_is)
    (case k15 => k_is)
    (case a16 => k_is)
    (case l16 => k_is)
    (case c16 => k_is)
    (case k16 => k_is)
    (case a17 => k_is)
    (case l17 => k_is)
    (case c17 => k_is)
    (case k17 => k_is)
    (case a18 => k_is)
    (case l18 => k_is)
    (case c18 => k_is)
    (case k18 => k_is)
    (case a19 => k_is)
    (case l19 => k_is)
    (case c19 => k_is)
    (case k19 => k_is)
    (case a20 => k_is)
    (case l20 => k_is)
    (case c20 => k_is)
    (case k20 => k_is)
    (case a21 => k_is)
    (case l21 => k_is)
    (case c21 => k_is)
    (case k21 => k_is)
    (case a22 => k_is)
    (case l22 => k_is)
    (case c22 => k_is)
    (case k22 => k_is)
    (case a23 => k_is)
    (case l23 => k_is)
    (case c23 => k_is)
    (case k23 => k_is)
    (case a24 => k_is)
    (case l24 => k_is)
    (case c24 => k_is)
    (case k24 => k_is)
    (case pg => k_is)
    (case hd => k_is)
    (case po => k_is)
    (case sa => k_is)
    (case mk => k_is)
    (case kc => k_is)
    (case nf0 => k_is)
    (case nf1 => k_is)
    (case nf2 => k_is)
    (case z0 => k_is)
    (case z1 => k_is)
    (case z2 => k_is)
    (case z3 => k_is)
    (case z4 => k_is)
    (case z5 => k_is)
    (case z6 => k_is)
    (case z7 => k_is)
    (case g0 => k_is)
    (case g1 => k_is)
#print axioms PySem.Challenge.cw_papersat_k30_ways_settle_holds

end
