import PyProof.Rows.All
import Wide.All
import OpenK.AllK
import Wide.FinOn
import HandS.ForMost
import HandS.Style
import HandS.Codes
import HandS.DictComp
import HandS.More
import HandS.Conv
import HandS.Deep
import HandS.IsInst
import HandS.SetFor
import HandS.Walk
import HandS.OwnEq
import HandS.CallRecv
import HandS.SlotsOwn
import HandS.TupLe
import HandS.Wide
import HandS.Zip
import HandS.Strs
import PySem.Challenge.RW_bytetale_k05_whole_judged
import HandS.Sort
import KE.GoesEnum
import KE.GoesMore
import PyProof.InstNe
set_option Elab.async false
set_option linter.all false
set_option maxRecDepth 100000
set_option maxHeartbeats 4000000
namespace BT
/-- a path by successors s: its blocks, both ends among them -/
inductive Path (s : Int → List Int) : Int → List Int → Int → Prop
  | one (a : Int) : Path s a [a] a
  | cons {a o b : Int} {p : List Int} : o ∈ s a → Path s o p b → Path s a (a :: p) b
section
variable {s : Int → List Int} {a b c x : Int} {p q : List Int}
theorem Path.ne_nil (h : Path s a p b) : p ≠ [] := by cases h <;> simp
theorem Path.head (h : Path s a p b) : p.head? = some a := by cases h <;> rfl
theorem Path.mem_start (h : Path s a p b) : a ∈ p := by cases h <;> simp
theorem Path.last (h : Path s a p b) : p.getLast? = some b := by
  induction h with
  | one => rfl
  | cons ho h ih =>
    cases h with
    | one => rfl
    | cons h1 h2 => rw [List.getLast?_cons_cons]; exact ih
theorem Path.mem_end (h : Path s a p b) : b ∈ p := List.mem_of_getLast? h.last
theorem Path.snoc (h : Path s a p b) (hc : c ∈ s b) : Path s a (p ++ [c]) c := by
  induction h with
  | one => exact .cons hc (.one c)
  | cons ho h ih => exact .cons ho (ih hc)
theorem Path.join (h : Path s a p b) (h2 : Path s b q c) : ∃ r, Path s a r c ∧ ∀ y, y ∈ r → y ∈ p ∨ y ∈ q := by
  induction h with
  | one => exact ⟨q, h2, fun y hy => .inr hy⟩
  | cons ho h ih =>
    obtain ⟨r, hr, hm⟩ := ih h2
    refine ⟨_, .cons ho hr, fun y hy => ?_⟩
    rcases List.mem_cons.mp hy with rfl | hy
    · exact .inl (List.mem_cons_self ..)
    · rcases hm y hy with z | z
      · exact .inl (List.mem_cons_of_mem _ z)
      · exact .inr z
/-- the way up to x, and the way from x -/
theorem Path.split (h : Path s a p b) (hx : x ∈ p) : ∃ p1 p2, Path s a p1 x ∧ Path s x p2 b ∧ (∀ y, y ∈ p1 → y ∈ p) ∧ (∀ y, y ∈ p2 → y ∈ p) ∧ p1.length ≤ p.length := by
  induction h with
  | one a =>
    obtain rfl : x = a := by simpa using hx
    exact ⟨[x], [x], .one x, .one x, fun _ h => h, fun _ h => h, Nat.le_refl _⟩
  | @cons a o b p ho h ih =>
    by_cases e : x = a
    · subst e
      exact ⟨[x], x :: p, .one x, .cons ho h, fun y hy => by simp at hy; simp [hy], fun _ h => h, by simp⟩
    · have hx' : x ∈ p := by
        rcases List.mem_cons.mp hx with z | z
        · exact absurd z e
        · exact z
      obtain ⟨p1, p2, h1, h2, m1, m2, hl⟩ := ih hx'
      refine ⟨a :: p1, p2, .cons ho h1, h2, fun y hy => ?_, fun y hy => List.mem_cons_of_mem _ (m2 y hy), by simp; exact hl⟩
      rcases List.mem_cons.mp hy with rfl | hy
      · exact List.mem_cons_self ..
      · exact List.mem_cons_of_mem _ (m1 y hy)
/-- a path without a block twice -/
theorem Path.simple (h : Path s a p b) : ∃ q, Path s a q b ∧ q.Nodup ∧ ∀ y, y ∈ q → y ∈ p := by
  induction h with
  | one a => exact ⟨[a], .one a, by simp, fun _ h => h⟩
  | @cons a o b p ho h ih =>
    obtain ⟨q, hq, nd, m⟩ := ih
    by_cases e : a ∈ q
    · obtain ⟨p1, p2, _, h2, _, m2, _⟩ := hq.split e
      -- p2 may be taken as the tail of q from a on
      have : ∀ {c d : Int} {q : List Int}, Path s c q d → q.Nodup → a ∈ q → ∃ r, Path s a r d ∧ r.Nodup ∧ ∀ y, y ∈ r → y ∈ q := by
        intro c d q hq
        induction hq with
        | one c => intro nd ha; obtain rfl : a = c := by simpa using ha
                   exact ⟨[a], .one a, by simp, fun _ h => h⟩
        | @cons c o2 d p2 ho2 h3 ih2 =>
          intro nd ha
          by_cases e2 : a = c
          · subst e2; exact ⟨_, .cons ho2 h3, nd, fun _ h => h⟩
          · have ha' : a ∈ p2 := by
              rcases List.mem_cons.mp ha with z | z
              · exact absurd z e2
              · exact z
            obtain ⟨r, hr, nr, mr⟩ := ih2 (List.nodup_cons.mp nd).2 ha'
            exact ⟨r, hr, nr, fun y hy => List.mem_cons_of_mem _ (mr y hy)⟩
      obtain ⟨r, hr, nr, mr⟩ := this hq nd e
      exact ⟨r, hr, nr, fun y hy => List.mem_cons_of_mem _ (m y (mr y hy))⟩
    · refine ⟨a :: q, .cons ho hq, List.nodup_cons.mpr ⟨e, nd⟩, fun y hy => ?_⟩
      rcases List.mem_cons.mp hy with rfl | hy
      · exact List.mem_cons_self ..
      · exact List.mem_cons_of_mem _ (m y hy)
theorem Path.closed {S : Int → Prop} (h : Path s a p b) (ha : S a) (hs : ∀ u v, S u → v ∈ s u → v ∈ p → S v) : S b ∧ ∀ y, y ∈ p → S y := by
  induction h with
  | one a => exact ⟨ha, fun y hy => by simp at hy; rw [hy]; exact ha⟩
  | @cons a o b p ho h ih =>
    have so : S o := hs a o ha ho (List.mem_cons_of_mem _ h.mem_start)
    obtain ⟨h1, h2⟩ := ih so fun u v hu hv hp => hs u v hu hv (List.mem_cons_of_mem _ hp)
    refine ⟨h1, fun y hy => ?_⟩
    rcases List.mem_cons.mp hy with rfl | hy
    · exact ha
    · exact h2 y hy
end
theorem nodup_sub_len : ∀ {l V : List Int}, l.Nodup → (∀ x, x ∈ l → x ∈ V) → l.length ≤ V.length
  | [], V, _, _ => Nat.zero_le _
  | a :: r, V, nd, h => by
    obtain ⟨h1, h2⟩ := List.nodup_cons.mp nd
    have hV : a ∈ V := h a (List.mem_cons_self ..)
    have := nodup_sub_len (l := r) (V := V.erase a) h2 fun x hx => (List.mem_erase_of_ne (fun e : x = a => h1 (by rw [← e]; exact hx))).mpr (h x (List.mem_cons_of_mem _ hx))
    rw [List.length_erase_of_mem hV] at this
    have : 0 < V.length := List.length_pos_of_mem hV
    simp only [List.length_cons]; omega

/-! ### the depth-first order -/
/-- the stack from its top down: a path from e, read backwards -/
inductive RP (s : Int → List Int) (e : Int) : List Int → Prop
  | nil : RP s e []
  | one : RP s e [e]
  | cons {b a : Int} {r : List Int} : b ∈ s a → RP s e (a :: r) → RP s e (b :: a :: r)
section
variable {s : Int → List Int} {e b x : Int} {l r : List Int}
theorem RP.tail (h : RP s e (b :: r)) : RP s e r := by
  cases h with
  | one => exact .nil
  | cons _ h => exact h
theorem RP.last (h : RP s e l) (hn : l ≠ []) : l.getLast? = some e := by
  induction h with
  | nil => exact absurd rfl hn
  | one => rfl
  | cons hb h ih => rw [List.getLast?_cons_cons]; exact ih (by simp)
theorem RP.path (h : RP s e (b :: r)) : ∃ p, Path s e p b ∧ ∀ y, y ∈ p → y ∈ b :: r := by
  generalize hl : b :: r = l at h
  induction h generalizing b r with
  | nil => cases hl
  | one => cases hl; exact ⟨[e], .one e, fun _ h => h⟩
  | @cons b' a r' hb h ih =>
    obtain ⟨rfl, rfl⟩ : b = b' ∧ r = a :: r' := by
      obtain ⟨h1, h2⟩ := List.cons.inj hl
      exact ⟨h1, h2⟩
    obtain ⟨p, hp, m⟩ := ih rfl
    refine ⟨p ++ [b], hp.snoc hb, fun y hy => ?_⟩
    rcases List.mem_append.mp hy with z | z
    · exact List.mem_cons_of_mem _ (m y z)
    · obtain rfl : y = b := by simpa using z
      exact List.mem_cons_self ..
/-- from x on the stack to its top, by what stands from x up -/
theorem RP.up (h : RP s e (b :: r)) (hx : x ∈ b :: r) : ∃ p, Path s x p b ∧ ∀ y, y ∈ p → y ∈ (b :: r).take ((b :: r).idxOf x + 1) := by
  generalize hl : b :: r = l at h hx
  induction h generalizing b r with
  | nil => cases hl
  | one =>
    obtain rfl : x = e := by simpa using hx
    obtain ⟨rfl, rfl⟩ := List.cons.inj hl
    exact ⟨_, .one _, fun y hy => by simpa using hy⟩
  | @cons b' a r' hb h ih =>
    obtain ⟨rfl, rfl⟩ : b = b' ∧ r = a :: r' := by
      obtain ⟨h1, h2⟩ := List.cons.inj hl
      exact ⟨h1, h2⟩
    by_cases e1 : x = b
    · subst e1
      exact ⟨[x], .one x, fun y hy => by simpa [List.idxOf_cons_self] using hy⟩
    · have hx' : x ∈ a :: r' := by
        rcases List.mem_cons.mp hx with z | z
        · exact absurd z e1
        · exact z
      obtain ⟨p, hp, m⟩ := ih rfl hx'
      refine ⟨p ++ [b], hp.snoc hb, fun y hy => ?_⟩
      have e2 : List.idxOf x (b :: a :: r') = List.idxOf x (a :: r') + 1 := by
        rw [List.idxOf_cons]
        have : (b == x) = false := by simp; exact fun z => e1 z.symm
        simp [this]
      rw [e2, List.take_succ_cons]
      rcases List.mem_append.mp hy with z | z
      · exact List.mem_cons_of_mem _ (m y z)
      · obtain rfl : y = b := by simpa using z
        exact List.mem_cons_self ..
end

structure DS where
  seen : List Int
  left : List Int
  st : List (Int × Nat)
def dstep (s : Int → List Int) (d : DS) : DS := match d.st with
  | [] => d
  | (b, i) :: r => match (s b)[i]? with
    | none => ⟨d.seen, b :: d.left, r⟩
    | some o => if o ∈ d.seen then ⟨d.seen, d.left, (b, i + 1) :: r⟩ else ⟨d.seen ++ [o], d.left, (o, 0) :: (b, i + 1) :: r⟩
def dfs (s : Int → List Int) : Nat → DS → List Int
  | 0, d => d.left
  | n + 1, d => if d.st = [] then d.left else dfs s n (dstep s d)
def dinit (e : Int) : DS := ⟨[e], [], [(e, 0)]⟩
/-- what is left to do -/
def dmu (V : List Int) (s : Int → List Int) (d : DS) : Nat :=
  (d.st.map fun p => 2 * ((s p.1).length - p.2) + 1).sum + ((V.filter fun v => decide (v ∉ d.seen)).map fun v => 2 * (s v).length + 2).sum
structure DI (V : List Int) (s : Int → List Int) (e : Int) (d : DS) : Prop where
  nd : (d.st.map Prod.fst ++ d.left).Nodup
  snd : d.seen.Nodup
  seen : ∀ x, x ∈ d.seen ↔ x ∈ d.st.map Prod.fst ∨ x ∈ d.left
  sub : ∀ x, x ∈ d.seen → x ∈ V
  rp : RP s e (d.st.map Prod.fst)
  at_ : ∀ b i, (b, i) ∈ d.st → i ≤ (s b).length ∧ ∀ (j : Nat) (o : Int), j < i → (s b)[j]? = some o → o ∈ d.seen
  black : ∀ u v, u ∈ d.left → v ∈ s u → v ∈ d.seen
  grey : ∀ u v, u ∈ d.left → v ∈ s u → v ∈ d.st.map Prod.fst → ∃ p, Path s v p u ∧ ∀ x, x ∈ p → x ∈ d.left ∨ x ∈ (d.st.map Prod.fst).take ((d.st.map Prod.fst).idxOf v + 1)
  bwd : ∀ u v, u ∈ d.left → v ∈ s u → v ∈ d.left → d.left.idxOf v ≤ d.left.idxOf u → ∃ p, Path s v p u ∧ ∀ x, x ∈ p → x ∈ d.left ∧ d.left.idxOf v ≤ d.left.idxOf x
  fwd : ∀ u, u ∈ d.left → ∃ p, Path s e p u ∧ ∀ x, x ∈ p → x = u ∨ x ∈ d.st.map Prod.fst ∨ (x ∈ d.left ∧ d.left.idxOf x < d.left.idxOf u)
  hd : d.st = [] → d.left.head? = some e
  ent : e ∈ d.seen

theorem idx_cons_ne {b x : Int} {l : List Int} (h : x ≠ b) : (b :: l).idxOf x = l.idxOf x + 1 := by
  rw [List.idxOf_cons]
  have : (b == x) = false := by simp; exact fun z => h z.symm
  simp [this]

theorem di_init {V : List Int} {s : Int → List Int} {e : Int} (he : e ∈ V) : DI V s e (dinit e) := by
  constructor <;> simp only [dinit, List.map_cons, List.map_nil]
  · simp
  · simp
  · intro x; simp
  · intro x hx; simp at hx; rw [hx]; exact he
  · exact .one
  · intro b i h
    simp at h
    obtain ⟨rfl, rfl⟩ := h
    exact ⟨Nat.zero_le _, fun j o hj => absurd hj (Nat.not_lt_zero _)⟩
  · intro u v hu; simp at hu
  · intro u v hu; simp at hu
  · intro u v hu; simp at hu
  · intro u hu; simp at hu
  · intro h; simp at h
  · simp

theorem di_pop {V : List Int} {s : Int → List Int} {e b : Int} {i : Nat} {r : List (Int × Nat)} {seen left : List Int} (D : DI V s e ⟨seen, left, (b, i) :: r⟩) (hi : (s b)[i]? = none) : DI V s e ⟨seen, b :: left, r⟩ := by
  obtain ⟨nd, snd, hs, sub, rp, at_, black, grey, bwd, fwd, hd, ent⟩ := D
  simp only [List.map_cons] at nd hs rp grey bwd fwd
  have hbl : b ∉ left := fun h => by
    have nd' := List.nodup_append.mp nd
    exact nd'.2.2 b (List.mem_cons_self ..) b h rfl
  have hbr : b ∉ r.map Prod.fst := fun h => by
    have nd' := (List.nodup_append.mp nd).1
    exact (List.nodup_cons.mp nd').1 h
  have nlr : ∀ x, x ∈ left → x ≠ b := fun x hx e1 => hbl (e1 ▸ hx)
  have nrb : ∀ x, x ∈ r.map Prod.fst → x ≠ b := fun x hx e1 => hbr (e1 ▸ hx)
  have nrl : ∀ x, x ∈ r.map Prod.fst → x ∉ left := fun x hx hl => (List.nodup_append.mp nd).2.2 x (List.mem_cons_of_mem _ hx) x hl rfl
  have hscan := at_ b i (List.mem_cons_self ..)
  have hlen : (s b).length ≤ i := List.getElem?_eq_none_iff.mp hi
  have hsb : ∀ v, v ∈ s b → v ∈ seen := fun v hv => by
    obtain ⟨j, hj⟩ := List.getElem?_of_mem hv
    have : j < (s b).length := (List.getElem?_eq_some_iff.mp hj).1
    exact hscan.2 j v (by omega) hj
  constructor
  · show (r.map Prod.fst ++ b :: left).Nodup
    have : (b :: (r.map Prod.fst ++ left)).Nodup := nd
    obtain ⟨n1, n2⟩ := List.nodup_cons.mp this
    refine List.nodup_append.mpr ⟨(List.nodup_append.mp n2).1, List.nodup_cons.mpr ⟨hbl, (List.nodup_append.mp n2).2.1⟩, ?_⟩
    intro x hx y hy exy
    subst exy
    rcases List.mem_cons.mp hy with z | z
    · exact nrb x hx z
    · exact nrl x hx z
  · exact snd
  · intro x
    refine (hs x).trans ⟨fun h => ?_, fun h => ?_⟩
    · rcases h with h | h
      · rcases List.mem_cons.mp h with rfl | h
        · exact .inr (List.mem_cons_self ..)
        · exact .inl h
      · exact .inr (List.mem_cons_of_mem _ h)
    · rcases h with h | h
      · exact .inl (List.mem_cons_of_mem _ h)
      · rcases List.mem_cons.mp h with rfl | h
        · exact .inl (List.mem_cons_self ..)
        · exact .inr h
  · exact sub
  · exact rp.tail
  · exact fun c j hc => at_ c j (List.mem_cons_of_mem _ hc)
  · intro u v hu hv
    rcases List.mem_cons.mp hu with rfl | hu
    · exact hsb v hv
    · exact black u v hu hv
  · -- grey
    intro u v hu hv hvr
    have hvb : v ≠ b := nrb v hvr
    have eix : (b :: r.map Prod.fst).idxOf v = (r.map Prod.fst).idxOf v + 1 := idx_cons_ne hvb
    rcases List.mem_cons.mp hu with rfl | hu
    · obtain ⟨p, hp, m⟩ := rp.up (List.mem_cons_of_mem _ hvr)
      refine ⟨p, hp, fun x hx => ?_⟩
      have := m x hx
      rw [eix, List.take_succ_cons] at this
      rcases List.mem_cons.mp this with rfl | z
      · exact .inl (List.mem_cons_self ..)
      · exact .inr z
    · obtain ⟨p, hp, m⟩ := grey u v hu hv (List.mem_cons_of_mem _ hvr)
      refine ⟨p, hp, fun x hx => ?_⟩
      rcases m x hx with z | z
      · exact .inl (List.mem_cons_of_mem _ z)
      · rw [eix, List.take_succ_cons] at z
        rcases List.mem_cons.mp z with rfl | z
        · exact .inl (List.mem_cons_self ..)
        · exact .inr z
  · -- bwd
    intro u v hu hv hvl hle
    show ∃ p, Path s v p u ∧ ∀ x, x ∈ p → x ∈ b :: left ∧ (b :: left).idxOf v ≤ (b :: left).idxOf x
    have hle : (b :: left).idxOf v ≤ (b :: left).idxOf u := hle
    by_cases evb : v = b
    · subst evb
      have e0 : (v :: left).idxOf v = 0 := by simp
      rcases List.mem_cons.mp hu with rfl | hu
      · exact ⟨[u], .one u, fun x hx => by
          obtain rfl : x = u := by simpa using hx
          exact ⟨List.mem_cons_self .., Nat.le_refl _⟩⟩
      · obtain ⟨p, hp, m⟩ := grey u v hu hv (List.mem_cons_self ..)
        refine ⟨p, hp, fun x hx => ⟨?_, by rw [e0]; exact Nat.zero_le _⟩⟩
        rcases m x hx with z | z
        · exact List.mem_cons_of_mem _ z
        · rw [List.idxOf_cons_self, List.take_succ_cons] at z
          rcases List.mem_cons.mp z with rfl | z
          · exact List.mem_cons_self ..
          · simp at z
    · have hvl' : v ∈ left := by
        rcases List.mem_cons.mp hvl with z | z
        · exact absurd z evb
        · exact z
      rcases List.mem_cons.mp hu with rfl | hu
      · rw [idx_cons_ne evb, List.idxOf_cons_self] at hle
        omega
      · rw [idx_cons_ne evb, idx_cons_ne (nlr u hu)] at hle
        obtain ⟨p, hp, m⟩ := bwd u v hu hv hvl' (by show left.idxOf v ≤ left.idxOf u; omega)
        refine ⟨p, hp, fun x hx => ?_⟩
        obtain ⟨m1, m2⟩ := m x hx
        have m1 : x ∈ left := m1
        have m2 : left.idxOf v ≤ left.idxOf x := m2
        refine ⟨List.mem_cons_of_mem _ m1, ?_⟩
        rw [idx_cons_ne evb, idx_cons_ne (nlr x m1)]
        omega
  · -- fwd
    intro u hu
    show ∃ p, Path s e p u ∧ ∀ x, x ∈ p → x = u ∨ x ∈ r.map Prod.fst ∨ (x ∈ b :: left ∧ (b :: left).idxOf x < (b :: left).idxOf u)
    rcases List.mem_cons.mp hu with rfl | hu
    · obtain ⟨p, hp, m⟩ := rp.path
      refine ⟨p, hp, fun x hx => ?_⟩
      rcases List.mem_cons.mp (m x hx) with z | z
      · exact .inl z
      · exact .inr (.inl z)
    · obtain ⟨p, hp, m⟩ := fwd u hu
      refine ⟨p, hp, fun x hx => ?_⟩
      rcases m x hx with z | z | ⟨z1, z2⟩
      · exact .inl z
      · rcases List.mem_cons.mp z with z | z
        · refine .inr (.inr ⟨by rw [z]; exact List.mem_cons_self .., ?_⟩)
          rw [z, List.idxOf_cons_self, idx_cons_ne (nlr u hu)]
          omega
        · exact .inr (.inl z)
      · have z1 : x ∈ left := z1
        have z2 : left.idxOf x < left.idxOf u := z2
        refine .inr (.inr ⟨List.mem_cons_of_mem _ z1, ?_⟩)
        rw [idx_cons_ne (nlr x z1), idx_cons_ne (nlr u hu)]
        omega
  · intro hr
    have hr : r = [] := hr
    subst hr
    have := rp.last (by simp)
    simp at this
    show (b :: left).head? = some e
    rw [this]; rfl
  · exact ent

theorem di_scan {V : List Int} {s : Int → List Int} {e b o : Int} {i : Nat} {r : List (Int × Nat)} {seen left : List Int} (D : DI V s e ⟨seen, left, (b, i) :: r⟩) (hi : (s b)[i]? = some o) (ho : o ∈ seen) : DI V s e ⟨seen, left, (b, i + 1) :: r⟩ := by
  obtain ⟨nd, snd, hs, sub, rp, at_, black, grey, bwd, fwd, hd, ent⟩ := D
  refine ⟨nd, snd, hs, sub, rp, fun c j hc => ?_, black, grey, bwd, fwd, fun h => by simp at h, ent⟩
  rcases List.mem_cons.mp hc with z | z
  · cases z
    have h0 := at_ b i (List.mem_cons_self ..)
    have : i < (s b).length := (List.getElem?_eq_some_iff.mp hi).1
    refine ⟨this, fun j o' hj hjo => ?_⟩
    by_cases e1 : j = i
    · subst e1
      rw [hi] at hjo
      cases hjo
      exact ho
    · exact h0.2 j o' (by omega) hjo
  · exact at_ c j (List.mem_cons_of_mem _ z)

theorem di_push {V : List Int} {s : Int → List Int} {e b o : Int} {i : Nat} {r : List (Int × Nat)} {seen left : List Int} (D : DI V s e ⟨seen, left, (b, i) :: r⟩) (hi : (s b)[i]? = some o) (ho : o ∉ seen) (hV : o ∈ V) :
    DI V s e ⟨seen ++ [o], left, (o, 0) :: (b, i + 1) :: r⟩ := by
  obtain ⟨nd, snd, hs, sub, rp, at_, black, grey, bwd, fwd, hd, ent⟩ := D
  simp only [List.map_cons] at nd hs rp grey bwd fwd
  have hos : o ∉ b :: r.map Prod.fst := fun h => ho ((hs o).mpr (.inl h))
  have hol : o ∉ left := fun h => ho ((hs o).mpr (.inr h))
  have hob : o ∈ s b := List.mem_of_getElem? hi
  constructor
  · show (o :: (b :: r.map Prod.fst ++ left)).Nodup
    refine List.nodup_cons.mpr ⟨fun h => ?_, nd⟩
    rcases List.mem_append.mp h with z | z
    · exact hos z
    · exact hol z
  · exact List.nodup_append.mpr ⟨snd, by simp, fun x hx y hy exy => by
      have : y = o := by simpa using hy
      exact ho (this ▸ exy ▸ hx)⟩
  · intro x
    show x ∈ seen ++ [o] ↔ x ∈ o :: b :: r.map Prod.fst ∨ x ∈ left
    rw [List.mem_append, show x ∈ seen ↔ x ∈ b :: r.map Prod.fst ∨ x ∈ left from hs x, List.mem_singleton, List.mem_cons (b := o)]
    constructor
    · rintro ((h | h) | h)
      · exact .inl (.inr h)
      · exact .inr h
      · exact .inl (.inl h)
    · rintro ((h | h) | h)
      · exact .inr h
      · exact .inl (.inl h)
      · exact .inl (.inr h)
  · intro x hx
    rcases List.mem_append.mp hx with z | z
    · exact sub x z
    · obtain rfl : x = o := by simpa using z
      exact hV
  · exact .cons hob rp
  · intro c j hc
    rcases List.mem_cons.mp hc with z | z
    · cases z
      exact ⟨Nat.zero_le _, fun j o' hj => absurd hj (Nat.not_lt_zero _)⟩
    · rcases List.mem_cons.mp z with z | z
      · cases z
        have h0 := at_ b i (List.mem_cons_self ..)
        have hl : i < (s b).length := (List.getElem?_eq_some_iff.mp hi).1
        refine ⟨hl, fun j o' hj hjo => ?_⟩
        by_cases e1 : j = i
        · subst e1
          rw [hi] at hjo
          cases hjo
          exact List.mem_append_right _ (by simp)
        · exact List.mem_append_left _ (h0.2 j o' (by omega) hjo)
      · obtain ⟨a1, a2⟩ := at_ c j (List.mem_cons_of_mem _ z)
        exact ⟨a1, fun j' o' hj hjo => List.mem_append_left _ (a2 j' o' hj hjo)⟩
  · exact fun u v hu hv => List.mem_append_left _ (black u v hu hv)
  · intro u v hu hv hvr
    have hvo : v ≠ o := fun z => ho (z ▸ black u v hu hv)
    have hvr' : v ∈ b :: r.map Prod.fst := by
      have hvr : v ∈ o :: b :: r.map Prod.fst := hvr
      rcases List.mem_cons.mp hvr with z | z
      · exact absurd z hvo
      · exact z
    obtain ⟨p, hp, m⟩ := grey u v hu hv hvr'
    refine ⟨p, hp, fun x hx => ?_⟩
    rcases m x hx with z | z
    · exact .inl z
    · refine .inr ?_
      show x ∈ (o :: b :: r.map Prod.fst).take ((o :: b :: r.map Prod.fst).idxOf v + 1)
      rw [idx_cons_ne hvo, List.take_succ_cons]
      exact List.mem_cons_of_mem _ z
  · exact bwd
  · intro u hu
    obtain ⟨p, hp, m⟩ := fwd u hu
    refine ⟨p, hp, fun x hx => ?_⟩
    rcases m x hx with z | z | z
    · exact .inl z
    · exact .inr (.inl (List.mem_cons_of_mem _ z))
    · exact .inr (.inr z)
  · intro h; simp at h
  · exact List.mem_append_left _ ent

theorem di_step {V : List Int} {s : Int → List Int} {e : Int} {d : DS} (hV : ∀ u v, u ∈ V → v ∈ s u → v ∈ V) (D : DI V s e d) : DI V s e (dstep s d) := by
  obtain ⟨seen, left, st⟩ := d
  unfold dstep
  match st, D with
  | [], D => exact D
  | (b, i) :: r, D =>
    show DI V s e (match (s b)[i]? with
      | none => ⟨seen, b :: left, r⟩
      | some o => if o ∈ seen then ⟨seen, left, (b, i + 1) :: r⟩ else ⟨seen ++ [o], left, (o, 0) :: (b, i + 1) :: r⟩)
    cases hi : (s b)[i]? with
    | none => exact di_pop D hi
    | some o =>
      show DI V s e (if o ∈ seen then ⟨seen, left, (b, i + 1) :: r⟩ else ⟨seen ++ [o], left, (o, 0) :: (b, i + 1) :: r⟩)
      split
      · rename_i h; exact di_scan D hi h
      · rename_i h
        refine di_push D hi h (hV b o (D.sub b ((D.seen b).mpr (.inl (by simp)))) (List.mem_of_getElem? hi))

theorem sum_filter_drop {V : List Int} {f : Int → Nat} {P Q : Int → Bool} {o : Int} (hV : o ∈ V) (hP : P o = true) (hQ : Q o = false) (hPQ : ∀ v, Q v = true → P v = true) :
    ((V.filter Q).map f).sum + f o ≤ ((V.filter P).map f).sum := by
  induction V with
  | nil => simp at hV
  | cons v r ih =>
    by_cases e : o = v
    · subst e
      have : ∀ l : List Int, ((l.filter Q).map f).sum ≤ ((l.filter P).map f).sum := by
        intro l
        induction l with
        | nil => simp
        | cons x l ih =>
          simp only [List.filter_cons]
          cases h1 : Q x with
          | true =>
            rw [hPQ x h1]
            simp only [if_true, List.map_cons, List.sum_cons]; omega
          | false =>
            cases P x with
            | true => simp only [if_true, Bool.false_eq_true, if_false, List.map_cons, List.sum_cons]; omega
            | false => simp only [Bool.false_eq_true, if_false]; exact ih
      have := this r
      simp only [List.filter_cons, hP, hQ, if_true, Bool.false_eq_true, if_false, List.map_cons, List.sum_cons]
      omega
    · have ho : o ∈ r := by
        rcases List.mem_cons.mp hV with z | z
        · exact absurd z e
        · exact z
      have := ih ho
      simp only [List.filter_cons]
      cases h1 : Q v with
      | true =>
        rw [hPQ v h1]
        simp only [if_true, List.map_cons, List.sum_cons]; omega
      | false =>
        cases P v with
        | true => simp only [if_true, Bool.false_eq_true, if_false, List.map_cons, List.sum_cons]; omega
        | false => simp only [Bool.false_eq_true, if_false]; exact this

theorem dmu_step {V : List Int} {s : Int → List Int} {e : Int} {d : DS} (hV : ∀ u v, u ∈ V → v ∈ s u → v ∈ V) (D : DI V s e d) (hn : d.st ≠ []) : dmu V s (dstep s d) < dmu V s d := by
  obtain ⟨seen, left, st⟩ := d
  match st, D, hn with
  | (b, i) :: r, D, _ =>
    unfold dstep
    show dmu V s (match (s b)[i]? with
      | none => ⟨seen, b :: left, r⟩
      | some o => if o ∈ seen then ⟨seen, left, (b, i + 1) :: r⟩ else ⟨seen ++ [o], left, (o, 0) :: (b, i + 1) :: r⟩) < _
    cases hi : (s b)[i]? with
    | none =>
      simp only [dmu, List.map_cons, List.sum_cons]
      omega
    | some o =>
      have hl : i < (s b).length := (List.getElem?_eq_some_iff.mp hi).1
      show dmu V s (if o ∈ seen then ⟨seen, left, (b, i + 1) :: r⟩ else ⟨seen ++ [o], left, (o, 0) :: (b, i + 1) :: r⟩) < _
      split
      · simp only [dmu, List.map_cons, List.sum_cons]
        omega
      · rename_i h
        have hoV : o ∈ V := hV b o (D.sub b ((D.seen b).mpr (.inl (by simp)))) (List.mem_of_getElem? hi)
        have := sum_filter_drop (V := V) (f := fun v => 2 * (s v).length + 2) (P := fun v => decide (v ∉ seen)) (Q := fun v => decide (v ∉ seen ++ [o])) hoV (by simp [h]) (by simp) (by
          intro v hv
          simp at hv ⊢
          exact hv.1)
        simp only [dmu, List.map_cons, List.sum_cons]
        omega

/-- the facts of the order -/
structure Ord (V : List Int) (s : Int → List Int) (e : Int) (l : List Int) : Prop where
  nd : l.Nodup
  hd : l.head? = some e
  sub : ∀ x, x ∈ l → x ∈ V
  clo : ∀ u v, u ∈ l → v ∈ s u → v ∈ l
  bwd : ∀ u v, u ∈ l → v ∈ s u → l.idxOf v ≤ l.idxOf u → ∃ p, Path s v p u ∧ ∀ x, x ∈ p → x ∈ l ∧ l.idxOf v ≤ l.idxOf x
  fwd : ∀ u, u ∈ l → ∃ p, Path s e p u ∧ ∀ x, x ∈ p → x = u ∨ (x ∈ l ∧ l.idxOf x < l.idxOf u)
theorem DI.ord {V : List Int} {s : Int → List Int} {e : Int} {seen left : List Int} (D : DI V s e ⟨seen, left, []⟩) : Ord V s e left := by
  obtain ⟨nd, snd, hs, sub, rp, at_, black, grey, bwd, fwd, hd, ent⟩ := D
  have hs' : ∀ x, x ∈ seen ↔ x ∈ left := fun x => (hs x).trans ⟨fun h => h.elim (fun z => by simp at z) id, .inr⟩
  refine ⟨nd, hd rfl, fun x hx => sub x ((hs' x).mpr hx), fun u v hu hv => (hs' v).mp (black u v hu hv), fun u v hu hv hle => bwd u v hu hv ((hs' v).mp (black u v hu hv)) hle, fun u hu => ?_⟩
  obtain ⟨p, hp, m⟩ := fwd u hu
  refine ⟨p, hp, fun x hx => ?_⟩
  rcases m x hx with z | z | z
  · exact .inl z
  · simp at z
  · exact .inr z
theorem dfs_ord {V : List Int} {s : Int → List Int} {e : Int} (hV : ∀ u v, u ∈ V → v ∈ s u → v ∈ V) : ∀ (n : Nat) (d : DS), DI V s e d → dmu V s d ≤ n → Ord V s e (dfs s n d)
  | 0, d, D, h => by
    obtain ⟨seen, left, st⟩ := d
    match st, D, h with
    | [], D, _ => exact D.ord
    | (b, i) :: r, D, h => simp only [dmu, List.map_cons, List.sum_cons] at h; omega
  | n + 1, d, D, h => by
    unfold dfs
    split
    · rename_i hst
      obtain ⟨seen, left, st⟩ := d
      have hst : st = [] := hst
      subst hst
      exact D.ord
    · rename_i hst
      have := dmu_step hV D hst
      exact dfs_ord hV n _ (di_step hV D) (by omega)
def ordBy (V : List Int) (s : Int → List Int) (e : Int) : List Int := dfs s (dmu V s (dinit e)) (dinit e)
theorem ordBy_ord {V : List Int} {s : Int → List Int} {e : Int} (hV : ∀ u v, u ∈ V → v ∈ s u → v ∈ V) (he : e ∈ V) : Ord V s e (ordBy V s e) := dfs_ord hV _ _ (di_init he) (Nat.le_refl _)
/-- a loop that makes these steps: m is its measure -/
structure DL (V : List Int) (s : Int → List Int) (e : Int) (m : Nat) (d : DS) : Prop where
  di : DI V s e d
  mu : dmu V s d ≤ m
  res : dfs s m d = ordBy V s e
theorem dl_init {V : List Int} {s : Int → List Int} {e : Int} (he : e ∈ V) : DL V s e (dmu V s (dinit e)) (dinit e) := ⟨di_init he, Nat.le_refl _, rfl⟩
theorem dl_step {V : List Int} {s : Int → List Int} {e : Int} (hV : ∀ u v, u ∈ V → v ∈ s u → v ∈ V) {m : Nat} {d : DS} (h : DL V s e m d) (hn : d.st ≠ []) : ∃ m', m' < m ∧ DL V s e m' (dstep s d) := by
  have h1 := dmu_step hV h.di hn
  have h2 := h.mu
  match m, h with
  | 0, h => omega
  | m + 1, h =>
    refine ⟨m, Nat.lt_succ_self _, di_step hV h.di, by omega, ?_⟩
    have h3 := h.res
    unfold dfs at h3
    rw [if_neg hn] at h3
    exact h3
theorem dl_end {V : List Int} {s : Int → List Int} {e : Int} {m : Nat} {seen left : List Int} (h : DL V s e m ⟨seen, left, []⟩) : left = ordBy V s e := by
  have := h.res
  cases m with
  | zero => exact this
  | succ m => exact this
end BT
namespace BT
/-- a path from e, newest block first; the number of its ways that go back by the rank r -/
inductive RPath (s : Int → List Int) (r : Int → Nat) (e : Int) : Int → List Int → Nat → Prop
  | start : RPath s r e e [e] 0
  | step {u v : Int} {p : List Int} {k : Nat} : RPath s r e u p k → v ∈ s u → RPath s r e v (v :: p) (k + if r v ≤ r u then 1 else 0)
section
variable {s : Int → List Int} {r : Int → Nat} {e b c d u v x n m : Int} {p q : List Int} {k : Nat}
theorem RPath.mem_end (h : RPath s r e c p k) : c ∈ p := by cases h <;> simp
theorem RPath.mem_start (h : RPath s r e c p k) : e ∈ p := by
  induction h with
  | start => simp
  | step _ _ ih => exact List.mem_cons_of_mem _ ih
theorem RPath.split (h : RPath s r e c p k) (hx : x ∈ p) : ∃ p1 k1, RPath s r e x p1 k1 ∧ (∀ y, y ∈ p1 → y ∈ p) ∧ k1 ≤ k := by
  induction h with
  | start =>
    obtain rfl : x = e := by simpa using hx
    exact ⟨_, _, .start, fun _ h => h, Nat.le_refl _⟩
  | @step u v p k hp hv ih =>
    by_cases e1 : x = v
    · subst e1
      exact ⟨_, _, .step hp hv, fun _ h => h, Nat.le_refl _⟩
    · have hx' : x ∈ p := (List.mem_cons.mp hx).resolve_left e1
      obtain ⟨p1, k1, h1, h2, h3⟩ := ih hx'
      exact ⟨p1, k1, h1, fun y hy => List.mem_cons_of_mem _ (h2 y hy), by omega⟩
theorem RPath.lt (h : RPath s r e c p k) : k < p.length := by
  induction h with
  | start => simp
  | step _ _ ih => simp only [List.length_cons]; split <;> omega
theorem RPath.then (h : RPath s r e u p k) (h2 : Path s u q v) : ∃ p' k', RPath s r e v p' k' ∧ (∀ y, y ∈ p' → y ∈ p ∨ y ∈ q) := by
  induction h2 generalizing p k with
  | one a => exact ⟨p, k, h, fun y hy => .inl hy⟩
  | @cons a o b q ho h3 ih =>
    obtain ⟨p', k', h4, h5⟩ := ih (.step h ho)
    refine ⟨p', k', h4, fun y hy => ?_⟩
    rcases h5 y hy with z | z
    · rcases List.mem_cons.mp z with z | z
      · exact .inr (List.mem_cons_of_mem _ (by rw [z]; exact h3.mem_start))
      · exact .inl z
    · exact .inr (List.mem_cons_of_mem _ z)
theorem RPath.of_path (h2 : Path s e q v) : ∃ p' k', RPath s r e v p' k' ∧ ∀ y, y ∈ p' → y ∈ q := by
  obtain ⟨p', k', h, m⟩ := RPath.then (r := r) (.start (e := e)) h2
  exact ⟨p', k', h, fun y hy => (m y hy).elim (fun z => by have z : y = e := by simpa using z
                                                           rw [z]; exact h2.mem_start) id⟩
theorem RPath.path (h : RPath s r e c p k) : ∃ q, Path s e q c ∧ (∀ y, y ∈ q → y ∈ p) := by
  induction h with
  | start => exact ⟨[e], .one e, fun _ h => h⟩
  | @step u v p k hp hv ih =>
    obtain ⟨q, hq, m⟩ := ih
    refine ⟨q ++ [v], hq.snoc hv, fun y hy => ?_⟩
    rcases List.mem_append.mp hy with z | z
    · exact List.mem_cons_of_mem _ (m y z)
    · have z : y = v := by simpa using z
      rw [z]; exact List.mem_cons_self ..
/-- every path is no less than one whose ways that go back are fewer than its blocks, each once -/
theorem RPath.short (h : RPath s r e c p k) : ∃ p' k', RPath s r e c p' k' ∧ p'.Nodup ∧ ∀ y, y ∈ p' → y ∈ p := by
  induction h with
  | start => exact ⟨_, _, .start, by simp, fun _ h => h⟩
  | @step u v p k hp hv ih =>
    obtain ⟨p', k', h', nd, m⟩ := ih
    by_cases hvp : v ∈ p'
    · have : ∀ {c : Int} {p : List Int} {k : Nat}, RPath s r e c p k → p.Nodup → v ∈ p → ∃ p1 k1, RPath s r e v p1 k1 ∧ p1.Nodup ∧ ∀ y, y ∈ p1 → y ∈ p := by
        intro c p k h
        induction h with
        | start =>
          intro nd hx
          obtain rfl : v = e := by simpa using hx
          exact ⟨_, _, .start, nd, fun _ h => h⟩
        | @step u2 v2 p2 k2 hp2 hv2 ih2 =>
          intro nd hx
          by_cases e1 : v = v2
          · subst e1
            exact ⟨_, _, .step hp2 hv2, nd, fun _ h => h⟩
          · obtain ⟨p1, k1, h1, h2, h3⟩ := ih2 (List.nodup_cons.mp nd).2 ((List.mem_cons.mp hx).resolve_left e1)
            exact ⟨p1, k1, h1, h2, fun y hy => List.mem_cons_of_mem _ (h3 y hy)⟩
      obtain ⟨p1, k1, h1, h2, h3⟩ := this h' nd hvp
      exact ⟨p1, k1, h1, h2, fun y hy => List.mem_cons_of_mem _ (m y (h3 y hy))⟩
    · refine ⟨_, _, .step h' hv, List.nodup_cons.mpr ⟨hvp, nd⟩, fun y hy => ?_⟩
      rcases List.mem_cons.mp hy with z | z
      · rw [z]; exact List.mem_cons_self ..
      · exact List.mem_cons_of_mem _ (m y z)
end
/-- every path from e to c goes through d -/
def Dom (s : Int → List Int) (e d c : Int) : Prop := ∀ p, Path s e p c → d ∈ p
section
variable {s : Int → List Int} {r : Int → Nat} {e b c d u v x n m : Int} {p q : List Int} {k : Nat}
theorem Dom.rpath (h : Dom s e d c) (hp : RPath s r e c p k) : d ∈ p := by
  obtain ⟨q, hq, m⟩ := hp.path
  exact m d (h q hq)
theorem Dom.of_r (h : ∀ p k, RPath s r e c p k → d ∈ p) : Dom s e d c := fun p hp => by
  obtain ⟨p', k', h', m⟩ := RPath.of_path (r := r) hp
  exact m d (h p' k' h')
theorem Dom.self : Dom s e c c := fun p hp => hp.mem_end
theorem Dom.entry : Dom s e e c := fun p hp => hp.mem_start
theorem Dom.pred (h : Dom s e d b) (hn : d ≠ b) (hu : b ∈ s u) : Dom s e d u := fun p hp => by
  have := h _ (hp.snoc hu)
  rcases List.mem_append.mp this with z | z
  · exact z
  · exact absurd (by simpa using z) hn
/-- d is on the chain of c by N -/
inductive Anc (N : Int → Option Int) (e : Int) : Int → Int → Prop
  | refl (c : Int) : Anc N e c c
  | up {c n d : Int} : N c = some n → c ≠ e → Anc N e d n → Anc N e d c
variable {N N' : Int → Option Int} {l V : List Int}
theorem Anc.trans (h1 : Anc N e d c) (h2 : Anc N e c b) : Anc N e d b := by
  induction h2 with
  | refl => exact h1
  | up hn he _ ih => exact .up hn he (ih h1)
/-- what holds of nearest between two updates -/
structure NI (s : Int → List Int) (l : List Int) (e : Int) (N : Int → Option Int) : Prop where
  ent : N e = some e
  dom : ∀ c n, N c = some n → c ∈ l
  T : ∀ c n, N c = some n → c ≠ e → (∃ m, N n = some m) ∧ l.idxOf n < l.idxOf c
  C : ∀ c n, N c = some n → c ≠ e → ∃ p, Path s n p c ∧ ∀ x, x ∈ p → l.idxOf n ≤ l.idxOf x
  A : ∀ c d n, N c = some n → Dom s e d c → Anc N e d c
theorem NI.anc_le (I : NI s l e N) (h : Anc N e d c) : l.idxOf d ≤ l.idxOf c := by
  induction h with
  | refl => exact Nat.le_refl _
  | up hn he _ ih => have := (I.T _ _ hn he).2; omega
theorem NI.anc_dom (I : NI s l e N) (h : Anc N e d c) : ∀ n, N c = some n → ∃ m, N d = some m := by
  induction h with
  | refl => exact fun n hn => ⟨n, hn⟩
  | up hn he _ ih =>
    obtain ⟨⟨m, hm⟩, _⟩ := I.T _ _ hn he
    exact fun _ _ => ih m hm
theorem NI.anc_path (I : NI s l e N) (h : Anc N e d c) : ∃ p, Path s d p c ∧ ∀ x, x ∈ p → l.idxOf d ≤ l.idxOf x := by
  induction h with
  | refl c => exact ⟨[c], .one c, fun x hx => by
      have hx : x = c := by simpa using hx
      rw [hx]; exact Nat.le_refl _⟩
  | @up c n d hn he hd ih =>
    obtain ⟨p, hp, mp⟩ := ih
    obtain ⟨q, hq, mq⟩ := I.C c n hn he
    obtain ⟨t, ht, mt⟩ := hp.join hq
    refine ⟨t, ht, fun x hx => ?_⟩
    rcases mt x hx with z | z
    · exact mp x z
    · have := mq x z
      have := I.anc_le hd
      omega
/-- the meet of some -/
structure Meet (N : Int → Option Int) (e : Int) (ps : List Int) (m : Int) : Prop where
  low : ∀ p, p ∈ ps → Anc N e m p
  great : ∀ d, (∀ p, p ∈ ps → Anc N e d p) → Anc N e d m
theorem NI.anc_anti (I : NI s l e N) (h1 : Anc N e d c) (h2 : Anc N e c d) : d = c := by
  cases h1 with
  | refl => rfl
  | up hn he h =>
    have a := I.anc_le h
    have b := (I.T _ _ hn he).2
    have c := I.anc_le h2
    omega
end
/-- one update: N b becomes m -/
def setN (N : Int → Option Int) (b m : Int) : Int → Option Int := fun x => if x = b then some m else N x
section
variable {s : Int → List Int} {e b c d u v x n m : Int} {ps : List Int} {N : Int → Option Int} {l V : List Int}
theorem setN_ne (h : x ≠ b) : setN N b m x = N x := by unfold setN; rw [if_neg h]
theorem setN_same : setN N b m b = some m := by unfold setN; rw [if_pos rfl]
theorem NI.anc_below (I : NI s l e N) (h : Anc N e d x) : l.idxOf x < l.idxOf b → Anc (setN N b m) e d x := by
  induction h with
  | refl c => exact fun _ => .refl c
  | @up c n d hn he hd ih =>
    intro hb
    have h1 := (I.T _ _ hn he).2
    have : c ≠ b := fun z => by rw [z] at hb; omega
    exact .up (by rw [setN_ne this]; exact hn) he (ih (by omega))
theorem NI.anc_below' (I : NI s l e N) (h : Anc (setN N b m) e d x) : l.idxOf x < l.idxOf b → Anc N e d x := by
  induction h with
  | refl c => exact fun _ => .refl c
  | @up c n d hn he hd ih =>
    intro hb
    have : c ≠ b := fun z => by rw [z] at hb; omega
    rw [setN_ne this] at hn
    have h1 := (I.T _ _ hn he).2
    exact .up hn he (ih (by omega))
/-- what an update is given -/
structure Upd (s : Int → List Int) (l : List Int) (e : Int) (N : Int → Option Int) (b : Int) (ps : List Int) (m : Int) : Prop where
  bl : b ∈ l
  be : b ≠ e
  pre : ∀ p, p ∈ ps → b ∈ s p ∧ ∃ n, N p = some n
  tree : ∃ p, p ∈ ps ∧ l.idxOf p < l.idxOf b
  meet : Meet N e ps m
theorem Upd.lt (I : NI s l e N) (U : Upd s l e N b ps m) : l.idxOf m < l.idxOf b := by
  obtain ⟨p, hp, hl⟩ := U.tree
  have := I.anc_le (U.meet.low p hp)
  omega
theorem Upd.dom (I : NI s l e N) (U : Upd s l e N b ps m) : ∃ n, N m = some n := by
  obtain ⟨p, hp, hl⟩ := U.tree
  obtain ⟨n, hn⟩ := (U.pre p hp).2
  exact I.anc_dom (U.meet.low p hp) n hn
theorem Upd.above (I : NI s l e N) (U : Upd s l e N b ps m) (hd : Dom s e d b) (hn : d ≠ b) : Anc (setN N b m) e d b := by
  have h1 : Anc N e d m := U.meet.great d fun p hp => by
    obtain ⟨h1, n, h2⟩ := U.pre p hp
    exact I.A p d n h2 (hd.pred hn h1)
  exact .up setN_same U.be (I.anc_below h1 (U.lt I))
theorem NI.set (I : NI s l e N) (U : Upd s l e N b ps m) : NI s l e (setN N b m) := by
  have hlt := U.lt I
  obtain ⟨nm, hm⟩ := U.dom I
  have hmb : m ≠ b := fun z => by rw [z] at hlt; omega
  refine ⟨by rw [setN_ne U.be.symm]; exact I.ent, fun c n h => ?_, fun c n h he => ?_, fun c n h he => ?_, fun c d n h hd => ?_⟩
  · by_cases e1 : c = b
    · rw [e1]; exact U.bl
    · rw [setN_ne e1] at h; exact I.dom c n h
  · by_cases e1 : c = b
    · rw [e1, setN_same] at h
      obtain rfl : m = n := Option.some.inj h
      rw [e1]
      exact ⟨⟨nm, by rw [setN_ne hmb]; exact hm⟩, hlt⟩
    · rw [setN_ne e1] at h
      obtain ⟨⟨k, hk⟩, h2⟩ := I.T c n h he
      refine ⟨?_, h2⟩
      by_cases e2 : n = b
      · exact ⟨m, by rw [e2]; exact setN_same⟩
      · exact ⟨k, by rw [setN_ne e2]; exact hk⟩
  · by_cases e1 : c = b
    · rw [e1, setN_same] at h
      obtain rfl : m = n := Option.some.inj h
      rw [e1]
      obtain ⟨p, hp, hl⟩ := U.tree
      obtain ⟨q, hq, mq⟩ := I.anc_path (U.meet.low p hp)
      refine ⟨q ++ [b], hq.snoc (U.pre p hp).1, fun x hx => ?_⟩
      rcases List.mem_append.mp hx with z | z
      · exact mq x z
      · have z : x = b := by simpa using z
        rw [z]; omega
    · rw [setN_ne e1] at h
      exact I.C c n h he
  · -- A
    by_cases ecb : c = b
    · rw [ecb] at hd ⊢
      by_cases edb : d = b
      · rw [edb]; exact .refl b
      · exact U.above I hd edb
    · rw [setN_ne ecb] at h
      have h0 := I.A c d n h hd
      have key : ∀ x, Anc N e d x → Anc N e x c → Anc (setN N b m) e d x := by
        intro x hx
        induction hx with
        | refl y => exact fun _ => .refl y
        | @up y ny d hny hye hdn ih =>
          intro hyc
          by_cases eyb : y = b
          · subst eyb
            have hb1 := I.anc_le hdn
            have hb2 := (I.T _ _ hny hye).2
            have hdy : d ≠ y := fun z => by rw [z] at hb1; omega
            refine U.above I ?_ hdy
            intro p hp
            obtain ⟨q, hq, mq⟩ := I.anc_path hyc
            obtain ⟨t, ht, mt⟩ := hp.join hq
            rcases mt d (hd t ht) with z | z
            · exact z
            · have := mq d z; omega
          · exact .up (by rw [setN_ne eyb]; exact hny) hye (ih hd h0 (.trans (.up hny hye (.refl _)) hyc))
      exact key c h0 (.refl c)
end
end BT
namespace BT
theorem idx_inj {l : List Int} {x y : Int} (hx : x ∈ l) (hy : y ∈ l) (h : l.idxOf x = l.idxOf y) : x = y := by
  have h1 : l.idxOf x < l.length := List.idxOf_lt_length_of_mem hx
  have h2 : l.idxOf y < l.length := List.idxOf_lt_length_of_mem hy
  have e1 : l[l.idxOf x] = x := List.getElem_idxOf h1
  have e2 : l[l.idxOf y] = y := List.getElem_idxOf h2
  rw [← e1, ← e2]
  congr 1
theorem idx_head {l : List Int} {e : Int} (h : l.head? = some e) : l.idxOf e = 0 := by
  cases l with
  | nil => cases h
  | cons a r =>
    obtain rfl : a = e := Option.some.inj h
    simp
section
variable {V : List Int} {s : Int → List Int} {e b c d u v x n m q : Int} {ps : List Int} {N : Int → Option Int} {l p : List Int} {k j : Nat} {f : Int → Nat}
theorem Ord.ent (O : Ord V s e l) : e ∈ l := List.mem_of_mem_head? (by rw [O.hd]; exact rfl)
theorem Ord.e0 (O : Ord V s e l) : l.idxOf e = 0 := idx_head O.hd
theorem Ord.is_e (O : Ord V s e l) (hx : x ∈ l) (h : l.idxOf x = 0) : x = e := idx_inj hx O.ent (h.trans O.e0.symm)
theorem RPath.inl (O : Ord V s e l) {r : Int → Nat} (h : RPath s r e c p k) : c ∈ l ∧ ∀ y, y ∈ p → y ∈ l := by
  induction h with
  | start => exact ⟨O.ent, fun y hy => by have hy : y = e := by simpa using hy
                                          rw [hy]; exact O.ent⟩
  | @step u v p k hp hv ih =>
    have hv' := O.clo u v ih.1 hv
    refine ⟨hv', fun y hy => ?_⟩
    rcases List.mem_cons.mp hy with z | z
    · rw [z]; exact hv'
    · exact ih.2 y z
/-- each chain lies on each path whose ways that go back are fewer than f says -/
def UU (s : Int → List Int) (l : List Int) (e : Int) (N : Int → Option Int) (f : Int → Nat) : Prop :=
  ∀ c p k n, RPath s (fun x => l.idxOf x) e c p k → k < f c → N c = some n → ∀ d, Anc N e d c → d ∈ p
def fj (l : List Int) (j k : Nat) : Int → Nat := fun x => if l.idxOf x < j then k + 1 else k
theorem uu_step (O : Ord V s e l) (I : NI s l e N) (U : Upd s l e N b ps m) (hj : l.idxOf b = j) (full : ∀ q n, q ∈ l → b ∈ s q → N q = some n → q ∈ ps)
    (done : ∀ x, x ∈ l → l.idxOf x < j → ∃ n, N x = some n) (all : 1 ≤ k → ∀ x, x ∈ l → ∃ n, N x = some n) (H : UU s l e N (fj l j k)) : UU s l e (setN N b m) (fj l (j + 1) k) := by
  have hlt := U.lt I
  intro c p k0 n hp hk hn d hd
  induction hd generalizing p k0 n with
  | refl c => exact hp.mem_end
  | @up c n' d hn' he hdn ih =>
    by_cases ecb : c = b
    · subst ecb
      rw [setN_same] at hn'
      obtain rfl : m = n' := Option.some.inj hn'
      have hdm : Anc N e d m := I.anc_below' hdn hlt
      cases hp with
      | start => exact absurd rfl he
      | @step u _ p k1 hp hv =>
        have hul := (hp.inl O).1
        refine List.mem_cons_of_mem _ ?_
        by_cases hf : l.idxOf u < l.idxOf c
        · obtain ⟨nu, hnu⟩ := done u hul (by omega)
          have hups := full u nu hul hv hnu
          refine H u p k1 nu hp ?_ hnu d (hdm.trans (U.meet.low u hups))
          have hk : k1 + (if l.idxOf c ≤ l.idxOf u then 1 else 0) < fj l (j + 1) k c := hk
          have e1 : fj l (j + 1) k c = k + 1 := if_pos (by omega)
          have e2 : fj l j k u = k + 1 := if_pos (by omega)
          have e3 : (if l.idxOf c ≤ l.idxOf u then 1 else 0) = 0 := if_neg (by omega)
          omega
        · have hk : k1 + (if l.idxOf c ≤ l.idxOf u then 1 else 0) < fj l (j + 1) k c := hk
          have e1 : fj l (j + 1) k c = k + 1 := if_pos (by omega)
          have e3 : (if l.idxOf c ≤ l.idxOf u then 1 else 0) = 1 := if_pos (by omega)
          have e2 : fj l j k u = k := if_neg (by omega)
          obtain ⟨nu, hnu⟩ := all (by omega) u hul
          have hups := full u nu hul hv hnu
          exact H u p k1 nu hp (by omega) hnu d (hdm.trans (U.meet.low u hups))
    · rw [setN_ne ecb] at hn'
      have hT := I.T c n' hn' he
      have hcb : l.idxOf c ≠ l.idxOf b := fun z => ecb (idx_inj (hp.inl O).1 U.bl z)
      have hfc : fj l (j + 1) k c = fj l j k c := by
        unfold fj
        by_cases h1 : l.idxOf c < j
        · rw [if_pos h1, if_pos (by omega)]
        · rw [if_neg h1, if_neg (by omega)]
      have hnp : n' ∈ p := H c p k0 n' hp (by rw [← hfc]; exact hk) hn' n' (.up hn' he (.refl _))
      obtain ⟨p1, k1, h1, m1, hle⟩ := hp.split hnp
      have hfn : fj l (j + 1) k c ≤ fj l (j + 1) k n' := by
        unfold fj
        by_cases h1 : l.idxOf c < j + 1
        · rw [if_pos h1, if_pos (by omega)]; omega
        · rw [if_neg h1]; split <;> omega
      by_cases enb : n' = b
      · exact m1 d (ih p1 k1 m h1 (by omega) (by rw [enb]; exact setN_same))
      · obtain ⟨k2, hk2⟩ := hT.1
        exact m1 d (ih p1 k1 k2 h1 (by omega) (by rw [setN_ne enb]; exact hk2))
theorem uu_dom (O : Ord V s e l) (H : UU s l e N f) (hc : N c = some n) (hf : l.length ≤ f c) (ha : Anc N e d c) : Dom s e d c := by
  refine Dom.of_r (r := fun x => l.idxOf x) fun p k hp => ?_
  obtain ⟨p', k', h', nd, m⟩ := hp.short
  refine m d (H c p' k' n h' ?_ hc d ha)
  have h1 := h'.lt
  have h2 := nodup_sub_len nd (h'.inl O).2
  omega
/-- when all is as it should be, an update changes nothing -/
theorem uu_stable (O : Ord V s e l) (I : NI s l e N) (U : Upd s l e N b ps m) (full : ∀ q, q ∈ l → b ∈ s q → q ∈ ps) (H : UU s l e N f) (hf : ∀ x, x ∈ l → l.length ≤ f x) (hb : N b = some n) : m = n := by
  have hT := I.T b n hb U.be
  have hnb : n ≠ b := fun z => by rw [z] at hT; omega
  have hmlt := U.lt I
  have hmb : m ≠ b := fun z => by rw [z] at hmlt; omega
  have dn : Dom s e n b := uu_dom O H hb (hf b U.bl) (.up hb U.be (.refl _))
  have a1 : Anc N e n m := U.meet.great n fun p hp => by
    obtain ⟨h1, np, h2⟩ := U.pre p hp
    exact I.A p n np h2 (dn.pred hnb h1)
  have dm : Dom s e m b := by
    refine Dom.of_r (r := fun x => l.idxOf x) fun p k hp => ?_
    cases hp with
    | start => exact absurd rfl U.be
    | @step u _ p k1 hp hv =>
      have hul := (hp.inl O).1
      have hups := full u hul hv
      obtain ⟨_, nu, hnu⟩ := U.pre u hups
      exact List.mem_cons_of_mem _ ((uu_dom O H hnu (hf u hul) (U.meet.low u hups)).rpath hp)
  have a2 : Anc N e m n := by
    have := I.A b m n hb dm
    cases this with
    | refl => exact absurd rfl hmb
    | up h1 h2 h3 =>
      rw [hb] at h1
      obtain rfl := Option.some.inj h1
      exact h3
  exact (I.anc_anti a1 a2).symm
/-- within a pass: k passes are done, in this one the first j of the line -/
structure PassI (s : Int → List Int) (l : List Int) (e : Int) (N : Int → Option Int) (k j : Nat) (ch : Bool) : Prop where
  ni : NI s l e N
  uu : UU s l e N (fj l j k)
  done : ∀ x, x ∈ l → l.idxOf x < j → ∃ n, N x = some n
  all : 1 ≤ k → ∀ x, x ∈ l → ∃ n, N x = some n
  first : k = 0 → ∀ x n, N x = some n → l.idxOf x < j
  still : ch = false → ∀ b q, b ∈ l → b ≠ e → l.idxOf b < j → q ∈ l → b ∈ s q → ∃ n, N b = some n ∧ Anc N e n q
  late : l.length ≤ k → ch = false
/-- between two passes -/
structure HI (s : Int → List Int) (l : List Int) (e : Int) (N : Int → Option Int) (k : Nat) (ch : Bool) : Prop where
  ni : NI s l e N
  uu : UU s l e N (fun _ => k)
  all : 1 ≤ k → ∀ x, x ∈ l → ∃ n, N x = some n
  first : k = 0 → ∀ x n, N x = some n → x = e
  still : ch = false → (∀ b q, b ∈ l → b ≠ e → q ∈ l → b ∈ s q → ∃ n, N b = some n ∧ Anc N e n q) ∧ 1 ≤ k
  lim : ch = true → k ≤ l.length
theorem anc_e (h : Anc N e d e) : d = e := by
  cases h with
  | refl => rfl
  | up _ h _ => exact absurd rfl h
theorem hi_init (O : Ord V s e l) : HI s l e (fun x => if x = e then some e else none) 0 true := by
  have key : ∀ x n, (if x = e then some e else none) = some n → x = e := fun x n h => by
    by_cases z : x = e
    · exact z
    · rw [if_neg z] at h; cases h
  refine ⟨⟨if_pos rfl, fun c n h => by rw [key c n h]; exact O.ent, fun c n h he => absurd (key c n h) he, fun c n h he => absurd (key c n h) he, fun c d n h hd => ?_⟩, fun c p k n hp hk => absurd hk (Nat.not_lt_zero _), fun h => absurd h (by omega), fun _ x n h => key x n h, fun h => Bool.noConfusion h, fun _ => Nat.zero_le _⟩
  have hc := key c n h
  subst hc
  have := hd [c] (.one c)
  have : d = c := by simpa using this
  rw [this]; exact .refl c
theorem pi_start (O : Ord V s e l) (h : HI s l e N k true) : PassI s l e N k 1 false := by
  refine ⟨h.ni, fun c p k0 n hp hk hn d hd => ?_, fun x hx hj => ⟨e, by rw [O.is_e hx (by omega)]; exact h.ni.ent⟩, h.all, fun hk x n hn => ?_, fun _ b q hb he hj => absurd (O.is_e hb (by omega)) he, fun _ => rfl⟩
  · by_cases h1 : l.idxOf c < 1
    · have := O.is_e (hp.inl O).1 (by omega)
      subst this
      rw [anc_e hd]; exact hp.mem_start
    · refine h.uu c p k0 n hp ?_ hn d hd
      unfold fj at hk
      rw [if_neg h1] at hk
      exact hk
  · rw [h.first hk x n hn, O.e0]; exact Nat.lt_succ_self 0
theorem pi_end {ch : Bool} (h : PassI s l e N k l.length ch) : HI s l e N (k + 1) ch := by
  have hl : ∀ x, x ∈ l → l.idxOf x < l.length := fun x hx => List.idxOf_lt_length_of_mem hx
  refine ⟨h.ni, fun c p k0 n hp hk hn d hd => h.uu c p k0 n hp ?_ hn d hd, fun _ x hx => h.done x hx (hl x hx), fun hk => by omega, fun hc => ⟨fun b q hb he hq hbq => h.still hc b q hb he (hl b hb) hq hbq, by omega⟩, fun hc => ?_⟩
  · unfold fj
    rw [if_pos (hl c (h.ni.dom c n hn))]
    exact hk
  · by_cases z : l.length ≤ k
    · have := h.late z; rw [hc] at this; cases this
    · omega
/-- one block of a pass -/
theorem pi_step {ch : Bool} (O : Ord V s e l) (h : PassI s l e N k j ch) (U : Upd s l e N b ps m) (hj : l.idxOf b = j) (full : ∀ q n, q ∈ l → b ∈ s q → N q = some n → q ∈ ps) :
    PassI s l e (setN N b m) k (j + 1) (ch || !decide (N b = some m)) := by
  have hx : ∀ x, x ∈ l → l.idxOf x < j + 1 → x = b ∨ l.idxOf x < j := fun x hx hl => by
    by_cases z : l.idxOf x < j
    · exact .inr z
    · exact .inl (idx_inj hx U.bl (by omega))
  have fill : ∀ x n, N x = some n → ∃ n, setN N b m x = some n := fun x n hn => by
    by_cases z : x = b
    · exact ⟨m, by rw [z]; exact setN_same⟩
    · exact ⟨n, by rw [setN_ne z]; exact hn⟩
  refine ⟨h.ni.set U, uu_step O h.ni U hj full h.done h.all h.uu, fun x hxl hl => ?_, fun hk x hxl => ?_, fun hk x n hn => ?_, fun hc b' q hb' he' hl hq hbq => ?_, fun hk => ?_⟩
  · rcases hx x hxl hl with z | z
    · exact ⟨m, by rw [z]; exact setN_same⟩
    · obtain ⟨n, hn⟩ := h.done x hxl z
      exact fill x n hn
  · obtain ⟨n, hn⟩ := h.all hk x hxl
    exact fill x n hn
  · by_cases z : x = b
    · rw [z]; omega
    · rw [setN_ne z] at hn
      have := h.first hk x n hn
      omega
  · simp only [Bool.or_eq_false_iff, Bool.not_eq_false', decide_eq_true_eq] at hc
    obtain ⟨hc1, hc2⟩ := hc
    have es : setN N b m = N := by
      funext x
      by_cases z : x = b
      · rw [z, setN_same, hc2]
      · exact setN_ne z
    rw [es]
    have hk : 1 ≤ k := by
      by_cases z : k = 0
      · have := h.first z b m hc2; omega
      · omega
    rcases hx b' hb' hl with z | z
    · rw [z] at hbq ⊢
      obtain ⟨nq, hnq⟩ := h.all hk q hq
      exact ⟨m, hc2, U.meet.low q (full q nq hq hbq hnq)⟩
    · exact h.still hc1 b' q hb' he' z hq hbq
  · rw [h.late hk, Bool.false_or]
    have hl1 : 1 ≤ l.length := List.length_pos_of_mem U.bl
    obtain ⟨n, hn⟩ := h.all (by omega) b U.bl
    have := uu_stable O h.ni U (fun q hq hb => by
      obtain ⟨nq, hnq⟩ := h.all (by omega) q hq
      exact full q nq hq hb hnq) h.uu (fun x _ => by unfold fj; split <;> omega) hn
    rw [this]
    simp [hn]
/-- at the end a chain is all that is above -/
theorem hi_dom (O : Ord V s e l) (h : HI s l e N k false) (hc : c ∈ l) : Anc N e d c ↔ Dom s e d c := by
  obtain ⟨fx, h1⟩ := h.still rfl
  constructor
  · intro ha
    refine Dom.of_r (r := fun x => l.idxOf x) fun p k hp => ?_
    clear hc
    induction hp generalizing d with
    | start => rw [anc_e ha]; simp
    | @step u v p k hp hv ih =>
      have hul := (hp.inl O).1
      by_cases ev : v = e
      · subst ev
        rw [anc_e ha]; simp
      · obtain ⟨n, hn, hu⟩ := fx v u (O.clo u v hul hv) ev hul hv
        cases ha with
        | refl => simp
        | up h1 h2 h3 =>
          rw [hn] at h1
          obtain rfl := Option.some.inj h1
          exact List.mem_cons_of_mem _ (ih (h3.trans hu))
  · intro hd
    obtain ⟨n, hn⟩ := h.all h1 c hc
    exact h.ni.A c d n hn hd
/-! ### the meet of two, and of some -/
structure ML (N : Int → Option Int) (e one0 other0 one other : Int) : Prop where
  a : Anc N e one one0
  b : Anc N e other other0
  g : ∀ d, Anc N e d one0 → Anc N e d other0 → Anc N e d one ∧ Anc N e d other
theorem ml_init {o1 o2 : Int} : ML N e o1 o2 o1 o2 := ⟨.refl _, .refl _, fun _ h1 h2 => ⟨h1, h2⟩⟩
theorem ml_one (I : NI s l e N) {o1 o2 one other : Int} (h : ML N e o1 o2 one other) (hn : N one = some n) (he : one ≠ e) (hlt : l.idxOf other < l.idxOf one) : ML N e o1 o2 n other :=
  ⟨.trans (.up hn he (.refl _)) h.a, h.b, fun d h1 h2 => by
    obtain ⟨g1, g2⟩ := h.g d h1 h2
    refine ⟨?_, g2⟩
    cases g1 with
    | refl => have := I.anc_le g2; omega
    | up a1 a2 a3 => rw [hn] at a1; obtain rfl := Option.some.inj a1; exact a3⟩
theorem ml_other (I : NI s l e N) {o1 o2 one other : Int} (h : ML N e o1 o2 one other) (hn : N other = some n) (he : other ≠ e) (hlt : l.idxOf one < l.idxOf other) : ML N e o1 o2 one n :=
  ⟨h.a, .trans (.up hn he (.refl _)) h.b, fun d h1 h2 => by
    obtain ⟨g1, g2⟩ := h.g d h1 h2
    refine ⟨g1, ?_⟩
    cases g2 with
    | refl => have := I.anc_le g1; omega
    | up a1 a2 a3 => rw [hn] at a1; obtain rfl := Option.some.inj a1; exact a3⟩
theorem ml_end {o1 o2 one : Int} (h : ML N e o1 o2 one one) : Meet N e [o1, o2] one :=
  ⟨fun p hp => by
    rcases List.mem_cons.mp hp with z | z
    · rw [z]; exact h.a
    · have z : p = o2 := by simpa using z
      rw [z]; exact h.b, fun d hd => (h.g d (hd o1 (by simp)) (hd o2 (by simp))).1⟩
theorem meet_one {o : Int} : Meet N e [o] o := ⟨fun p hp => by
  have hp : p = o := by simpa using hp
  rw [hp]; exact .refl _, fun d hd => hd o (by simp)⟩
theorem meet_snoc {o : Int} (h : Meet N e ps m) (h2 : Meet N e [o, m] n) : Meet N e (ps ++ [o]) n :=
  ⟨fun p hp => by
    rcases List.mem_append.mp hp with z | z
    · exact (h2.low m (by simp)).trans (h.low p z)
    · have z : p = o := by simpa using z
      rw [z]; exact h2.low o (by simp), fun d hd => h2.great d fun p hp => by
    rcases List.mem_cons.mp hp with z | z
    · rw [z]; exact hd o (by simp)
    · have z : p = m := by simpa using z
      rw [z]; exact h.great d fun q hq => hd q (List.mem_append_left _ hq)⟩
/-- the tree: of each block but the entry one that leads to it stands ahead -/
theorem Ord.tree (O : Ord V s e l) (hb : b ∈ l) (he : b ≠ e) : ∃ p, p ∈ l ∧ b ∈ s p ∧ l.idxOf p < l.idxOf b := by
  obtain ⟨p, hp, m⟩ := O.fwd b hb
  have : ∀ {a c : Int} {p : List Int}, Path s a p c → a ≠ c → ∃ q, q ∈ p ∧ c ∈ s q ∧ q ≠ c := by
    intro a c p hp
    induction hp with
    | one => exact fun h => absurd rfl h
    | @cons a o c p ho hp ih =>
      intro hne
      by_cases eo : o = c
      · exact ⟨a, by simp, by rw [← eo]; exact ho, hne⟩
      · obtain ⟨q, h1, h2, h3⟩ := ih eo
        exact ⟨q, List.mem_cons_of_mem _ h1, h2, h3⟩
  obtain ⟨q, h1, h2, h3⟩ := this hp he.symm
  rcases m q h1 with z | ⟨z1, z2⟩
  · exact absurd z h3
  · exact ⟨q, z1, h2, z2⟩
end
end BT
namespace BT
/-! ### the chain of froms -/
inductive Ch (F : Int → Option (Option Int)) : Int → List Int → Prop
  | root {b : Int} : F b = some none → Ch F b [b]
  | step {u v : Int} {p : List Int} : F v = some (some u) → Ch F u p → Ch F v (v :: p)
def setF (F : Int → Option (Option Int)) (o u : Int) : Int → Option (Option Int) := fun x => if x = o then some (some u) else F x
section
variable {F : Int → Option (Option Int)} {s : Int → List Int} {V p w : List Int} {a b c o u v t x : Int} {B E : Int → Prop} {i : Nat}
theorem setF_same : setF F o u o = some (some u) := if_pos rfl
theorem setF_ne (h : x ≠ o) : setF F o u x = F x := if_neg h
theorem Ch.dom (h : Ch F v p) : ∀ x, x ∈ p → ∃ y, F x = some y := by
  induction h with
  | @root b h => intro x hx; have hx : x = b := by simpa using hx
                 rw [hx]; exact ⟨_, h⟩
  | step h _ ih =>
    intro x hx
    rcases List.mem_cons.mp hx with z | z
    · rw [z]; exact ⟨_, h⟩
    · exact ih x z
theorem Ch.set (h : Ch F v p) (hn : F o = none) : Ch (setF F o u) v p := by
  induction h with
  | @root b h => exact .root (by rw [setF_ne (fun z => by rw [z, hn] at h; cases h)]; exact h)
  | @step u' v' p' h _ ih => exact .step (by rw [setF_ne (fun z => by rw [z, hn] at h; cases h)]; exact h) ih
/-- a way found: its blocks backwards -/
structure Way (F : Int → Option (Option Int)) (s : Int → List Int) (a : Int) (B : Int → Prop) (v : Int) (p : List Int) : Prop where
  ch : Ch F v p
  nd : p.Nodup
  path : Path s a p.reverse v
  free : ∀ x, x ∈ p → x ≠ a → ¬ B x
theorem Way.set (h : Way F s a B v p) (hn : F o = none) : Way (setF F o u) s a B v p := ⟨h.ch.set hn, h.nd, h.path, h.free⟩
/-- the search, between two turns -/
structure BF (s : Int → List Int) (V : List Int) (a : Int) (E B : Int → Prop) (F : Int → Option (Option Int)) (w : List Int) : Prop where
  root : F a = some none
  way : ∀ v y, F v = some y → v ∈ V ∧ ∃ p, Way F s a B v p
  wt : ∀ v, v ∈ w → ∃ y, F v = some y
  clo : ∀ v y, F v = some y → v ∈ w ∨ (¬ E v ∧ ∀ o, o ∈ s v → (∃ y, F o = some y) ∨ B o)
/-- within the turn of c: the first i of its ways are done -/
structure BFI (s : Int → List Int) (V : List Int) (a : Int) (E B : Int → Prop) (F : Int → Option (Option Int)) (w : List Int) (c : Int) (i : Nat) : Prop where
  root : F a = some none
  way : ∀ v y, F v = some y → v ∈ V ∧ ∃ p, Way F s a B v p
  wt : ∀ v, v ∈ w → ∃ y, F v = some y
  clo : ∀ v y, F v = some y → v ∈ w ∨ v = c ∨ (¬ E v ∧ ∀ o, o ∈ s v → (∃ y, F o = some y) ∨ B o)
  cur : ∃ y, F c = some y
  ne : ¬ E c
  part : ∀ (j : Nat) (o : Int), j < i → (s c)[j]? = some o → (∃ y, F o = some y) ∨ B o
def bmu (V : List Int) (F : Int → Option (Option Int)) (w : List Int) : Nat := (V.filter fun v => (F v).isNone).length + w.length
theorem bf_init (ha : a ∈ V) : BF s V a E B (fun x => if x = a then some none else none) [a] := by
  have key : ∀ v (y : Option Int), (if v = a then some (none : Option Int) else none) = some y → v = a := fun v y h => by
    by_cases z : v = a
    · exact z
    · rw [if_neg z] at h; cases h
  refine ⟨if_pos rfl, fun v y h => ?_, fun v hv => ?_, fun v y h => ?_⟩
  · have := key v y h
    subst this
    exact ⟨ha, [v], .root (if_pos rfl), by simp, .one v, fun x hx hn => absurd (by simpa using hx) hn⟩
  · have hv : v = a := by simpa using hv
    exact ⟨none, if_pos hv⟩
  · rw [key v y h]; exact .inl (by simp)
theorem bf_pop (h : BF s V a E B F (c :: w)) (hc : ¬ E c) : BFI s V a E B F w c 0 :=
  ⟨h.root, h.way, fun v hv => h.wt v (List.mem_cons_of_mem _ hv), fun v y hv => by
    rcases h.clo v y hv with z | z
    · rcases List.mem_cons.mp z with z | z
      · exact .inr (.inl z)
      · exact .inl z
    · exact .inr (.inr z), h.wt c (by simp), hc, fun j o hj => absurd hj (Nat.not_lt_zero _)⟩
theorem bfi_skip (h : BFI s V a E B F w c i) (ho : (s c)[i]? = some o) (hs : (∃ y, F o = some y) ∨ B o) : BFI s V a E B F w c (i + 1) :=
  ⟨h.root, h.way, h.wt, h.clo, h.cur, h.ne, fun j o' hj hjo => by
    by_cases e1 : j = i
    · subst e1; rw [ho] at hjo; cases hjo; exact hs
    · exact h.part j o' (by omega) hjo⟩
theorem bfi_new (h : BFI s V a E B F w c i) (ho : (s c)[i]? = some o) (hV : o ∈ V) (hn : F o = none) (hb : ¬ B o) : BFI s V a E B (setF F o c) (w ++ [o]) c (i + 1) := by
  have up : ∀ x y, F x = some y → setF F o c x = some y := fun x y hx => by
    rw [setF_ne (fun z => by rw [z, hn] at hx; cases hx)]; exact hx
  have up' : ∀ x, (∃ y, F x = some y) → ∃ y, setF F o c x = some y := fun x ⟨y, hy⟩ => ⟨y, up x y hy⟩
  refine ⟨up _ _ h.root, fun v y hv => ?_, fun v hv => ?_, fun v y hv => ?_, up' _ h.cur, h.ne, fun j o' hj hjo => ?_⟩
  · by_cases e1 : v = o
    · obtain ⟨yc, hyc⟩ := h.cur
      obtain ⟨_, p, hp⟩ := h.way c yc hyc
      subst e1
      have hvp : v ∉ p := fun z => by
        obtain ⟨y, hy⟩ := hp.ch.dom v z
        rw [hn] at hy; cases hy
      refine ⟨hV, v :: p, .step setF_same (hp.ch.set hn), List.nodup_cons.mpr ⟨hvp, hp.nd⟩, ?_, fun x hx hxa => ?_⟩
      · rw [List.reverse_cons]
        exact hp.path.snoc (List.mem_of_getElem? ho)
      · rcases List.mem_cons.mp hx with z | z
        · rw [z]; exact hb
        · exact hp.free x z hxa
    · rw [setF_ne e1] at hv
      obtain ⟨h1, p, hp⟩ := h.way v y hv
      exact ⟨h1, p, hp.set hn⟩
  · rcases List.mem_append.mp hv with z | z
    · exact up' _ (h.wt v z)
    · have z : v = o := by simpa using z
      rw [z]; exact ⟨_, setF_same⟩
  · by_cases e1 : v = o
    · exact .inl (List.mem_append_right _ (by simp [e1]))
    · rw [setF_ne e1] at hv
      rcases h.clo v y hv with z | z | ⟨z1, z2⟩
      · exact .inl (List.mem_append_left _ z)
      · exact .inr (.inl z)
      · exact .inr (.inr ⟨z1, fun o' ho' => (z2 o' ho').imp (up' _) id⟩)
  · by_cases e1 : j = i
    · subst e1; rw [ho] at hjo; cases hjo; exact .inl ⟨_, setF_same⟩
    · exact (h.part j o' (by omega) hjo).imp (up' _) id
theorem bfi_end (h : BFI s V a E B F w c (s c).length) : BF s V a E B F w :=
  ⟨h.root, h.way, h.wt, fun v y hv => by
    rcases h.clo v y hv with z | z | z
    · exact .inl z
    · refine .inr ?_
      rw [z]
      refine ⟨h.ne, fun o ho => ?_⟩
      obtain ⟨j, hj⟩ := List.getElem?_of_mem ho
      exact h.part j o (List.getElem?_eq_some_iff.mp hj).1 hj
    · exact .inr z⟩
theorem bf_never (h : BF s V a E B F []) (hq : Path s a p t) (hf : ∀ x, x ∈ p → x ≠ a → ¬ B x) (hE : E t) : False := by
  have := (hq.closed (S := fun x => ∃ y, F x = some y) ⟨_, h.root⟩ fun u v ⟨y, hu⟩ hv hp => by
    rcases h.clo u y hu with z | ⟨_, z⟩
    · simp at z
    · rcases z v hv with z | z
      · exact z
      · by_cases e1 : v = a
        · rw [e1]; exact ⟨_, h.root⟩
        · exact absurd z (hf v hp e1)).1
  obtain ⟨y, hy⟩ := this
  rcases h.clo t y hy with z | ⟨z, _⟩
  · simp at z
  · exact z hE
theorem bmu_new (hV : o ∈ V) (hn : F o = none) : bmu V (setF F o u) (w ++ [o]) ≤ bmu V F w := by
  have : (V.filter fun v => (setF F o u v).isNone).length + 1 ≤ (V.filter fun v => (F v).isNone).length := by
    have := sum_filter_drop (V := V) (f := fun _ => 1) (P := fun v => (F v).isNone) (Q := fun v => (setF F o u v).isNone) hV (by simp [hn]) (by simp [setF_same]) (fun v hv => by
      by_cases z : v = o
      · rw [z, hn]; rfl
      · rw [setF_ne z] at hv; exact hv)
    have e1 : ∀ l : List Int, (l.map fun _ => 1).sum = l.length := fun l => by
      induction l with
      | nil => rfl
      | cons a r ih => rw [List.map_cons, List.sum_cons, ih, List.length_cons]; omega
    rw [e1, e1] at this
    exact this
  simp only [bmu, List.length_append, List.length_singleton]
  omega
end
/-! ### all to which one comes by none that is barred (come_by) -/
structure CB (s : Int → List Int) (V : List Int) (a x0 : Int) (found line : List Int) : Prop where
  nd : found.Nodup
  sub : ∀ x, x ∈ found ∨ x ∈ line → x ∈ V
  way : ∀ x, x ∈ found ∨ x ∈ line → ∃ p, Path s a p x ∧ x0 ∉ p
  clo : ∀ x o, x ∈ found → o ∈ s x → o ≠ x0 → o ∈ found ∨ o ∈ line
  st : a = x0 ∨ a ∈ found ∨ a ∈ line
def cmu (D : Nat) (V found line : List Int) : Nat := (V.filter fun v => decide (v ∉ found)).length * (D + 1) + line.length
section
variable {s : Int → List Int} {V found line : List Int} {a x0 c x : Int} {D : Nat}
theorem cb_init (ha : a ∈ V) : CB s V a x0 [] (if a ≠ x0 then [a] else []) := by
  have key : ∀ x, x ∈ ([] : List Int) ∨ x ∈ (if a ≠ x0 then [a] else []) → x = a ∧ a ≠ x0 := fun x h => by
    rcases h with h | h
    · simp at h
    · split at h
      · rename_i z; exact ⟨by simpa using h, z⟩
      · simp at h
  refine ⟨by simp, fun x h => by rw [(key x h).1]; exact ha, fun x h => ?_, fun x o h => by simp at h, ?_⟩
  · obtain ⟨h1, h2⟩ := key x h
    rw [h1]
    exact ⟨[a], .one a, fun z => h2 (Eq.symm (by simpa using z))⟩
  · by_cases z : a = x0
    · exact .inl z
    · exact .inr (.inr (by rw [if_pos z]; simp))
theorem cb_old (h : CB s V a x0 found (line ++ [c])) (hc : c ∈ found) : CB s V a x0 found line :=
  ⟨h.nd, fun x hx => h.sub x (hx.imp id fun z => List.mem_append_left _ z), fun x hx => h.way x (hx.imp id fun z => List.mem_append_left _ z), fun x o hx ho hn => by
    rcases h.clo x o hx ho hn with z | z
    · exact .inl z
    · rcases List.mem_append.mp z with z | z
      · exact .inr z
      · have z : o = c := by simpa using z
        rw [z]; exact .inl hc, by
    rcases h.st with z | z | z
    · exact .inl z
    · exact .inr (.inl z)
    · rcases List.mem_append.mp z with z | z
      · exact .inr (.inr z)
      · have z : a = c := by simpa using z
        rw [z]; exact .inr (.inl hc)⟩
theorem cb_new (hV : ∀ u v, u ∈ V → v ∈ s u → v ∈ V) (h : CB s V a x0 found (line ++ [c])) (hc : c ∉ found) : CB s V a x0 (found ++ [c]) (line ++ (s c).filter fun o => decide (o ≠ x0)) := by
  have hcV : c ∈ V := h.sub c (.inr (by simp))
  obtain ⟨pc, hpc, hx0⟩ := h.way c (.inr (by simp))
  have key : ∀ x, x ∈ found ++ [c] ∨ x ∈ line ++ (s c).filter (fun o => decide (o ≠ x0)) → (x ∈ found ∨ x ∈ line ++ [c]) ∨ (x ∈ s c ∧ x ≠ x0) := fun x hx => by
    rcases hx with hx | hx
    · rcases List.mem_append.mp hx with z | z
      · exact .inl (.inl z)
      · exact .inl (.inr (List.mem_append_right _ z))
    · rcases List.mem_append.mp hx with z | z
      · exact .inl (.inr (List.mem_append_left _ z))
      · rw [List.mem_filter] at z
        exact .inr ⟨z.1, by simpa using z.2⟩
  refine ⟨?_, fun x hx => ?_, fun x hx => ?_, fun x o hx ho hn => ?_, ?_⟩
  · exact List.nodup_append.mpr ⟨h.nd, by simp, fun x hx y hy e => by
      have : y = c := by simpa using hy
      exact hc (by rw [← this, ← e]; exact hx)⟩
  · rcases key x hx with z | ⟨z, _⟩
    · exact h.sub x z
    · exact hV c x hcV z
  · rcases key x hx with z | ⟨z1, z2⟩
    · exact h.way x z
    · refine ⟨pc ++ [x], hpc.snoc z1, fun z => ?_⟩
      rcases List.mem_append.mp z with z | z
      · exact hx0 z
      · exact z2 (Eq.symm (by simpa using z))
  · rcases List.mem_append.mp hx with z | z
    · rcases h.clo x o z ho hn with y | y
      · exact .inl (List.mem_append_left _ y)
      · rcases List.mem_append.mp y with y | y
        · exact .inr (List.mem_append_left _ y)
        · exact .inl (List.mem_append_right _ y)
    · have z : x = c := by simpa using z
      rw [z] at ho
      exact .inr (List.mem_append_right _ (List.mem_filter.mpr ⟨ho, by simpa using hn⟩))
  · rcases h.st with z | z | z
    · exact .inl z
    · exact .inr (.inl (List.mem_append_left _ z))
    · rcases List.mem_append.mp z with z | z
      · exact .inr (.inr (List.mem_append_left _ z))
      · exact .inr (.inl (List.mem_append_right _ z))
theorem cmu_old : cmu D V found line < cmu D V found (line ++ [c]) := by
  simp only [cmu, List.length_append, List.length_singleton]; omega
theorem cmu_new {more : List Int} (hV : c ∈ V) (hc : c ∉ found) (hm : more.length ≤ D) : cmu D V (found ++ [c]) (line ++ more) < cmu D V found (line ++ [c]) := by
  have := sum_filter_drop (V := V) (f := fun _ => D + 1) (P := fun v => decide (v ∉ found)) (Q := fun v => decide (v ∉ found ++ [c])) hV (by simp [hc]) (by simp) (fun v hv => by
    simp at hv ⊢; exact hv.1)
  simp only [List.map_const', List.sum_replicate_nat] at this
  simp only [cmu, List.length_append, List.length_singleton]
  omega
theorem cb_end (h : CB s V a x0 found []) (x : Int) : x ∈ found ↔ ∃ p, Path s a p x ∧ x0 ∉ p := by
  constructor
  · exact fun hx => h.way x (.inl hx)
  · rintro ⟨p, hp, hx0⟩
    have ha : a ∈ found := by
      rcases h.st with z | z | z
      · exact absurd (by rw [← z]; exact hp.mem_start) hx0
      · exact z
      · simp at z
    refine (hp.closed (S := fun y => y ∈ found) ha fun u v hu hv hvp => ?_).1
    rcases h.clo u v hu hv (fun z => hx0 (by rw [← z]; exact hvp)) with z | z
    · exact z
    · simp at z
theorem above_iff (h : CB s V a x0 found []) {y : Int} : (x0 = y ∨ y ∉ found) ↔ Dom s a x0 y := by
  rw [cb_end h]
  constructor
  · rintro (z | z) p hp
    · rw [z]; exact hp.mem_end
    · exact Classical.byContradiction fun hn => z ⟨p, hp, hn⟩
  · intro hd
    refine .inr ?_
    rintro ⟨p, hp, hn⟩
    exact hn (hd p hp)
end
end BT
namespace BT
/-- blocks follow one another by ways -/
def Edges (s : Int → List Int) (p : List Int) : Prop := ∀ q, q ∈ p.zip p.tail → q.2 ∈ s q.1
structure Leads (V : List Int) (s : Int → List Int) (e : Int) (ring way : List Int) : Prop where
  ne : way ≠ []
  hd : way.head? = some e
  sub : ∀ b, b ∈ way → b ∈ V
  ed : Edges s way
  last : ∀ x, way.getLast? = some x → x ∈ ring
  free : ∀ b, b ∈ way.dropLast → b ∉ ring
structure Shows (V : List Int) (s : Int → List Int) (e : Int) (ring one other : List Int) : Prop where
  ne : ring ≠ []
  sub : ∀ b, b ∈ ring → b ∈ V
  ed : Edges s (ring ++ ring.take 1)
  nd : ring.Nodup
  l1 : Leads V s e ring one
  l2 : Leads V s e ring other
  diff : one.getLast? ≠ other.getLast?
section
variable {V l : List Int} {s : Int → List Int} {e a b c x y : Int} {p q ring one other : List Int} {i : Nat}
theorem edges_nil : Edges s [] := fun q h => by simp at h
theorem edges_one : Edges s [a] := fun q h => by simp at h
theorem edges_cons : Edges s (a :: b :: p) ↔ b ∈ s a ∧ Edges s (b :: p) := by
  unfold Edges
  constructor
  · exact fun h => ⟨h (a, b) (by simp), fun q hq => h q (by simp only [List.tail_cons, List.zip_cons_cons, List.mem_cons] at hq ⊢; exact .inr hq)⟩
  · rintro ⟨h1, h2⟩ q hq
    simp only [List.tail_cons, List.zip_cons_cons, List.mem_cons] at hq
    rcases hq with z | z
    · rw [z]; exact h1
    · exact h2 q z
theorem Path.edges (h : Path s a p b) : Edges s p := by
  induction h with
  | one => exact edges_one
  | cons ho h ih =>
    cases h with
    | one => exact edges_cons.mpr ⟨ho, ih⟩
    | cons h1 h2 => exact edges_cons.mpr ⟨ho, ih⟩
theorem Path.edges_snoc (h : Path s a p b) (hc : c ∈ s b) : Edges s (p ++ [c]) := (h.snoc hc).edges
/-- up to the first block of a ring -/
theorem Path.part (h : Path s a p b) : ∀ (i : Nat) (x : Int), p[i]? = some x → x ∈ ring → (∀ (m : Nat) (y : Int), m < i → p[m]? = some y → y ∉ ring) → Path s a (p.take (i + 1)) x ∧ ∀ y, y ∈ (p.take (i + 1)).dropLast → y ∉ ring := by
  induction h with
  | one a =>
    intro i x hx hr hm
    cases i with
    | zero =>
      simp at hx
      subst hx
      exact ⟨.one a, fun y hy => by simp at hy⟩
    | succ i => simp at hx
  | @cons a o b p ho h ih =>
    intro i x hx hr hm
    cases i with
    | zero =>
      simp at hx
      subst hx
      exact ⟨by simpa using Path.one a, fun y hy => by simp at hy⟩
    | succ i =>
      obtain ⟨h1, h2⟩ := ih i x (by simpa using hx) hr fun m y hmi hy => hm (m + 1) y (by omega) (by simpa using hy)
      refine ⟨?_, fun y hy => ?_⟩
      · rw [List.take_succ_cons]; exact .cons ho h1
      · rw [List.take_succ_cons] at hy
        have hne : p.take (i + 1) ≠ [] := h1.ne_nil
        rw [List.dropLast_cons_of_ne_nil hne] at hy
        rcases List.mem_cons.mp hy with z | z
        · rw [z]; exact hm 0 a (by omega) rfl
        · exact h2 y z
theorem first_at {R : Int → Prop} : ∀ {p : List Int}, (∃ x, x ∈ p ∧ R x) → ∃ (i : Nat) (x : Int), p[i]? = some x ∧ R x ∧ ∀ (m : Nat) (y : Int), m < i → p[m]? = some y → ¬ R y
  | [], ⟨x, h, _⟩ => by simp at h
  | a :: r, ⟨x, h, hx⟩ => by
    by_cases ha : R a
    · exact ⟨0, a, rfl, ha, fun m y hm => absurd hm (Nat.not_lt_zero _)⟩
    · have : x ∈ r := by
        rcases List.mem_cons.mp h with z | z
        · rw [z] at hx; exact absurd hx ha
        · exact z
      obtain ⟨i, y, h1, h2, h3⟩ := first_at (p := r) ⟨x, this, hx⟩
      refine ⟨i + 1, y, by simpa using h1, h2, fun m z hm hz => ?_⟩
      cases m with
      | zero => simp at hz; rw [← hz]; exact ha
      | succ m => exact h3 m z (by omega) (by simpa using hz)
theorem mem_take_idx : ∀ {l : List Int} {k : Nat}, x ∈ l.take k ↔ x ∈ l ∧ l.idxOf x < k
  | [], k => by simp
  | a :: r, 0 => by simp
  | a :: r, k + 1 => by
    rw [List.take_succ_cons, List.mem_cons, List.mem_cons]
    by_cases e1 : x = a
    · subst e1; simp
    · rw [idx_cons_ne e1, mem_take_idx]
      constructor
      · rintro (h | ⟨h1, h2⟩)
        · exact absurd h e1
        · exact ⟨.inr h1, by omega⟩
      · rintro ⟨h | h, h2⟩
        · exact absurd h e1
        · exact .inr ⟨h, by omega⟩
theorem last_only {p : List Int} (nd : p.Nodup) (h : p.getLast? = some b) : b ∉ p.dropLast := by
  have hne : p ≠ [] := fun z => by rw [z] at h; cases h
  have e1 : p.dropLast ++ [b] = p := by
    have := List.dropLast_concat_getLast hne
    rw [List.getLast?_eq_getLast hne] at h
    rw [← Option.some.inj h]; exact this
  rw [← e1] at nd
  intro hb
  exact (List.nodup_append.mp nd).2.2 b hb b (by simp) rfl
/-- what judged starts from: a way that goes back, to no block above -/
structure Bad (s : Int → List Int) (l : List Int) (e u v : Int) : Prop where
  ul : u ∈ l
  vs : v ∈ s u
  back : l.idxOf v ≤ l.idxOf u
  no : ¬ Dom s e v u
variable {last head : Int}
theorem Bad.head_in (O : Ord V s e l) (h : Bad s l e last head) : head ∈ l := O.clo _ _ h.ul h.vs
theorem Bad.head_ne (h : Bad s l e last head) : head ≠ e := fun z => h.no (by rw [z]; exact Dom.entry)
theorem Bad.last_ne (h : Bad s l e last head) : head ≠ last := fun z => h.no (by rw [z]; exact Dom.self)
theorem ex_ring (O : Ord V s e l) (h : Bad s l e last head) : ∃ p, Path s head p last ∧ ∀ x, x ∈ p → x ≠ head → x ∉ l.take (l.idxOf head) := by
  obtain ⟨p, hp, m⟩ := O.bwd _ _ h.ul h.vs h.back
  refine ⟨p, hp, fun x hx _ hm => ?_⟩
  have := (mem_take_idx.mp hm).2
  have := (m x hx).2
  omega
theorem ex_one (h : Bad s l e last head) : ∃ p, Path s e p last ∧ ∀ x, x ∈ p → x ≠ e → ¬ x = head := by
  have := h.no
  unfold Dom at this
  simp only [Classical.not_forall] at this
  obtain ⟨p, hp, hn⟩ := this
  exact ⟨p, hp, fun x hx _ z => hn (by rw [← z]; exact hx)⟩
theorem ring_ge (O : Ord V s e l) (h : Bad s l e last head) (hr : Path s head ring last) (hf : ∀ x, x ∈ ring → x ≠ head → x ∉ l.take (l.idxOf head)) : ∀ x, x ∈ ring → x ∈ l ∧ l.idxOf head ≤ l.idxOf x := by
  have hl := (hr.closed (S := fun y => y ∈ l) (h.head_in O) fun u v hu hv _ => O.clo u v hu hv).2
  intro x hx
  refine ⟨hl x hx, ?_⟩
  by_cases e1 : x = head
  · rw [e1]; exact Nat.le_refl _
  · have := hf x hx e1
    rw [mem_take_idx] at this
    have := hl x hx
    simp_all
theorem ring_tail (hr : Path s head ring last) (nd : ring.Nodup) : ∀ x, x ∈ ring ↔ x = head ∨ x ∈ ring.tail := by
  intro x
  cases hr with
  | one => simp
  | cons h1 h2 => simp
theorem head_not_tail (hr : Path s head ring last) (nd : ring.Nodup) : head ∉ ring.tail := by
  cases hr with
  | one => simp
  | cons h1 h2 => exact (List.nodup_cons.mp nd).1
theorem ex_other (O : Ord V s e l) (h : Bad s l e last head) (hr : Path s head ring last) (nd : ring.Nodup) (hf : ∀ x, x ∈ ring → x ≠ head → x ∉ l.take (l.idxOf head)) : ∃ p, Path s e p head ∧ ∀ x, x ∈ p → x ≠ e → x ∉ ring.tail := by
  obtain ⟨p, hp, m⟩ := O.fwd head (h.head_in O)
  refine ⟨p, hp, fun x hx _ hm => ?_⟩
  have h1 := ring_ge O h hr hf x ((ring_tail hr nd x).mpr (.inr hm))
  rcases m x hx with z | ⟨z1, z2⟩
  · rw [z] at hm; exact head_not_tail hr nd hm
  · omega
theorem twist_ok (O : Ord V s e l) (h : Bad s l e last head) (hr : Path s head ring last) (nd : ring.Nodup) (hf : ∀ x, x ∈ ring → x ≠ head → x ∉ l.take (l.idxOf head))
    (ho : Path s e one last) (hof : ∀ x, x ∈ one → x ≠ e → ¬ x = head) (hi : one[i]? = some x) (hx : x ∈ ring) (hm : ∀ (m : Nat) (y : Int), m < i → one[m]? = some y → y ∉ ring)
    (ht : Path s e other head) (ndt : other.Nodup) (htf : ∀ x, x ∈ other → x ≠ e → x ∉ ring.tail) : Shows V s e ring (one.take (i + 1)) other := by
  have hge := ring_ge O h hr hf
  have sub : ∀ {a b : Int} {p : List Int}, Path s a p b → a ∈ l → ∀ y, y ∈ p → y ∈ V := fun hp ha y hy => O.sub y ((hp.closed (S := fun y => y ∈ l) ha fun u v hu hv _ => O.clo u v hu hv).2 y hy)
  obtain ⟨hpart, hfree⟩ := ho.part (ring := ring) i x hi hx hm
  have her : e ∉ ring := fun z => by
    have h1 := (hge e z).2
    rw [O.e0] at h1
    exact h.head_ne (O.is_e (h.head_in O) (by omega))
  have hxh : x ≠ head := fun z => by
    have hxo : x ∈ one := List.mem_of_getElem? hi
    by_cases e1 : x = e
    · rw [e1] at hx; exact her hx
    · exact hof x hxo e1 z
  refine ⟨hr.ne_nil, sub hr (h.head_in O), ?_, nd, ⟨hpart.ne_nil, hpart.head, sub hpart O.ent, hpart.edges, fun y hy => ?_, hfree⟩, ⟨ht.ne_nil, ht.head, sub ht O.ent, ht.edges, fun y hy => ?_, fun b hb hbr => ?_⟩, ?_⟩
  · have e1 : ring.take 1 = [head] := by cases hr <;> rfl
    rw [e1]
    exact hr.edges_snoc h.vs
  · rw [hpart.last] at hy
    rw [← Option.some.inj hy]; exact hx
  · rw [ht.last] at hy
    rw [← Option.some.inj hy]; exact hr.mem_start
  · have hbo : b ∈ other := List.dropLast_subset _ hb
    have hbh : b ≠ head := fun z => last_only ndt ht.last (by rw [← z]; exact hb)
    by_cases e1 : b = e
    · rw [e1] at hbr; exact her hbr
    · rcases (ring_tail hr nd b).mp hbr with z | z
      · exact hbh z
      · exact htf b hbo e1 z
  · rw [hpart.last, ht.last]
    exact fun z => hxh (Option.some.inj z)
end
/-! ### the law's own way to say it -/
structure LLeads (s : Int → List Int) (e : Int) (ring way : List Int) : Prop where
  ne : way ≠ []
  hd : way.head? = some e
  ed : Edges s way
  last : ∀ x, way.getLast? = some x → x ∈ ring
  free : ∀ b, b ∈ way.dropLast → b ∉ ring
theorem shows_law {V : List Int} {s : Int → List Int} {e : Int} {ring one other : List Int} : Shows V s e ring one other ↔
    ring ≠ [] ∧ ring.Nodup ∧ Edges s (ring ++ ring.take 1) ∧ LLeads s e ring one ∧ LLeads s e ring other ∧ one.getLast? ≠ other.getLast? ∧ ∀ b, b ∈ ring ++ one ++ other → b ∈ V := by
  constructor
  · rintro ⟨h1, h2, h3, h4, ⟨a1, a2, a3, a4, a5, a6⟩, ⟨b1, b2, b3, b4, b5, b6⟩, h7⟩
    refine ⟨h1, h4, h3, ⟨a1, a2, a4, a5, a6⟩, ⟨b1, b2, b4, b5, b6⟩, h7, fun b hb => ?_⟩
    rcases List.mem_append.mp hb with z | z
    · rcases List.mem_append.mp z with z | z
      · exact h2 b z
      · exact a3 b z
    · exact b3 b z
  · rintro ⟨h1, h4, h3, ⟨a1, a2, a4, a5, a6⟩, ⟨b1, b2, b4, b5, b6⟩, h7, h8⟩
    exact ⟨h1, fun b hb => h8 b (by simp [hb]), h3, h4, ⟨a1, a2, fun b hb => h8 b (by simp [hb]), a4, a5, a6⟩, ⟨b1, b2, fun b hb => h8 b (by simp [hb]), b4, b5, b6⟩, h7⟩
end BT
namespace BT
open PySem PySem.Spec L2
/-! ### the text by places -/
def top (i : Nat) : Stmt := PySem.Challenge.pw_bytetale_k05_whole_judged.main.body.getD i (.Pass ⟨0, 0, 0, 0⟩)
/-- a def of the module, under its name -/
structure Df (K : PySem.W.Frag) (mg : Str → Option Value) (x : Str) (st : Stmt) (ps : List Str) : Prop where
  ex : ∃ (f : Addr) (fd : FuncData), Fun K x x st f fd ∧ mg x = some (.ref f) ∧ Binds K fd ps []
section
variable {P : Program} {w : World} {K : PySem.W.Frag} {mg : Str → Option Value} {base : Heap}
/-- its promise by its body -/
theorem Df.ok {x : Str} {st : Stmt} {N ps : List Str} {k : Nat} {sp : Sp} (F : Df K mg x st ps) (S : FnScope N ps (defScope st)) (len : ∀ vs H Q E, sp vs H Q E → vs.length = ps.length)
    (hbody : ∀ (f : Addr) (cdv : Value) (A : Around) (outer : List Env) (s : Shared) (H : Hp) (vs : List V) (Q : VK) (E : XK), Room k (A.deeper (PyProof.Rows.envOfC x (defScope st) s.heap.objs.size f cdv)) → sp vs H Q E →
      ∃ t, PSs (cxOf CX0 P w K mg base N x (defScope st) f cdv A outer s H E).nox (defBody st) t ∧ t { nx := fun _ H' => Q .non H', rt := Q } (start N vs) H) : C8.Cal P w K mg base (k + 1) x sp [] := by
  obtain ⟨f, fd, F, hm, b⟩ := F.ex
  exact ⟨f, fd, ps, [], F.ok S len (hbody f), hm, F.kp, b, .nil⟩
end
/-! ### what stands in the heap -/
/-- a dict with keys ints, by what it holds -/
def Mp (H : Hp) (d : Addr) (M : Int → Option V) : Prop := ∃ kvs, H d = some (.dK kvs) ∧ kvs.length ≤ 1000 ∧ ∀ b, valV kvs (Sum.inl b) = M b
theorem Mp.same {H H' : Hp} {d : Addr} {M : Int → Option V} (h : Mp H d M) (e : Same H H') : Mp H' d M := by
  obtain ⟨kvs, h1, h2⟩ := h
  exact ⟨kvs, e _ _ h1, h2⟩
theorem Mp.get {H : Hp} {d : Addr} {M : Int → Option V} (h : Mp H d M) (b : Int) : DGet H d (.int b) (M b) := by
  obtain ⟨kvs, h1, _, h2⟩ := h
  rw [← h2 b]
  exact DGet.k (k := Sum.inl b) h1
theorem Mp.isD {H : Hp} {d : Addr} {M : Int → Option V} (h : Mp H d M) : IsD H d := by
  obtain ⟨kvs, h1, _⟩ := h
  exact .inl ⟨kvs, .inl h1⟩
theorem Mp.tr {H : Hp} {d : Addr} {M : Int → Option V} (h : Mp H d M) : ∃ o, H d = some o := by
  obtain ⟨kvs, h1, _⟩ := h
  exact ⟨_, h1⟩
theorem same_upd {H : Hp} {p : Addr} {o : HO} (h : H p = none) : Same H (upd H p o) := fun b x e => by
  rw [upd_ne (ne_of_none e h)]
  exact e
theorem iteN {c A B : Prop} [Decidable c] (h1 : ¬ c → A) (h2 : c → B) : if (!decide c) = true then A else B := by
  by_cases h : c
  · rw [decide_eq_true h]; exact iteF (h2 h)
  · rw [decide_eq_false h]; exact iteT (h1 h)
theorem iteD {c A B : Prop} [Decidable c] (h1 : c → A) (h2 : ¬ c → B) : if decide c = true then A else B := by
  by_cases h : c
  · rw [decide_eq_true h]; exact iteT (h1 h)
  · rw [decide_eq_false h]; exact iteF (h2 h)
theorem vint {i j : Int} : V.int i = V.int j ↔ i = j := ⟨fun h => V.int.inj h, fun h => by rw [h]⟩
end BT
namespace BT
open PySem L2
/-! ### lists of ints, lists of pairs of ints, compared -/
theorem dp_ints {K : PySem.W.Frag} {H : Hp} : ∀ ns : List Int, DpAll K H (ns.map V.int) (ns.map PyData.int)
  | [] => .nil
  | n :: r => .cons (.int n) (dp_ints r)
theorem eqv_ints : ∀ ns ms : List Int, PyData.eqvAll (ns.map PyData.int) (ms.map PyData.int) = decide (ns = ms)
  | [], [] => rfl
  | [], _ :: _ => rfl
  | _ :: _, [] => rfl
  | n :: r, m :: t => by
    show ((n == m) && PyData.eqvAll (r.map PyData.int) (t.map PyData.int)) = _
    rw [eqv_ints r t, Bool.eq_iff_iff]
    simp
/-- the pairs ps stand in the list xs, a tuple each -/
abbrev PrL (H : Hp) : List V → List (Int × Int) → Prop := Paired fun v p => ∃ T, v = .ref T ∧ H T = some (.tup [.int p.1, .int p.2])
theorem PrL.same {H H' : Hp} (e : Same H H') {xs : List V} {ps : List (Int × Int)} (h : PrL H xs ps) : PrL H' xs ps := by
  induction h with
  | nil => exact .nil
  | cons h t ih =>
    obtain ⟨T, h1, h2⟩ := h
    exact .cons ⟨T, h1, e _ _ h2⟩ ih
theorem PrL.len {H : Hp} {xs : List V} {ps : List (Int × Int)} (h : PrL H xs ps) : xs.length = ps.length := Paired.length h
theorem PrL.get {H : Hp} {xs : List V} {ps : List (Int × Int)} (h : PrL H xs ps) : ∀ {i : Nat} {p : Int × Int}, ps[i]? = some p → ∃ T, xs[i]? = some (.ref T) ∧ H T = some (.tup [.int p.1, .int p.2]) := by
  induction h with
  | nil => intro i p h; simp at h
  | cons h t ih =>
    intro i p hp
    cases i with
    | zero =>
      obtain ⟨T, h1, h2⟩ := h
      have : _ = p := Option.some.inj hp
      subst this
      exact ⟨T, by rw [h1]; rfl, h2⟩
    | succ i => exact ih (by simpa using hp)
theorem PrL.get' {H : Hp} {xs : List V} {ps : List (Int × Int)} (h : PrL H xs ps) : ∀ {i : Nat} {v : V}, xs[i]? = some v → ∃ T p, ps[i]? = some p ∧ v = .ref T ∧ H T = some (.tup [.int p.1, .int p.2]) := by
  induction h with
  | nil => intro i p h; simp at h
  | @cons a b as bs h t ih =>
    intro i v hv
    cases i with
    | zero =>
      obtain ⟨T, h1, h2⟩ := h
      have : a = v := Option.some.inj hv
      subst this
      exact ⟨T, b, rfl, h1, h2⟩
    | succ i => exact ih (by simpa using hv)
def prD (p : Int × Int) : PyData := .tuple [.int p.1, .int p.2]
theorem prL_dp {K : PySem.W.Frag} {H : Hp} {xs : List V} {ps : List (Int × Int)} (h : PrL H xs ps) : DpAll K H xs (ps.map prD) := by
  induction h with
  | nil => exact .nil
  | cons h t ih =>
    obtain ⟨T, h1, h2⟩ := h
    rw [h1]
    exact .cons (.tup (.inl (.inl h2)) (.cons (.int _) (.cons (.int _) .nil))) ih
theorem prD_can : ∀ ps : List (Int × Int), PyData.canLayAll0 (ps.map prD) = true
  | [] => rfl
  | p :: r => by
    show (PyData.canLay0 (prD p) && PyData.canLayAll0 (r.map prD)) = true
    rw [prD_can r]
    rfl
theorem prD_deep : ∀ ps : List (Int × Int), PyData.depthAll (ps.map prD) ≤ 2
  | [] => by simp [PyData.depthAll]
  | p :: r => by
    have := prD_deep r
    simp only [List.map_cons, PyData.depthAll, prD, PyData.depth]
    omega
theorem prD_ok (p : Int × Int) : SeqAt.shaped (prD p) = true := by
  have h2 : PyData.depth (prD p) ≤ 64 := by
    simp only [prD, PyData.depth, PyData.depthAll]
    omega
  exact (Bool.and_eq_true _ _).mpr ⟨rfl, decide_eq_true h2⟩
theorem prD_shaped (ps : List (Int × Int)) : SeqAt.shaped (.list (ps.map prD)) = true := by
  have h1 := prD_deep ps
  have h2 : PyData.depth (.list (ps.map prD)) ≤ 64 := by
    simp only [PyData.depth]
    omega
  exact (Bool.and_eq_true _ _).mpr ⟨prD_can ps, decide_eq_true h2⟩
theorem prD_eqv (p q : Int × Int) : PyData.eqv (prD p) (prD q) = decide (p = q) := by
  obtain ⟨a, b⟩ := p
  obtain ⟨c, d⟩ := q
  show ((a == c) && ((b == d) && true)) = _
  rw [Bool.eq_iff_iff]
  simp
theorem eqv_pairs : ∀ ps qs : List (Int × Int), PyData.eqvAll (ps.map prD) (qs.map prD) = decide (ps = qs)
  | [], [] => rfl
  | [], _ :: _ => rfl
  | _ :: _, [] => rfl
  | p :: r, q :: t => by
    show (PyData.eqv (prD p) (prD q) && PyData.eqvAll (r.map prD) (t.map prD)) = _
    rw [eqv_pairs r t, prD_eqv, Bool.eq_iff_iff]
    simp
section
variable {X : Cx}
/-- ns == ms, ns != ms -/
def rEqI (K : PySem.W.Frag) : R2 := fun x y H Q => ∃ (a b : Addr) (ns ms : List Int), x = .ref a ∧ y = .ref b ∧ SqL K H a (ns.map V.int) ∧ SqL K H b (ms.map V.int) ∧ Q (.bl (decide (ns = ms))) H
def rNeI (K : PySem.W.Frag) : R2 := fun x y H Q => ∃ (a b : Addr) (ns ms : List Int), x = .ref a ∧ y = .ref b ∧ SqL K H a (ns.map V.int) ∧ SqL K H b (ms.map V.int) ∧ Q (.bl (!decide (ns = ms))) H
theorem op_eqInts (hu : X.A.units + 64 < cLine) : OpR X (compareOp .Eq) (rEqI X.K) := by
  intro pins s σ H x y v u Q I rx ry h
  obtain ⟨a, b, ns, ms, e1, e2, h1, h2, q⟩ := h
  subst e1 e2
  refine op_eqD hu pins s σ H _ _ v u Q I rx ry ⟨.list (ns.map .int), .list (ms.map .int), .lst h1 (dp_ints ns), .lst h2 (dp_ints ms), PySem.W.shaped_ints ns, PySem.W.shaped_ints ms, ?_⟩
  have e : PyData.eqv (.list (ns.map .int)) (.list (ms.map .int)) = decide (ns = ms) := eqv_ints ns ms
  rw [e]; exact q
theorem op_neInts (hu : X.A.units + 64 < cLine) : OpR X (compareOp .NotEq) (rNeI X.K) := by
  intro pins s σ H x y v u Q I rx ry h
  obtain ⟨a, b, ns, ms, e1, e2, h1, h2, q⟩ := h
  subst e1 e2
  refine op_neD hu pins s σ H _ _ v u Q I rx ry ⟨.list (ns.map .int), .list (ms.map .int), .lst h1 (dp_ints ns), .lst h2 (dp_ints ms), PySem.W.shaped_ints ns, PySem.W.shaped_ints ms, ?_⟩
  have e : PyData.eqv (.list (ns.map .int)) (.list (ms.map .int)) = decide (ns = ms) := eqv_ints ns ms
  rw [e]; exact q
/-- a list of pairs against the empty list -/
def rEq0 (K : PySem.W.Frag) : R2 := fun x y H Q => ∃ (a b : Addr) (xs : List V) (ps : List (Int × Int)), x = .ref a ∧ y = .ref b ∧ SqL K H a xs ∧ PrL H xs ps ∧ SqL K H b [] ∧ Q (.bl (decide (ps = []))) H
def rNe0 (K : PySem.W.Frag) : R2 := fun x y H Q => ∃ (a b : Addr) (xs : List V) (ps : List (Int × Int)), x = .ref a ∧ y = .ref b ∧ SqL K H a xs ∧ PrL H xs ps ∧ SqL K H b [] ∧ Q (.bl (!decide (ps = []))) H
theorem op_eqPairs (hu : X.A.units + 64 < cLine) : OpR X (compareOp .Eq) (rEq0 X.K) := by
  intro pins s σ H x y v u Q I rx ry h
  obtain ⟨a, b, xs, ps, e1, e2, h1, hp, h2, q⟩ := h
  subst e1 e2
  refine op_eqD hu pins s σ H _ _ v u Q I rx ry ⟨.list (ps.map prD), .list [], .lst h1 (prL_dp hp), .lst h2 .nil, prD_shaped ps, PySem.W.shaped_ints [], ?_⟩
  have e : PyData.eqv (.list (ps.map prD)) (.list []) = decide (ps = []) := eqv_pairs ps []
  rw [e]; exact q
theorem op_nePairs (hu : X.A.units + 64 < cLine) : OpR X (compareOp .NotEq) (rNe0 X.K) := by
  intro pins s σ H x y v u Q I rx ry h
  obtain ⟨a, b, xs, ps, e1, e2, h1, hp, h2, q⟩ := h
  subst e1 e2
  refine op_neD hu pins s σ H _ _ v u Q I rx ry ⟨.list (ps.map prD), .list [], .lst h1 (prL_dp hp), .lst h2 .nil, prD_shaped ps, PySem.W.shaped_ints [], ?_⟩
  have e : PyData.eqv (.list (ps.map prD)) (.list []) = decide (ps = []) := eqv_pairs ps []
  rw [e]; exact q
/-- a pair that is not in a list of pairs -/
def rNotInP (K : PySem.W.Frag) : R2 := fun x y H Q => ∃ (T a : Addr) (p : Int × Int) (xs : List V) (ps : List (Int × Int)), x = .ref T ∧ y = .ref a ∧ H T = some (.tup [.int p.1, .int p.2]) ∧ SqL K H a xs ∧ PrL H xs ps ∧ Q (.bl (!decide (p ∈ ps))) H
theorem any_pair (p : Int × Int) : ∀ ps : List (Int × Int), ((ps.map prD).any fun z => PyData.eqv z (prD p)) = decide (p ∈ ps)
  | [] => rfl
  | q :: r => by
    rw [List.map_cons, List.any_cons, any_pair p r, prD_eqv, Bool.eq_iff_iff, Bool.or_eq_true, decide_eq_true_eq, decide_eq_true_eq, decide_eq_true_eq, List.mem_cons]
    exact ⟨fun h => h.imp Eq.symm id, fun h => h.imp Eq.symm id⟩
theorem op_notInPairs (hu : X.A.units + 65 < cLine) : OpR X (compareOp .NotIn) (rNotInP X.K) := by
  intro pins s σ H x y v u Q I rx ry h
  obtain ⟨T, a, p, xs, ps, e1, e2, hT, h1, hp, q⟩ := h
  subst e1 e2
  refine op_notInD hu pins s σ H _ _ v u Q I rx ry ⟨prD p, ps.map prD, .tup (.inl (.inl hT)) (.cons (.int _) (.cons (.int _) .nil)), .lst h1 (prL_dp hp), prD_ok p, prD_shaped ps, ?_⟩
  rw [any_pair]; exact q
/-- k in d, k not in d, as operators on values -/
def rDIn : R2 := fun y x H Q => ∃ a o, x = .ref a ∧ DGet H a y o ∧ Q (.bl o.isSome) H
def rDNotIn : R2 := fun y x H Q => ∃ a o, x = .ref a ∧ DGet H a y o ∧ Q (.bl (!o.isSome)) H
theorem op_dnotin (hu : X.A.units + 1 < cLine) : OpR X (compareOp .NotIn) rDNotIn := by
  intro pins s σ H x y v u Q I rx ry h
  obtain ⟨a, o, e1, g, q⟩ := h
  subst e1
  cases (show u = Value.ref a from ry)
  exact d_notIn hu I g rx fun s3 I3 => ⟨.bl (!o.isSome), H, I3, rfl, q⟩
theorem op_din (hu : X.A.units + 1 < cLine) : OpR X (compareOp .In) rDIn := by
  intro pins s σ H x y v u Q I rx ry h
  obtain ⟨a, o, e1, g, q⟩ := h
  subst e1
  cases (show u = Value.ref a from ry)
  exact d_in hu I g rx fun s3 I3 => ⟨.bl o.isSome, H, I3, rfl, q⟩
/-- n in ns, n not in ns (ints) -/
theorem inV_ints (n : Int) : ∀ ns : List Int, inV (.int n) (ns.map V.int) = decide (n ∈ ns)
  | [] => rfl
  | m :: r => by
    have ih := inV_ints n r
    unfold inV at ih ⊢
    rw [List.map_cons, List.any_cons, ih, Bool.eq_iff_iff]
    have e : eqV (V.int m) (V.int n) = decide (m = n) := by
      unfold eqV
      first | rfl | (simp) | (rw [Bool.eq_iff_iff]; simp)
    rw [e, Bool.or_eq_true, decide_eq_true_eq, decide_eq_true_eq, decide_eq_true_eq, List.mem_cons]
    exact ⟨fun h => h.imp Eq.symm id, fun h => h.imp Eq.symm id⟩
theorem flat_ints (ns : List Int) : (ns.map V.int).all flatV = true := by
  rw [List.all_map]
  exact List.all_eq_true.mpr fun _ _ => rfl
def rInI (K : PySem.W.Frag) : R2 := fun x y H Q => ∃ (n : Int) (a : Addr) (ns : List Int), x = .int n ∧ y = .ref a ∧ SqL K H a (ns.map V.int) ∧ Q (.bl (decide (n ∈ ns))) H
def rNotInI (K : PySem.W.Frag) : R2 := fun x y H Q => ∃ (n : Int) (a : Addr) (ns : List Int), x = .int n ∧ y = .ref a ∧ SqL K H a (ns.map V.int) ∧ Q (.bl (!decide (n ∈ ns))) H
theorem op_inInts : OpR X (compareOp .In) (rInI X.K) := by
  intro pins s σ H x y v u Q I rx ry h
  obtain ⟨n, a, ns, e1, e2, h1, q⟩ := h
  subst e1 e2
  refine op_in_seq pins s σ H _ _ v u Q I rx ry ⟨a, ns.map V.int, rfl, .inl h1, rfl, flat_ints ns, ?_⟩
  show Q (.bl (inV (.int n) (ns.map V.int))) H
  rw [inV_ints]; exact q
theorem op_notInInts : OpR X (compareOp .NotIn) (rNotInI X.K) := by
  intro pins s σ H x y v u Q I rx ry h
  obtain ⟨n, a, ns, e1, e2, h1, q⟩ := h
  subst e1 e2
  refine op_notIn_seq pins s σ H _ _ v u Q I rx ry ⟨a, ns.map V.int, rfl, .inl h1, rfl, flat_ints ns, ?_⟩
  show Q (.bl (!inV (.int n) (ns.map V.int))) H
  rw [inV_ints]; exact q
end
end BT
namespace BT
open PySem L2
abbrev Ways := List (Int × List Int)
def nx (W : Ways) (b : Int) : List Int := (W.lookup b).getD []
abbrev ks (W : Ways) : List Int := W.map Prod.fst
/-- the entries of a dict of lists of ints -/
abbrev WP (H : Hp) : List (Key × V) → Ways → Prop := Paired fun kv p => kv.1 = Sum.inl p.1 ∧ ∃ a, kv.2 = .ref a ∧ H a = some (.lst (p.2.map V.int))
theorem WP.same {H H' : Hp} (e : Same H H') {kvs : List (Key × V)} {W : Ways} (h : WP H kvs W) : WP H' kvs W := by
  induction h with
  | nil => exact .nil
  | cons h t ih =>
    obtain ⟨h1, a, h2, h3⟩ := h
    exact .cons ⟨h1, a, h2, e _ _ h3⟩ ih
theorem WP.get {H : Hp} {kvs : List (Key × V)} {W : Ways} (h : WP H kvs W) (b : Int) : (b ∉ ks W ∧ valV kvs (Sum.inl b) = none) ∨ (b ∈ ks W ∧ ∃ a, valV kvs (Sum.inl b) = some (.ref a) ∧ H a = some (.lst ((nx W b).map V.int))) := by
  induction h with
  | nil => exact .inl ⟨by simp, rfl⟩
  | @cons kv p kvs W h t ih =>
    obtain ⟨h1, a, h2, h3⟩ := h
    obtain ⟨k, os⟩ := p
    obtain ⟨k0, v0⟩ := kv
    have h1 : k0 = Sum.inl k := h1
    have h2 : v0 = .ref a := h2
    subst h1 h2
    by_cases e : k = b
    · subst e
      refine .inr ⟨by simp, a, valV_pos rfl, ?_⟩
      have : nx ((k, os) :: W) k = os := by simp [nx]
      rw [this]; exact h3
    · have e1 : valV ((Sum.inl k, V.ref a) :: kvs) (Sum.inl b : Key) = valV kvs (Sum.inl b) := valV_neg (fun z => e (Sum.inl.inj z))
      have e2 : nx ((k, os) :: W) b = nx W b := by
        unfold nx
        rw [List.lookup_cons]
        have : (b == k) = false := by simp; exact fun z => e z.symm
        rw [this]
      have e3 : b ∈ ks ((k, os) :: W) ↔ b ∈ ks W := by
        rw [ks, List.map_cons, List.mem_cons]
        exact ⟨fun z => z.elim (fun y => absurd y.symm e) id, .inr⟩
      rw [e1, e2, e3]
      exact ih
theorem WP.len {H : Hp} {kvs : List (Key × V)} {W : Ways} (h : WP H kvs W) : kvs.length = W.length := Paired.length h
theorem WP.at_ {H : Hp} {kvs : List (Key × V)} {W : Ways} (h : WP H kvs W) : ∀ {i : Nat} {k : Key} {v : V}, kvs[i]? = some (k, v) → ∃ p a, W[i]? = some p ∧ k = Sum.inl p.1 ∧ v = .ref a ∧ H a = some (.lst (p.2.map V.int)) := by
  induction h with
  | nil => intro i k v h; simp at h
  | @cons kv p kvs W h t ih =>
    intro i k v hk
    cases i with
    | zero =>
      obtain ⟨h1, a, h2, h3⟩ := h
      have : kv = (k, v) := Option.some.inj hk
      subst this
      exact ⟨p, a, rfl, h1, h2, h3⟩
    | succ i => exact ih (by simpa using hk)
theorem WP.keys {H : Hp} {kvs : List (Key × V)} {W : Ways} (h : WP H kvs W) : kvs.map Prod.fst = (ks W).map Sum.inl := by
  induction h with
  | nil => rfl
  | @cons kv p kvs W h t ih =>
    rw [List.map_cons, ih, h.1]
    rfl
/-- a dict of lists of ints, what it holds in its order -/
def WaysAt (H : Hp) (d : Addr) (W : Ways) : Prop := ∃ kvs, H d = some (.dK kvs) ∧ WP H kvs W
theorem WaysAt.same {H H' : Hp} (e : Same H H') {d : Addr} {W : Ways} (h : WaysAt H d W) : WaysAt H' d W := by
  obtain ⟨kvs, h1, h2⟩ := h
  exact ⟨kvs, e _ _ h1, h2.same e⟩
/-- .. while a loop walks it, too -/
def WaysRd (H : Hp) (d : Addr) (W : Ways) : Prop := ∃ kvs, Rd H d (.dK kvs) ∧ WP H kvs W
theorem WaysAt.rd {H : Hp} {d : Addr} {W : Ways} (h : WaysAt H d W) : WaysRd H d W := by
  obtain ⟨kvs, h1, h2⟩ := h
  exact ⟨kvs, .inl h1, h2⟩
theorem WaysRd.get {H : Hp} {d : Addr} {W : Ways} (h : WaysRd H d W) {b : Int} (hb : b ∈ ks W) : ∃ a, DGet H d (.int b) (some (.ref a)) ∧ H a = some (.lst ((nx W b).map V.int)) := by
  obtain ⟨kvs, h1, h2⟩ := h
  rcases h2.get b with ⟨h3, _⟩ | ⟨_, a, h4, h5⟩
  · exact absurd hb h3
  · exact ⟨a, .inl ⟨kvs, Sum.inl b, h1, rfl, h4.symm⟩, h5⟩
theorem WaysRd.get_none {H : Hp} {d : Addr} {W : Ways} (h : WaysRd H d W) {b : Int} (hb : b ∉ ks W) : DGet H d (.int b) none := by
  obtain ⟨kvs, h1, h2⟩ := h
  rcases h2.get b with ⟨_, h4⟩ | ⟨h3, _⟩
  · exact .inl ⟨kvs, Sum.inl b, h1, rfl, h4.symm⟩
  · exact absurd h3 hb
theorem WaysAt.get {H : Hp} {d : Addr} {W : Ways} (h : WaysAt H d W) {b : Int} (hb : b ∈ ks W) : ∃ a, DGet H d (.int b) (some (.ref a)) ∧ H a = some (.lst ((nx W b).map V.int)) := h.rd.get hb
theorem WaysAt.get_none {H : Hp} {d : Addr} {W : Ways} (h : WaysAt H d W) {b : Int} (hb : b ∉ ks W) : DGet H d (.int b) none := h.rd.get_none hb
theorem WaysAt.isD {H : Hp} {d : Addr} {W : Ways} (h : WaysAt H d W) : IsD H d := by
  obtain ⟨kvs, h1, _⟩ := h
  exact .inl ⟨kvs, .inl h1⟩
/-- .. and whether it is in it -/
theorem WaysRd.isin {H : Hp} {d : Addr} {W : Ways} (h : WaysRd H d W) (b : Int) : ∃ o, DGet H d (.int b) o ∧ o.isSome = decide (b ∈ ks W) := by
  by_cases hb : b ∈ ks W
  · obtain ⟨a, h1, _⟩ := h.get hb
    exact ⟨_, h1, by rw [decide_eq_true hb]; rfl⟩
  · exact ⟨_, h.get_none hb, by rw [decide_eq_false hb]; rfl⟩
/-- a graph as it is to be -/
structure GOk (W : Ways) (e : Int) : Prop where
  nd : (ks W).Nodup
  ent : e ∈ ks W
  clo : ∀ u v, u ∈ ks W → v ∈ nx W u → v ∈ ks W
  reach : ∀ u, u ∈ ks W → ∃ p, Path (nx W) e p u
  len : W.length ≤ 9
  deg : ∀ u, (nx W u).length ≤ 3
theorem nx_out {W : Ways} {b : Int} (h : b ∉ ks W) : nx W b = [] := by
  unfold nx
  have : W.lookup b = none := by
    rw [List.lookup_eq_none_iff]
    intro p hp
    have : b ≠ p.1 := fun z => h (List.mem_map.mpr ⟨p, hp, z.symm⟩)
    simpa using this
  rw [this]; rfl
theorem nx_at {W : Ways} (nd : (ks W).Nodup) {i : Nat} {p : Int × List Int} (h : W[i]? = some p) : nx W p.1 = p.2 := by
  induction W generalizing i with
  | nil => simp at h
  | cons q r ih =>
    obtain ⟨n1, n2⟩ := List.nodup_cons.mp (show (q.1 :: ks r).Nodup from nd)
    cases i with
    | zero =>
      obtain rfl : q = p := Option.some.inj h
      obtain ⟨k, os⟩ := q
      simp [nx]
    | succ i =>
      have h' : r[i]? = some p := by simpa using h
      have : p.1 ∈ ks r := List.mem_map.mpr ⟨p, List.mem_of_getElem? h', rfl⟩
      have e : p.1 ≠ q.1 := fun z => n1 (by rw [← z]; exact this)
      rw [← ih n2 h']
      obtain ⟨k, os⟩ := q
      unfold nx
      rw [List.lookup_cons]
      have : (p.1 == k) = false := by simpa using e
      rw [this]
/-- the order of a graph -/
abbrev line (W : Ways) (e : Int) : List Int := ordBy (ks W) (nx W) e
theorem GOk.ord {W : Ways} {e : Int} (G : GOk W e) : Ord (ks W) (nx W) e (line W e) := ordBy_ord G.clo G.ent
theorem GOk.mem {W : Ways} {e : Int} (G : GOk W e) {b : Int} : b ∈ line W e ↔ b ∈ ks W := by
  refine ⟨G.ord.sub b, fun h => ?_⟩
  obtain ⟨p, hp⟩ := G.reach b h
  exact (hp.closed (S := fun y => y ∈ line W e) G.ord.ent fun u v hu hv _ => G.ord.clo u v hu hv).1
theorem GOk.line_len {W : Ways} {e : Int} (G : GOk W e) : (line W e).length = W.length := by
  have h1 := nodup_sub_len G.ord.nd G.ord.sub
  have h2 := nodup_sub_len (l := ks W) (V := line W e) G.nd fun x hx => G.mem.mpr hx
  rw [List.length_map] at h1 h2
  omega
theorem small9 {n : Nat} (h : n ≤ 900) : n < sizeLine := Nat.lt_of_le_of_lt h (by decide)
end BT
namespace BT
open PySem L2
theorem same_mut {H0 H : Hp} {l : Addr} {o : HO} (e : Same H0 H) (h : H0 l = none) : Same H0 (upd H l o) := fun b x hb => by
  rw [upd_ne (ne_of_none hb h)]
  exact e b x hb
theorem PrL.upd {H : Hp} {l : Addr} {o u : HO} (hl : H l = some u) (hu : ∀ xs, u ≠ .tup xs) {xs : List V} {ps : List (Int × Int)} (h : PrL H xs ps) : PrL (upd H l o) xs ps := by
  induction h with
  | nil => exact .nil
  | cons h t ih =>
    obtain ⟨T, h1, h2⟩ := h
    refine .cons ⟨T, h1, ?_⟩ ih
    rw [upd_ne (ne_of h2 hl (fun z => hu _ z.symm))]
    exact h2
theorem PrL.snoc {H : Hp} {xs : List V} {ps : List (Int × Int)} {T : Addr} {p : Int × Int} (h : PrL H xs ps) (hT : H T = some (.tup [.int p.1, .int p.2])) : PrL H (xs ++ [.ref T]) (ps ++ [p]) := by
  induction h with
  | nil => exact .cons ⟨T, rfl, hT⟩ .nil
  | cons h t ih => exact .cons h ih
theorem PrL.last {H : Hp} {p : Int × Int} : ∀ {ps : List (Int × Int)} {xs : List V}, PrL H xs (ps ++ [p]) → ∃ ys T, xs = ys ++ [.ref T] ∧ PrL H ys ps ∧ H T = some (.tup [.int p.1, .int p.2])
  | [], xs, h => by
    cases h with
    | cons h t =>
      cases t
      obtain ⟨T, h1, h2⟩ := h
      exact ⟨[], T, by rw [h1]; rfl, .nil, h2⟩
  | q :: r, xs, h => by
    cases h with
    | cons h t =>
      obtain ⟨ys, T, h1, h2, h3⟩ := PrL.last t
      exact ⟨_ :: ys, T, by rw [h1]; rfl, .cons h h2, h3⟩
theorem get_last {xs : List V} {v : V} : (xs ++ [v])[(xs ++ [v]).length - 1]? = some v := by
  rw [List.length_append, List.length_singleton, Nat.add_sub_cancel, List.getElem?_append_right (Nat.le_refl _), Nat.sub_self]
  rfl
theorem drop_last {xs : List V} {v : V} : (xs ++ [v]).dropLast = xs := by simp
/-- a dict whose keys are l, each with the value v -/
def keyed (l : List Int) (v : V) : List (Key × V) := l.map fun k => (Sum.inl k, v)
theorem keyed_val (v : V) (o : Int) : ∀ l : List Int, valV (keyed l v) (Sum.inl o : Key) = if o ∈ l then some v else none
  | [] => rfl
  | k :: r => by
    by_cases e : k = o
    · subst e
      have h : valV (keyed (k :: r) v) (Sum.inl k : Key) = some v := valV_pos (p := (Sum.inl k, v)) rfl
      rw [h, if_pos (List.mem_cons_self ..)]
    · have h : valV (keyed (k :: r) v) (Sum.inl o : Key) = valV (keyed r v) (Sum.inl o) := valV_neg (p := (Sum.inl k, v)) (fun z => e (Sum.inl.inj z))
      rw [h, keyed_val v o r]
      by_cases h2 : o ∈ r
      · rw [if_pos h2, if_pos (List.mem_cons_of_mem _ h2)]
      · rw [if_neg h2, if_neg (fun z => (List.mem_cons.mp z).elim (fun y => e y.symm) h2)]
theorem keyed_put {l : List Int} {v : V} {o : Int} (h : o ∉ l) : putK (keyed l v) (Sum.inl o : Key) v = keyed (l ++ [o]) v := by
  rw [putK_new v (by rw [keyed_val, if_neg h])]
  unfold keyed
  rw [List.map_append]
  rfl
theorem keyed_len (l : List Int) (v : V) : (keyed l v).length = l.length := by unfold keyed; rw [List.length_map]
end BT
namespace BT
open PySem PySem.Spec L2
section
variable {X : Cx}
/-- y = {k: v for ..}, y a plain local on the line of the braces -/
theorem ps_setDc {i : Nat} {y : Str} {py : Pos} {kx vx tg iter : Expr} {ifs : List Expr} {scope : Scope} {own : List (Str × Nat)} {pos spos : Pos} {wi : TI} {g : TG} {tt : TT} {tk tv : TE} (hcalm : X.calm = true) (hnd : X.N.Nodup) (hy : X.N[i]? = some y) (hloc : X.env.scope.names.lookup y = some .local)
    (hswap : swapsWith (.DictComp kx vx [⟨tg, iter, ifs, 0⟩] scope pos) (some (.Name y py)) spos.line X.env = pure true) (hiter : PI X tg iter wi) (blk : BlkOk X.N X.env.scope scope own)
    (htg : ∀ (s : Shared) (H : Hp) (C : Addr) (cl : List (Str × Addr)) (fp : List Addr), PG (X.blk s H scope (compEnvC scope cl C X.env) fp) tg g)
    (hifs : ∀ (s : Shared) (H : Hp) (C : Addr) (cl : List (Str × Addr)) (fp : List Addr), PTs (X.blk s H scope (compEnvC scope cl C X.env) fp) ifs tt)
    (hkey : ∀ (s : Shared) (H : Hp) (C : Addr) (cl : List (Str × Addr)) (fp : List Addr), PE (X.blk s H scope (compEnvC scope cl C X.env) fp) kx tk)
    (hval : ∀ (s : Shared) (H : Hp) (C : Addr) (cl : List (Str × Addr)) (fp : List Addr), PE (X.blk s H scope (compEnvC scope cl C X.env) fp) vx tv) (hfold : ∀ x, foldedSetIterable iter X.env x = pure x := by intro _; rfl) :
    PS X (.Assign [.Name y py] (.DictComp kx vx [⟨tg, iter, ifs, 0⟩] scope pos) spos) (tAsg (tDc wi g tt tk tv (own.map (·.2))) (gName i)) := by
  constructor
  intro pins s σ H D I h
  have h' : tDc wi g tt tk tv (own.map (·.2)) σ H (fun x H1 => gName i x σ H1 D.nx) := h
  rw [exec_Assign_Name_used _ _ _ _ hswap]
  refine wpAny_bind (wpAny_standAt (wpAny_bind ?_))
  rw [arm_evalThenUse_DictComp]
  refine wpAny_bind (thn (dc_core (Qf := fun _ s' => SP X pins D .next s') hcalm hnd I hiter blk htg hifs hkey hval hfold h' fun L C s' m H' I' q hn fp => ?_) fun _ _ z => wpAny_pure (wpAny_pure z))
  obtain ⟨p0, p1, p2, p3, p4, p5⟩ := fp
  show wpAny _ _ (assign (.Name y py) X.env (.ref L)) _ _ _
  refine wpAny_assign_Name (store_ok2 (v := V.ref L) I' hnd hy (.inl hloc) rfl (fun s2 I2 ⟨a, same, ha⟩ => ?_) (.inr hloc))
  have hne : C ≠ a := ha.elim (fun z => by rw [z]; exact p1) fun z e => p4 y a z e.symm
  exact ⟨m, hn.sameBut same hne, fun h3 same3 => ⟨_, H', I2.turned (t' := s2.toks) (fun b o hb e => (same3.2 b hb).trans e) p0 p1 p3 p4 p5, q⟩⟩
theorem sw_dict {kx vx : Expr} {gs : List Comprehension} {scope : Scope} {pos py : Pos} {y : Str} {l : Nat} {env : Env} (hf : env.scope.kind = .function) (hl : (py.line == pos.line) = true) (hy : env.scope.names.lookup y = some .local)
    (hn : (scope.names.any fun (n, k) => n == y && (k == .local || k == .cell)) = false) : swapsWith (.DictComp kx vx gs scope pos) (some (.Name y py)) l env = pure true := by
  have b1 : env.blockKind = .function := by
    unfold Env.blockKind
    rw [hf]
    rfl
  have b2 : env.kindOf y = some .local := hy
  unfold swapsWith
  simp only [b1, b2, hn, hl, Expr.pos]
  rfl
/-! ### sorted(d.values()), d a dict of fewer than 64 entries whose values are ints -/
def tSortedVals (td : TE) : TE := fun σ H Q => td σ H fun x H1 => ∃ (a : Addr) (kvs : List (Key × V)) (ns : List Int), x = V.ref a ∧ H1 a = some (.dK kvs) ∧ kvs.map (·.2) = ns.map V.int ∧ ns.length < 64 ∧
  ∀ (ys : List Int) (p : Addr), ys.Perm ns → ys.Pairwise (· ≤ ·) → H1 p = none → Q (.ref p) (upd H1 p (.lst (ys.map V.int)))
theorem pe_sortedVals {o : Expr} {p pos apos mpos : Pos} {td : TE} (hcalm : X.calm = true) (hgl : Gl X "sorted") (hmg : X.mg "sorted" = none) (ho : PE X o td) (hab : attributeBase o "values" X.env (eval o X.env) = eval o X.env := by rfl) (hln : (apos.endLine == mpos.line) = true := by rfl)
    (hst : starEach [Expr.Call (.Attribute o "values" apos) [] [] mpos] X.env = [(false, eval (Expr.Call (.Attribute o "values" apos) [] [] mpos) X.env)] := by rfl) :
    PE X (.Call (.Name "sorted" p) [.Call (.Attribute o "values" apos) [] [] mpos] [] pos) (tSortedVals td) := by
  constructor
  intro pins s σ H Q I h
  refine wpAny_Call_Name_kw (ld_blt I hgl hmg (u := .builtin "sorted") (by first | rfl | decide +kernel) ?_ (by first | decide +kernel | decide) (by first | decide +kernel | decide))
  rw [hst]
  refine PySem.callWith_builtin1 (wpAny_Call_method0_late hab hln (thn (ho.run pins s σ H _ I h) fun v s1 ⟨x, H1, I1, r1, a, kvs, ns, ex, ha, hv, h64, q⟩ => ?_))
  subst ex
  cases (show v = Value.ref a from r1)
  obtain ⟨_, lo, vs, rel, dof⟩ := dk_of I1.hok ha
  obtain ⟨ep, dat⟩ := dof.dictAt
  obtain ⟨ob, es, hob, hex, _⟩ := id dat
  refine ⟨"dict", "dict.values", F.plainAttrs_dict, F.slot_dict_values, F.type_dict_values, ⟨ob, hob, hex.1⟩, fun b e => ?_, Calls.callWith_builtin rfl (PySem.evalArgs_none ?_)⟩
  · cases e
    exact ⟨ob, hob, hex.2.1⟩
  refine call_meetsIn F.slot_dict_values ⟨ob, hob, hex.1⟩ F.entry_dict_values (F.args_dict_values_1 _) (meets_dict_values (mixKind X.prog X.w) a lo) ⟨⟨vs, dof⟩, ?_⟩
  have kp1 : ∀ b u, s1.heap.get? b = some u → (s1.heap.push { cls := .type "dict_values", data := .fields #[.ref a] }).get? b = some u := fun b u e => Heap.get?_push_of_some _ e
  have hlv : vs.length = ns.length := by
    have e1 := congrArg List.length hv
    rw [List.length_map, List.length_map] at e1
    rw [← e1, KV.length rel]
  have h16 : vs.length ≤ sizeLine := by rw [hlv]; exact Nat.le_trans (Nat.le_of_lt h64) (by decide)
  refine Calls.call_function_entry PyProof.Rows.kind_sorted PyProof.Rows.plain_sorted PyProof.Rows.entry_sorted (PyProof.Rows.args_sorted1 _) ?_
  unfold Builtin.«sorted»
  refine wpAny_bind (m := checkCount "sorted" 1 1 _) (wpAny_pure ?_)
  refine wpAny_bind (PySem.W.kdu_collect (A := X.A.in1) (PySem.W.kdl_values (knd := mixKind X.prog X.w) (r := s1.heap.objs.size) (d := a) (kvs := vs) (ep := ep)) (I.ok.hd hcalm) ⟨⟨_, Heap.get?_push_size _ rfl, rfl, rfl⟩, dat.keep kp1⟩ h16 fun h' tk acc hk hacc => ?_)
  have hal : acc.toList.length = ns.length := by rw [Array.length_toList, hacc.1, hlv]
  have hS : PyProof.Rows.IntsAre acc.toList ns := ints_each hal fun j v e => by
    obtain ⟨k, e1⟩ := hacc.2 j v (by rw [← Array.getElem?_toList]; exact e)
    obtain ⟨x, g1, g2⟩ := KV.at' rel e1
    have e3 : (kvs.map (·.2))[j]? = some x := by
      rw [List.getElem?_map, g1]
      rfl
    rw [hv, List.getElem?_map] at e3
    obtain ⟨y, hy, e4⟩ := Option.map_eq_some_iff.mp e3
    subst e4
    obtain ⟨t, e5⟩ := g2
    exact ⟨y, t, hy, e5⟩
  have I2 : Inv X pins σ H1 { s1 with heap := h', toks := tk } := I1.kept fun b u e => hk b u (kp1 b u e)
  refine wpAny_bind (wpAny_newList ?_ (by rw [hal]; exact Nat.le_trans (Nat.le_of_lt h64) (by decide)))
  have hoL : (h'.push (PyProof.Rows.seqObj "list" acc.toList.toArray 0)).get? h'.objs.size = some (PyProof.Rows.seqObj "list" acc.toList.toArray 0) := Heap.get?_push_size _ rfl
  show wpAny _ _ _ _ _ { s1 with heap := h'.push (PyProof.Rows.seqObj "list" acc.toList.toArray 0), toks := tk }
  refine wpAny_bind (wpAny_holding (wpAny_call_entry PyProof.Rows.slot_list_sort ⟨_, hoL, rfl⟩ PyProof.Rows.entry_list_sort
    (PyProof.Rows.list_sort_tree (s := { s1 with heap := h'.push (PyProof.Rows.seqObj "list" acc.toList.toArray 0), toks := tk }) hoL hS (by rw [hal]; exact h64) fun out ys g1 g2 g3 => ⟨_, rfl, ?_⟩) (PyProof.Rows.args_list_sort _)))
  obtain ⟨e', he'⟩ := PyProof.Rows.sortedHeap_at (vs := acc.toList) (out := out) hoL
  have hz : (ys.map V.int).length ≤ sizeLine := by
    rw [List.length_map, g2.length_eq]
    exact Nat.le_trans (Nat.le_of_lt h64) (by decide)
  refine wpAny_pure ⟨_, rfl, .ref h'.objs.size, upd H1 h'.objs.size (.lst (ys.map V.int)), I2.laid (t' := tk) (fun b u e => ?_) (Nat.le_refl _)
    (show ObjOk X.prog X.w _ _ _ (.lst (ys.map V.int)) from ⟨hz, out.toList, e', vals_of_ints g1, by rw [Array.toArray_toList]; exact he'⟩), rfl, q ys _ g2 g3 (I2.hok.fresh (Nat.le_refl _))⟩
  have hb : b < h'.objs.size := Heap.lt_size e
  rw [PyProof.Rows.sortedHeap_old (Nat.ne_of_lt hb) (by rw [Heap.size_push]; exact Nat.lt_succ_of_lt hb)]
  exact Heap.get?_push_of_some _ e
end
end BT
namespace BT
open PySem PySem.Spec L2
section
/-- enumerate(v) for anything that begins -/
theorem meets_enum1 {v : Value} {o : Obj} {R0 : Heap → Prop} (B : Begins v o R0) :
    Meets (Builtin.«enumerate.__new__» ⟨[.type "enumerate", v], []⟩) (fun _ R s => R0 s.heap ∧
      R (.ok (.ret (.ref (s.heap.push o).objs.size))) { s with heap := (s.heap.push o).push { cls := .type "enumerate", data := .fields #[.none, .bool false, .ref s.heap.objs.size, rawInt 0, .none, .none] } }) := by
  refine .of_wp fun prog w A R s h => ?_
  obtain ⟨hp, g, d, tk, os⟩ := s
  obtain ⟨h1, h2⟩ := h
  have hs0 := sub_enumerate
  have go : ∀ {A' : Around} {E : Value → Shared → Prop} {Q : Value → Shared → Prop}, Q (.ref hp.objs.size) ⟨hp.push o, g, d, tk, os⟩ → wpAny (model prog w) A' (pyIter v) Q E ⟨hp, g, d, tk, os⟩ :=
    fun q => B.iter prog w _ _ ⟨hp, g, d, tk, os⟩ _ h1 q
  wp_walk using go
  refine wpAny_stack_any fun st => wpAny_pure ?_
  split
  · rename_i c _ _ _ _ _
    cases (c == Value.type "enumerate") <;> (wp_walk using go; exact ⟨_, rfl, h2⟩)
  · wp_walk using go
    exact ⟨_, rfl, h2⟩
theorem enum1 {prog : Program} {w : World} {A : Around} {E : Value → Shared → Prop} {s : Shared} {v : Value} {o : Obj} {R0 : Heap → Prop} {Q : Value → Shared → Prop} (B : Begins v o R0) (h1 : R0 s.heap)
    (hq : ∀ h', IsEnum h' (s.heap.objs.size + 1) s.heap.objs.size 0 .none → h'.get? s.heap.objs.size = some o → (∀ b o, s.heap.get? b = some o → h'.get? b = some o) → Q (.ref (s.heap.objs.size + 1)) { s with heap := h' }) :
    wpAny (model prog w) A (call (.type "enumerate") [v]) Q E s := by
  have hz : (s.heap.push o).objs.size = s.heap.objs.size + 1 := Heap.size_push ..
  have he : IsEnum ((s.heap.push o).push { cls := .type "enumerate", data := .fields #[.none, .bool false, .ref s.heap.objs.size, rawInt 0, .none, .none] }) (s.heap.objs.size + 1) s.heap.objs.size 0 .none := by
    have e1 := Heap.get?_push_size (s.heap.push o) (o := { cls := .type "enumerate", data := .fields #[.none, .bool false, .ref s.heap.objs.size, rawInt 0, .none, .none] }) rfl
    rw [hz] at e1
    exact e1
  refine callType_new F.called_enumerate (by decide) (F.typeCall_enumerate_1 _) (F.newCall_enumerate_1 _) (fun obj => F.args_object_init_2 obj _) F.entry_enumerate_new (meets_enum1 B) ⟨h1, ?_⟩
  show _ ∧ _
  rw [hz]
  exact ⟨⟨_, he, rfl⟩, hq _ he (Heap.get?_push_of_some _ (Heap.get?_push_size _ B.free)) fun b o' x => Heap.get?_push_of_some _ (Heap.get?_push_of_some _ x)⟩
/-- the tuple at a, each item in a new pair -/
def IteT (K : PySem.W.Frag) (a : Addr) : It :=
  ⟨fun i H => ∃ (xs : List V) (x : V), SqT K H a xs ∧ xs[i]? = some x, fun i H v H' => ∃ T x, v = .ref T ∧ H T = none ∧ H' = upd H T (.tup [.int (i : Nat), x]) ∧ ∀ xs, SqT K H a xs → xs[i]? = some x, fun i H => ∃ xs : List V, SqT K H a xs ∧ i = xs.length⟩
theorem tup_inj {X : Cx} {pins : List (Addr × Obj)} {σ : St} {H : Hp} {s : Shared} {a : Addr} {xs ys : List V} (I : Inv X pins σ H s) (h1 : SqT X.K H a xs) (h2 : SqT X.K H a ys) : xs = ys := by
  exact I.tuple_inj h1 h2
theorem turn_enumT {P : Program} {w : World} {K : PySem.W.Frag} {elts : List Expr} {kk : Nat} {tpos : Pos} (a e it : Addr) :
    Turn P w K (.Tuple elts kk tpos) (IteT K a) [e, it] e (fun i h => (∃ old, IsEnum h e it ((i : Nat) : Int) old) ∧ h.IsTupleIter it a i ∧ e ≠ it) where
  mem := List.mem_cons_self ..
  obj := by
    intro i h ⟨⟨old, he⟩, ⟨o, ho, hc, hd⟩, _⟩ b hb
    rcases List.mem_cons.mp hb with z | z
    · exact ⟨_, by rw [z]; exact he, fun v q => by cases q⟩
    · have z : b = it := by simpa using z
      exact ⟨o, by rw [z]; exact ho, fun v q => by rw [hd] at q; cases q⟩
  keep := by
    intro i h h' ⟨⟨old, he⟩, hi, hne⟩ k
    exact ⟨⟨old, k e (List.mem_cons_self ..) _ he⟩, hi.at fun o q => k it (List.mem_cons_of_mem _ (List.mem_cons_self ..)) o q, hne⟩
  item := by
    intro X hP hw hK hc i pins s σ H E I hf ⟨⟨old, he⟩, hit, hne⟩ ⟨xs, x, hq, hx⟩
    subst hP hw hK
    obtain ⟨its, rv, p, hz⟩ := I.tuple hq
    have p : s.heap.IsTuple a its.toArray := p
    obtain ⟨u, hu, ru⟩ := rv.get hx
    have hel : e < s.heap.objs.size := Heap.lt_size he
    have hil : it < s.heap.objs.size := by obtain ⟨_, q, _⟩ := hit; exact Heap.lt_size q
    have hea : e ≠ a := fun z => by
      obtain ⟨o, ho, hc, _⟩ := p
      rw [← z] at ho
      rw [he] at ho
      rw [← Option.some.inj ho] at hc
      simp at hc
    have hia : a ≠ it := fun z => by
      obtain ⟨o, ho, hc, _⟩ := p
      obtain ⟨o2, ho2, hc2, _⟩ := hit
      rw [z, ho2] at ho
      rw [← Option.some.inj ho, hc2] at hc
      simp at hc
    have hlt : i < its.toArray.size := by
      rw [List.size_toArray]
      exact (List.getElem?_eq_some_iff.mp hu).1
    refine wpAny_pyNext_enum_itemC (Draws.tuple (A := X.A.in1) (show X.A.in1.handled = none from I.ok.hd hc) it a hia its.toArray) he ⟨hit, p⟩ hlt hne (by simp [hne, hea]) fun y h' tk hy ho hst hT hsz hk => ?_
    have hyu : y = u := by
      have : its[i]? = some y := by simpa using hy
      rw [hu] at this
      exact (Option.some.inj this).symm
    subst hyu
    refine ⟨_, rfl, wpAny_letOwnedTupleGo_enum (s := { s with heap := h', toks := tk + 1 }) ho fun h'' he' sb => ?_⟩
    have hT2 : h''.get? s.heap.objs.size = some { cls := .type "tuple", data := .seq #[.int i tk, y] } := (sb.2 _ (Nat.ne_of_gt hel)).trans hT
    have new : ObjOk X.prog X.w (upd H s.heap.objs.size (.tup [.int (i : Nat), x])) h'' s.heap.objs.size (.tup [.int (i : Nat), x]) :=
      ⟨by show 2 ≤ sizeLine; decide, [.int i tk, y], .cons ⟨_, rfl⟩ (.cons ru .nil), ⟨_, hT2, rfl, _, rfl⟩⟩
    have I1 : Inv X pins σ (upd H s.heap.objs.size (.tup [.int (i : Nat), x])) { s with heap := h'', toks := tk + 1 } :=
      I.turnedNew (ch := [e, it]) (fun b ob hb q => (sb.2 b (fun z => hb (by simp [z]))).trans (hk b ob (fun z => hb (by simp [z])) (fun z => hb (by simp [z])) q)) hf (Nat.le_refl _) new
    refine ⟨.ref s.heap.objs.size, _, I1, rfl, ⟨_, x, rfl, I.hok.fresh (Nat.le_refl _), rfl, fun ys hy => by rw [tup_inj I hy hq]; exact hx⟩, ⟨⟨y, ?_⟩, hst.1.at fun o q => (sb.2 it (Ne.symm hne)).trans q, hne⟩, fun b hb => ?_⟩
    · rw [show ((i + 1 : Nat) : Int) = (i : Int) + 1 by omega]
      exact he'
    · have hb' : b < s.heap.objs.size := by
        rcases List.mem_cons.mp hb with z | z
        · rw [z]; exact hel
        · have z : b = it := by simpa using z
          rw [z]; exact hil
      rw [upd_ne (Nat.ne_of_lt hb')]
      exact (hf b hb).1
  done := by
    intro X hP hw hK hc i pins s σ H E I hf ⟨⟨old, he⟩, hit, hne⟩ ⟨xs, hq, hx⟩
    subst hP hw hK
    obtain ⟨its, rv, p, hz⟩ := I.tuple hq
    have p : s.heap.IsTuple a its.toArray := p
    obtain ⟨f0, f1, f2, f3, f4, f5⟩ := hf it (List.mem_cons_of_mem _ (List.mem_cons_self ..))
    have hia : a ≠ it := fun z => by
      obtain ⟨o, ho, hc, _⟩ := p
      obtain ⟨o2, ho2, hc2, _⟩ := hit
      rw [z, ho2] at ho
      rw [← Option.some.inj ho, hc2] at hc
      simp at hc
    have hn : i = its.toArray.size := by rw [List.size_toArray, ← rv.length]; exact hx
    subst hn
    exact wpAny_pyNext_enum_endD (Draws.tuple (A := X.A.in1) (show X.A.in1.handled = none from I.ok.hd hc) it a hia its.toArray) he ⟨hit, p⟩ fun h' eb => ⟨rfl, I.turned (t' := s.toks) (fun b o hb q => eb b o hb q) f0 f1 f3 f4 f5⟩
  self := by
    intro A i s Q E ⟨⟨_, he⟩, _⟩ h
    exact wpAny_pyIter_enum he h
def iEnumT (K : PySem.W.Frag) (ta : TA) : TI := fun σ H R => ta σ H fun vs H1 => ∃ a xs, vs = [.ref a] ∧ SqT K H1 a xs ∧ R (IteT K a) H1
theorem pi_enumT {X : Cx} {e : Expr} {ta : TA} {p pos tpos : Pos} {elts : List Expr} {kk : Nat} (hg : Gl X "enumerate") (hm : X.mg "enumerate" = none) (ha : PA X [e] ta) (hst : starEach [e] X.env = [(false, eval e X.env)] := by rfl) :
    PI X (.Tuple elts kk tpos) (.Call (.Name "enumerate" p) [e] [] pos) (iEnumT X.K ta) := by
  constructor
  intro pins s σ H R I h
  refine PyProof.Rows.Call_ (ld_blt I hg hm PyProof.Rows.boot_enumerate (PyProof.Rows.callWith_type1 (thn (ha.run pos pins s σ H _ I h) fun us s1 ⟨vs, H1, I1, r1, a, xs, ex, hq, q⟩ => ?_) hst rfl))
  subst ex
  obtain ⟨u, eu, ru⟩ := vals1 r1
  subst eu
  cases (show u = Value.ref a from ru)
  obtain ⟨its, rv, p', hz⟩ := I1.tuple hq
  refine enum1 (begins_tuple a its.toArray) (show s1.heap.IsTuple a its.toArray from p') fun h' he hit hk => wpAny_pyIter_enum he ?_
  have I2 : Inv X pins σ H1 { s1 with heap := h' } := I1.kept (t' := s1.toks) hk
  refine ⟨s1.heap.objs.size + 1, [s1.heap.objs.size + 1, s1.heap.objs.size], _, _, H1, rfl, I2, turn_enumT a (s1.heap.objs.size + 1) s1.heap.objs.size, ⟨⟨.none, he⟩, ⟨_, hit, rfl, rfl⟩, Nat.succ_ne_self _⟩, fun b hb => ?_, q⟩
  have hle : s1.heap.objs.size ≤ b := by
    rcases List.mem_cons.mp hb with z | z
    · rw [z]; exact Nat.le_succ _
    · have z : b = s1.heap.objs.size := by simpa using z
      rw [z]; exact Nat.le_refl _
  exact I1.fpOk hle (I1.hok.fresh hle)
theorem walk_enumT {K : PySem.W.Frag} {a : Addr} {xs : List V} : Walk (IteT K a) xs.length (fun H => SqT K H a xs) (YPair (fun i => some (.int (i : Nat))) (fun i => xs[i]?)) := by
  refine ⟨fun i _ hi q => ⟨xs, xs[i], q, List.getElem?_eq_getElem hi⟩, fun _ q => ⟨xs, q, rfl⟩, fun i H v H' _ q ⟨T, x, h1, h2, h3, h4⟩ => ⟨T, .int (i : Nat), x, h1, h2, h3, rfl, h4 xs q⟩⟩
end
end BT
namespace BT
open PySem PySem.Spec L2
/-! ### len(set(ns)) -/
theorem step_in {acc : List Int} {v : Int} (h : v ∈ acc) : PyProof.Rows.step_dedup acc v = acc := by
  have : acc.any (· == v) = true := List.any_eq_true.mpr ⟨v, h, by simp⟩
  unfold PyProof.Rows.step_dedup
  rw [if_pos this]
theorem step_out {acc : List Int} {v : Int} (h : v ∉ acc) : PyProof.Rows.step_dedup acc v = acc ++ [v] := by
  have : ¬ acc.any (· == v) = true := fun z => by
    obtain ⟨y, hy, e⟩ := List.any_eq_true.mp z
    exact h (by rw [← eq_of_beq e]; exact hy)
  unfold PyProof.Rows.step_dedup
  rw [if_neg this]
theorem dedup_len : ∀ (l acc : List Int), acc.Nodup → (l.foldl PyProof.Rows.step_dedup acc).length ≤ acc.length + l.length ∧ ((l.foldl PyProof.Rows.step_dedup acc).length < acc.length + l.length ↔ ¬ (acc ++ l).Nodup)
  | [], acc, h => by
    simp [h]
  | v :: r, acc, h => by
    rw [List.foldl_cons]
    by_cases hv : v ∈ acc
    · rw [step_in hv]
      obtain ⟨h1, h2⟩ := dedup_len r acc h
      refine ⟨by simp only [List.length_cons]; omega, ⟨fun _ z => ?_, fun _ => by simp only [List.length_cons]; omega⟩⟩
      exact (List.nodup_append.mp z).2.2 v hv v (List.mem_cons_self ..) rfl
    · rw [step_out hv]
      have hn : (acc ++ [v]).Nodup := by
        refine List.nodup_append.mpr ⟨h, by simp, fun a ha b hb e => ?_⟩
        have hbv : b = v := by simpa using hb
        rw [e, hbv] at ha
        exact hv ha
      obtain ⟨h1, h2⟩ := dedup_len r (acc ++ [v]) hn
      rw [List.append_assoc, List.singleton_append] at h2
      simp only [List.length_append, List.length_singleton, List.length_cons, List.length_nil] at h1 h2 ⊢
      refine ⟨by omega, ?_⟩
      rw [← h2]
      omega
theorem range_getD (ns : List Int) : ((List.range ns.length).map fun i => ns.getD i 0) = ns := by
  refine List.ext_getElem? fun i => ?_
  rw [List.getElem?_map]
  by_cases h : i < ns.length
  · rw [List.getElem?_range h, List.getElem?_eq_getElem h]
    simp [h]
  · rw [List.getElem?_eq_none (by simpa using h), List.getElem?_eq_none (by simpa using h)]
    rfl
theorem firstMet_len (ns : List Int) : (PyProof.Rows.firstMet (fun i => ns.getD i 0) ns.length).length ≤ ns.length ∧ ((PyProof.Rows.firstMet (fun i => ns.getD i 0) ns.length).length < ns.length ↔ ¬ ns.Nodup) := by
  unfold PyProof.Rows.firstMet
  rw [range_getD]
  have := dedup_len ns [] List.nodup_nil
  simpa using this
def tLenSetA (K : PySem.W.Frag) (ta : TE) : TE := fun σ H Q => ta σ H fun x H1 => ∃ (l : Addr) (ns : List Int), x = .ref l ∧ SqL K H1 l (ns.map V.int) ∧ ns.length ≤ 4000 ∧ ∀ k : Nat, k ≤ ns.length → (k < ns.length ↔ ¬ ns.Nodup) → Q (.int (k : Nat)) H1
theorem pe_lenSetA {X : Cx} {a : Expr} {ta : TE} {p p2 q pos : Pos} (hcalm : X.calm = true) (gl : Gl X "len") (ml : X.mg "len" = none) (gs : Gl X "set") (ms : X.mg "set" = none) (ha : PE X a ta)
    (hst : starEach [a] X.env = (false, eval a X.env) :: starEach [] X.env := by rfl) : PE X (.Call (.Name "len" p) [.Call (.Name "set" p2) [a] [] q] [] pos) (tLenSetA X.K ta) := by
  constructor
  intro pins s σ H Q I h
  refine PyProof.Rows.Call_ (ld_blt I gl ml PySem.boot_len ?_)
  refine PyProof.Rows.callWith_builtin1 (PyProof.Rows.args_cons ?_ rfl) rfl rfl
  refine PyProof.Rows.Call_ (ld_blt I gs ms (u := .type "set") (by first | rfl | decide +kernel) ?_)
  refine PyProof.Rows.callWith_type1 (PyProof.Rows.args_cons (thn (ha.run pins s σ H _ I h) fun v s1 ⟨x, H1, I1, r1, l, ns, ex, hq, hl, k⟩ => PyProof.Rows.args_nil ?_) hst) hst rfl
  subst ex
  cases (show v = Value.ref l from r1)
  obtain ⟨its, r, pl, hz⟩ := I1.list hq
  have hlen : its.toArray.size = ns.length := by rw [List.size_toArray, ← r.length, List.length_map]
  obtain ⟨f1, f2⟩ := firstMet_len ns
  refine call_set_list (I1.ok.hd hcalm) pl.isList (by simpa using RZ.intsAre_vals r) (by rw [hlen]; unfold scanBound; omega) fun h' tk hS hk => PyProof.Rows.args_nil ?_
  rw [hlen] at hS
  obtain ⟨o, es, ep, t, ho, hex, hd, _, _, _, hf, hn⟩ := hS
  have I2 : Inv X pins σ H1 { s1 with heap := h', toks := tk } := I1.kept fun b o e => hk b o (Heap.lt_size e) e
  refine call_len_set ho hex hd hf (by rw [hn]; omega) ⟨.int (PyProof.Rows.firstMet (fun i => ns.getD i 0) ns.length).length, H1, I2.tok _, ⟨_, by rw [hn]⟩, k _ f1 f2⟩
end BT
namespace BT
open PySem PySem.Spec L2
open PySem.W (InstAt findIn notFirst subIn isFn)
/-! ### == and != by an own __eq__ -/
section
variable {prog : Program} {w : World} {A : Around} {E : Value → Shared → Prop} {s : Shared} {K : PySem.W.Frag} {x C f : Addr} {ox : Obj} {od : Option Obj}
theorem bound_B {M : Model} {name : Str} {id : String} {args : List Value} {Q : Option Value → Shared → Prop} (X : K.In s.heap) (I : InstAt s.heap x ox C od) (hs : findIn K (.ref C) name = some (some (.builtin id)))
    (hb : bindSpecial (.builtin id) (.ref x) = pure (.builtin id, [.ref x])) (h : wpAny M A (call (.builtin id) (.ref x :: args)) (fun v => Q (some v)) E s) : wpAny M A (callSpecialIfBound? (.ref x) name args) Q E s := by
  have last : wpAny M A (call (.builtin id) ([.ref x] ++ args) >>= fun v => pure (some v)) Q E s := wpAny_bind (wpAny_mono h (fun v s' h' => wpAny_pure h') fun _ _ z => z)
  unfold callSpecialIfBound? bindSpecialIfBound?
  refine wpAny_holding (wpAny_bind (wpAny_bind (wpAny_bind (I.type.here ((PySem.W.looks_findIn X hs).here ?_)))))
  simp only [hb]
  refine wpAny_bind (wpAny_askSetting (wpAny_ite ?_))
  split
  · exact wpAny_bind (wpAny_pure (wpAny_pure last))
  · exact wpAny_tryCatch (wpAny_bind (wpAny_pure (wpAny_pure last)))
theorem obj_ne {y : Value} {Q : Fin → Shared → Prop} (hu : A.units < cLine) (X : K.In s.heap) (I : InstAt s.heap x ox C od) (hs : findIn K (.ref C) "__eq__" = some (some (.ref f))) (hf : isFn K (.ref f) = true)
    (h : wpAny (model prog w) A (call (.ref f) [.ref x, y]) (fun v s' => ∃ b, v = .bool b ∧ Q (.done (.ret (.bool (!b)))) s') E s) : wpAny (model prog w) A (Builtin.«object.__ne__» ⟨[.ref x, y], []⟩) Q E s := by
  obtain ⟨hp, g, d, tk, os⟩ := s
  have step : wpAny (model prog w) A (callSpecialIfBound? (.ref x) (Str.ofString "__eq__") [y]) (fun r s' => ∃ b, r = some (.bool b) ∧ Q (.done (.ret (.bool (!b)))) s') E ⟨hp, g, d, tk, os⟩ :=
    PySem.W.ifBound_K X I hs hf (wpAny_mono h (fun v s' ⟨b, e, q⟩ => ⟨b, by rw [e], q⟩) fun _ _ z => z)
  unfold Builtin.«object.__ne__»
  repeat (first
    | with_reducible refine wpAny_cRoomFor hu ?_
    | (refine wpAny_bind (m := callSpecialIfBound? (.ref x) (Str.ofString "__eq__") [y]) (wpAny_mono step (fun r s' hr => by
        obtain ⟨b, e, q⟩ := hr
        subst e
        repeat (first | exact q | exact wpAny_pure q | exact wpAny_truthy_bool q | (refine wpAny_bind (m := truthy (.bool _)) (wpAny_truthy_bool ?_)) | wp_step)) fun _ _ z => z))
    | wp_step)
theorem check_ne {M : Model} {y : Value} {Q : Unit → Shared → Prop} (X : K.In s.heap) (I : InstAt s.heap x ox C od) (hm : subIn K (.ref C) (.type "object") = some true) (q : Q () s) : wpAny M A (checkBuiltinCall "object.__ne__" ⟨[.ref x, y], []⟩) Q E s := by
  simp only [checkBuiltinCall, F.cmpKind_ne, F.cmpSplit_ne]
  refine wpAny_bind ?_
  unfold isInstance
  refine wpAny_bind (m := typeOf (.ref x)) (I.type.here ((PySem.W.looks_subIn X hm).here ?_))
  simp only [Bool.not_true, Bool.false_eq_true, if_false]
  have ha := F.cmpArgs_ne (.ref x) y
  cases hsig : Manifest.signature? "object.__ne__" with
  | none => exact wpAny_pure q
  | some sig =>
    simp only [argsOk, hsig] at ha
    have h2 : Bind.checkArgs "object.__ne__" sig ⟨[.ref x, y], []⟩ = pure () := ha
    show wpAny M A (Bind.checkArgs "object.__ne__" sig ⟨[.ref x, y], []⟩) Q E _
    rw [h2]
    exact wpAny_pure q
theorem try_ne {y : Value} {Q : Option Value → Shared → Prop} (hu : A.units + 1 < cLine) (X : K.In s.heap) (I : InstAt s.heap x ox C od) (hn : findIn K (.ref C) "__ne__" = some (some (.builtin "object.__ne__"))) (hm : subIn K (.ref C) (.type "object") = some true)
    (hs : findIn K (.ref C) "__eq__" = some (some (.ref f))) (hf : isFn K (.ref f) = true) (h : wpAny (model prog w) A.in1 (call (.ref f) [.ref x, y]) (fun v s' => ∃ b, v = .bool b ∧ Q (some (.bool (!b))) s') E s) :
    wpAny (model prog w) A (tryCompare (.ref x) "__ne__" y) Q E s := by
  unfold tryCompare
  refine wpAny_bind (bound_B X I hn (F.cmp_object.ne.bind _) (wpAny_call (codeAny_call_builtin F.cmp_object.ne.plain F.cmpEntry_ne (check_ne (A := A.in1) X I hm (obj_ne (A := A.in1) hu X I hs hf (wpAny_mono h (fun v s' ⟨b, e, q⟩ => ?_) fun _ _ z => z))))))
  exact ⟨b, e, wpAny_pure q⟩
theorem cmp_ne {y : Addr} {C' : Addr} {oy : Obj} {od' : Option Obj} {Q : Value → Shared → Prop} (hu : A.units + 1 < cLine) (X : K.In s.heap) (I : InstAt s.heap x ox C od) (I' : InstAt s.heap y oy C' od') (hnf : notFirst K C (.ref C') = true)
    (hn : findIn K (.ref C) "__ne__" = some (some (.builtin "object.__ne__"))) (hm : subIn K (.ref C) (.type "object") = some true)
    (hs : findIn K (.ref C) "__eq__" = some (some (.ref f))) (hf : isFn K (.ref f) = true) (h : wpAny (model prog w) A.in1 (call (.ref f) [.ref x, .ref y]) (fun v s' => ∃ b, v = .bool b ∧ Q (.bool (!b)) s') E s) :
    wpAny (model prog w) A (richCompare .NotEq (.ref x) (.ref y)) Q E s := by
  have one : wpAny (model prog w) A (tryCompare (.ref x) (cmpInfo .NotEq).2.1 (.ref y)) (fun r s' => ∃ b, r = some (.bool b) ∧ Q (.bool b) s') E s :=
    try_ne hu X I hn hm hs hf (wpAny_mono h (fun v s' ⟨b, e, q⟩ => ⟨b, e, !b, rfl, q⟩) fun _ _ z => z)
  unfold richCompare
  simp only [oneThing_ref]
  refine wpAny_holding (wpAny_bind (wpAny_cRoomFor (by omega) ?_))
  refine wpAny_bind (I.type.here (wpAny_bind (I'.type.here ?_)))
  have fin : ∀ {r : Option Value} {s' : Shared}, (∃ b, r = some (.bool b) ∧ Q (.bool b) s') → ∃ b, r = some (.bool b) ∧ Q (.bool b) s' := fun h => h
  split
  · rename_i q
    have e : subIn K (.ref C') (.ref C) = some false := by
      rcases Bool.or_eq_true_iff.mp hnf with e | e
      · rw [beq_iff_eq.mp e] at q; simp at q
      · exact beq_iff_eq.mp e
    refine wpAny_bind ((PySem.W.looks_subIn X e).here ?_)
    simp only [Bool.false_eq_true, if_false]
    refine wpAny_bind (wpAny_mono one (fun r s' z => ?_) fun _ _ e => e)
    obtain ⟨b, rfl, hq⟩ := z
    exact wpAny_pure hq
  · refine wpAny_bind (wpAny_pure ?_)
    simp only [Bool.false_eq_true, if_false]
    refine wpAny_bind (wpAny_mono one (fun r s' z => ?_) fun _ _ e => e)
    obtain ⟨b, rfl, hq⟩ := z
    exact wpAny_pure hq
end
section
variable {X : Cx} {k j : Nat} {C C' : Addr} {sp : Sp}
theorem inst_at {pins : List (Addr × Obj)} {σ : St} {H : Hp} {s : Shared} {a C dx : Addr} {fs : List (Str × V)} (I : L2.Inv X pins σ H s) (h : H a = some (.ins C dx fs)) : ∃ od, InstAt s.heap a (PySem.W.instObj C dx) C (some od) := by
  obtain ⟨mA, O, _⟩ := ins_get I.hok h
  obtain ⟨e, n, _⟩ := O
  obtain ⟨od, es, ep, ho, _⟩ := n
  exact ⟨od, ⟨e, rfl, rfl, ho⟩⟩
/-- x == y by the class's own __eq__ -/
def rOwnEq (C C' : Addr) (sp : Sp) : R2 := fun x y H Q => ∃ a b dx fs dy gs, x = .ref a ∧ y = .ref b ∧ H a = some (.ins C dx fs) ∧ H b = some (.ins C' dy gs) ∧ sp [.ref a, .ref b] H (fun z H' => ∃ c, z = .bl c ∧ Q (.bl c) H') E0
theorem op_eqOwn (c : C8.Met X.prog X.w X.K X.mg X.base k C "__eq__" sp []) (hr : Room j X.A) (hk : k ≤ j) (hn : notFirst X.K C (.ref C') = true) : OpR X (compareOp .Eq) (rOwnEq C C' sp) := by
  intro pins s σ H x y v u Q I rx ry h
  obtain ⟨a, b, dx, fs, dy, gs, e1, e2, ha, hb, q⟩ := h
  subst e1 e2
  cases (show v = Value.ref a from rx)
  cases (show u = Value.ref b from ry)
  obtain ⟨f, fd, ps, ds, _, me, F, bd, dv⟩ := c.ex
  obtain ⟨oa, Ia⟩ := inst_at I ha
  obtain ⟨ob, Ib⟩ := inst_at I hb
  obtain ⟨m, hF⟩ := I.fr
  show wpAny _ _ (richCompare .Eq (.ref a) (.ref b)) _ _ _
  refine PySem.W.cmp_K (op := .Eq) (tb := .ref C') hr.units0 hF I.ok.mod.kin Ia Ib.type hn me.at_ me.fn ?_
  refine wpAny_mono (run_fn (us := [.ref a, .ref b]) (vs := [.ref a, .ref b]) F (hr.mono hk) bd dv pass0 I (.cons rfl (.cons rfl .nil)) q) (fun z s' hz => ?_) fun _ _ e => e
  obtain ⟨v', H', I', r', c', e', q'⟩ := hz
  subst e'
  cases (show z = Value.bool c' from r')
  exact ⟨.bl c', H', I', rfl, q'⟩
/-- x != y by the class's own __eq__ -/
def rOwnNe (C C' : Addr) (sp : Sp) : R2 := fun x y H Q => ∃ a b dx fs dy gs, x = .ref a ∧ y = .ref b ∧ H a = some (.ins C dx fs) ∧ H b = some (.ins C' dy gs) ∧ sp [.ref a, .ref b] H (fun z H' => ∃ c, z = .bl c ∧ Q (.bl (!c)) H') E0
theorem op_neOwn (c : C8.Met X.prog X.w X.K X.mg X.base k C "__eq__" sp []) (hr : Room j X.A) (hk : k + 1 ≤ j) (hn : notFirst X.K C (.ref C') = true) (hne : findIn X.K (.ref C) "__ne__" = some (some (.builtin "object.__ne__"))) (hm : subIn X.K (.ref C) (.type "object") = some true) :
    OpR X (compareOp .NotEq) (rOwnNe C C' sp) := by
  intro pins s σ H x y v u Q I rx ry h
  obtain ⟨a, b, dx, fs, dy, gs, e1, e2, ha, hb, q⟩ := h
  subst e1 e2
  cases (show v = Value.ref a from rx)
  cases (show u = Value.ref b from ry)
  obtain ⟨f, fd, ps, ds, _, me, F, bd, dv⟩ := c.ex
  obtain ⟨oa, Ia⟩ := inst_at I ha
  obtain ⟨ob, Ib⟩ := inst_at I hb
  have r2 : Vals ([V.ref a, .ref b] ++ ([] : List V)) ([Value.ref a, .ref b] ++ ds) := (Vals.append (.cons rfl (.cons rfl .nil)) dv)
  have hl : ([Value.ref a, .ref b] ++ ds).length = ps.length := by rw [← r2.length]; exact F.len _ _ _ _ q
  show wpAny _ _ (richCompare .NotEq (.ref a) (.ref b)) _ _ _
  refine cmp_ne (Nat.lt_of_le_of_lt (Nat.add_le_add_left (by decide : 1 ≤ 64) _) hr.units) I.kIn Ia Ib hn hne hm me.at_ me.fn ?_
  refine wpAny_call (codeAny_mono (F.run X.A.in1 X.stack s H ⟨[.ref a, .ref b], []⟩ ([Value.ref a, .ref b] ++ ds) ([V.ref a, .ref b] ++ ([] : List V)) _ E0 ((hr.mono hk).in1) I.env0.in1 (bd s _ I.kIn hl) r2 q) fun r s' hq => ?_)
  cases r with
  | error e => exact (pass0 pins σ H s e s' I hq)
  | ok fl =>
    cases fl with
    | ret u =>
      obtain ⟨v', H', I', r', c', e', q'⟩ := I.after hq
      subst e'
      cases (show u = Value.bool c' from r')
      exact ⟨c', rfl, .bl (!c'), H', I', rfl, q'⟩
    | next => exact False.elim hq
    | brk => exact False.elim hq
    | cont => exact False.elim hq
end
end BT
namespace BT
open PySem L2
/-- a dict comprehension over what walks: Pv by the turn and the heap (the new dict at D within) -/
theorem dc_it {J : It} {n : Nat} {G : Hp → Prop} {Y : Nat → Hp → V → Hp → Prop} (wk : Walk J n G Y) {g : TG} {tt : TT} {tk tv : TE} {vs : List Nat} {σ : St} {H1 : Hp} {D : Addr} {Qd : Hp → Prop} (Pv : Nat → Hp → Prop) (start : Pv 0 (upd H1 D (.dK []))) (stay : ∀ i H, i ≤ n → Pv i H → G H)
    (turn : ∀ i x H H', i < n → Pv i H → Y i H x H' → g x (wipe σ vs) H' fun σ2 H2 => wipe σ2 vs = wipe σ vs ∧ tt σ2 H2 fun b H3 =>
      if b = true then tk σ2 H3 fun y H4 => tv σ2 H4 fun z H5 => ∃ kvs k, y = kV k ∧ H5 D = some (.dK kvs) ∧ kvs.length < sizeLine ∧ Pv (i + 1) (upd H5 D (.dK (putK kvs k z))) else Pv (i + 1) H3) (after : ∀ H, Pv n H → Qd H) :
    ∃ W : Nat → Nat → Hp → Prop, (∃ m, W 0 m (upd H1 D (.dK []))) ∧ ∀ i m H, W i m H →
      (J.stop i H ∧ Qd H) ∨ (J.go i H ∧ ∃ Nx : Hp → Prop, (∀ H', Nx H' → ∃ m', m' < m ∧ W (i + 1) m' H') ∧ ∀ x H', J.yld i H x H' → g x (wipe σ vs) H' fun σ2 H2 => wipe σ2 vs = wipe σ vs ∧ tt σ2 H2 fun b H3 =>
        if b = true then tk σ2 H3 fun y H4 => tv σ2 H4 fun z H5 => ∃ kvs k, y = kV k ∧ H5 D = some (.dK kvs) ∧ kvs.length < sizeLine ∧ Nx (upd H5 D (.dK (putK kvs k z))) else Nx H3) := by
  refine ⟨fun i m H => m + i = n ∧ Pv i H, ⟨n, Nat.add_zero n, start⟩, fun i m H hW => ?_⟩
  obtain ⟨hm, p⟩ := hW
  have gh := stay i H (by omega) p
  by_cases lt : i < n
  · exact .inr ⟨wk.goes i H lt gh, Pv (i + 1), fun H' p' => ⟨m - 1, by omega, by omega, p'⟩, fun x H' y => turn i x H H' lt p (wk.yields i H x H' lt gh y)⟩
  · have e : i = n := by omega
    rw [e] at p ⊢
    exact .inl ⟨wk.stops H gh, after H p⟩
/-! ### a dict while a loop walks it -/
theorem same_unlock {H0 H : Hp} {d : Addr} {u x : HO} (h : H0 d = some u) (s : Same (upd H0 d x) H) : Same H0 (upd H d u) := fun b o hb => by
  by_cases e : b = d
  · rw [e, upd_same, ← h, ← hb, e]
  · rw [upd_ne e]
    exact s b o (by rw [upd_ne e]; exact hb)
theorem lock_free {H : Hp} {d p : Addr} {x : HO} (h : (upd H d x) p = none) : H p = none ∧ p ≠ d := by
  have e : p ≠ d := fun z => by rw [z, upd_same] at h; cases h
  rw [upd_ne e] at h
  exact ⟨h, e⟩
theorem WP.lock {H : Hp} {d : Addr} {kvs0 : List (Key × V)} {x : HO} (hd : H d = some (.dK kvs0)) {kvs : List (Key × V)} {W : Ways} (h : WP H kvs W) : WP (upd H d x) kvs W := by
  induction h with
  | nil => exact .nil
  | cons h t ih =>
    obtain ⟨h1, a, h2, h3⟩ := h
    refine .cons ⟨h1, a, h2, ?_⟩ ih
    rw [upd_ne (ne_of h3 hd (fun z => by cases z))]
    exact h3
/-! ### a dict of new lists, by keys and addresses -/
def kvP (ps : List (Int × Addr)) : List (Key × V) := ps.map fun p => (Sum.inl p.1, .ref p.2)
theorem kvP_val : ∀ {ps : List (Int × Addr)} {p : Int × Addr}, (ps.map Prod.fst).Nodup → p ∈ ps → valV (kvP ps) (Sum.inl p.1 : Key) = some (.ref p.2)
  | [], p, _, h => by simp at h
  | q :: r, p, nd, h => by
    obtain ⟨n1, n2⟩ := List.nodup_cons.mp (show (q.1 :: r.map Prod.fst).Nodup from nd)
    rcases List.mem_cons.mp h with z | z
    · rw [z]; exact valV_pos (p := (Sum.inl q.1, V.ref q.2)) rfl
    · have e : ¬ (Sum.inl q.1 : Key) = Sum.inl p.1 := fun y => n1 (by rw [Sum.inl.inj y]; exact List.mem_map.mpr ⟨p, z, rfl⟩)
      have e1 : valV (kvP (q :: r)) (Sum.inl p.1 : Key) = valV (kvP r) (Sum.inl p.1) := valV_neg (p := (Sum.inl q.1, V.ref q.2)) e
      rw [e1]
      exact kvP_val n2 z
theorem kvP_none {ps : List (Int × Addr)} {k : Int} (h : k ∉ ps.map Prod.fst) : valV (kvP ps) (Sum.inl k : Key) = none := by
  induction ps with
  | nil => rfl
  | cons q r ih =>
    have e : ¬ (Sum.inl q.1 : Key) = Sum.inl k := fun y => h (by rw [← Sum.inl.inj y]; exact List.mem_cons_self ..)
    have e1 : valV (kvP (q :: r)) (Sum.inl k : Key) = valV (kvP r) (Sum.inl k) := valV_neg (p := (Sum.inl q.1, V.ref q.2)) e
    rw [e1]
    exact ih fun z => h (List.mem_cons_of_mem _ z)
theorem kvP_put {ps : List (Int × Addr)} {k : Int} {a : Addr} (h : k ∉ ps.map Prod.fst) : putK (kvP ps) (Sum.inl k : Key) (.ref a) = kvP (ps ++ [(k, a)]) := by
  rw [putK_new _ (kvP_none h)]
  unfold kvP
  rw [List.map_append]
  rfl
theorem kvP_len (ps : List (Int × Addr)) : (kvP ps).length = ps.length := by unfold kvP; rw [List.length_map]
end BT
namespace BT
open PySem L2
abbrev sOrder : Stmt := top 7
theorem scOrder : FnScope ["entry", "ways", "seen", "left", "stack", "block", "at", "other"] ["entry", "ways"] (defScope sOrder) := ⟨rfl, rfl, rfl, by decide +kernel, rfl, by decide +kernel, by decide +kernel⟩
/-- order_by: a new list, the order -/
def spOrder : Sp := fun vs H Q _ => ∃ (e : Int) (d : Addr) (W : Ways), vs = [.int e, .ref d] ∧ WaysAt H d W ∧ GOk W e ∧ ∀ H' p, Same H H' → H p = none → H' p = some (.lst ((line W e).map V.int)) → Q (.ref p) H'
def stP (st : List (Int × Nat)) : List (Int × Int) := st.reverse.map fun p => (p.1, (p.2 : Int))
theorem stP_cons (b : Int) (i : Nat) (r : List (Int × Nat)) : stP ((b, i) :: r) = stP r ++ [(b, (i : Int))] := by
  unfold stP
  rw [List.reverse_cons, List.map_append]
  rfl
theorem stP_nil {st : List (Int × Nat)} : stP st = [] ↔ st = [] := by
  unfold stP
  rw [List.map_eq_nil_iff, List.reverse_eq_nil_iff]
theorem stP_len (st : List (Int × Nat)) : (stP st).length = st.length := by
  unfold stP
  rw [List.length_map, List.length_reverse]
theorem di_small {W : Ways} {e : Int} {d : DS} (G : GOk W e) (D : DI (ks W) (nx W) e d) : d.seen.length ≤ 9 ∧ d.left.length ≤ 9 ∧ d.st.length ≤ 9 := by
  have h0 : (ks W).length ≤ 9 := by rw [List.length_map]; exact G.len
  have h1 := nodup_sub_len D.snd D.sub
  have h2 := nodup_sub_len D.nd (V := ks W) fun x hx => D.sub x ((D.seen x).mpr (List.mem_append.mp hx))
  rw [List.length_append, List.length_map] at h2
  omega
section
variable {P : Program} {w : World} {K : PySem.W.Frag} {mg : Str → Option Value} {base : Heap}
theorem ok_order (D : Df K mg "order_by" sOrder ["entry", "ways"]) (mLen : mg "len" = none) : C8.Cal P w K mg base 1 "order_by" spOrder [] := by
  refine D.ok scOrder (fun vs H Q E h => ?_) (fun f cdv A outer s H vs Q E hr h => ?_)
  · obtain ⟨_, _, _, rfl, _⟩ := h
    rfl
  · obtain ⟨e, dw, W, rfl, hW, G, k⟩ := h
    have hu := hu_of hr
    have hu4 := hr.units
    have nd := scOrder.nd
    refine ⟨_, pss_cons (ps_par3 (i := 2) (j := 3) (l := 4) rfl nd rfl rfl rfl (by decide) (by decide) (by decide) rfl rfl rfl
        (pa_cons (pe_disp (pps_cons (pv 0) pe_bl pps_nil) (by rfl) (by rfl) (fun z => by cases z) (by decide)) (pa_cons (pe_lst pa_nil) (pa_cons (pe_lst (pa_cons (pe_tup (pa_cons (pv 0) (pa_cons pe_int pa_nil))) pa_nil)) pa_nil))) (by rfl))
      (pss_cons (ps_while PassesOwn.never (pt_cmpR (op_nePairs hu4) (pv 4) (pe_lst pa_nil) (nomark _))
        (pss_cons (ps_asg (pe_bm0 PySem.F.plainAttrs_list PySem.F.slot_list_pop PySem.F.type_list_pop mt_pop (pv 4)) (pg_tup rfl (pgs_cons (pg_name (i := 5) nd rfl (.inl rfl)) (pgs_cons (pg_name (i := 6) nd rfl (.inl rfl)) pgs_nil))))
        (pss_cons (ps_if (pt_cmpR op_eq (pv 6) (pe_callB call_len_seq (by rfl) mLen PySem.boot_len (pa_cons (pe_dget hu (pv 1) (pv 5) (fun _ _ => rfl)) pa_nil)) (nomark _))
          (pss_cons (ps_expr (pe_bm PySem.F.plainAttrs_list PySem.F.slot_list_append PySem.F.type_list_append mt_append (pv 3) (pa_cons (pv 5) pa_nil))) (pss_one ps_continue)) pss_nil)
        (pss_cons (ps_expr (pe_bm PySem.F.plainAttrs_list PySem.F.slot_list_append PySem.F.type_list_append mt_append (pv 4) (pa_cons (pe_tup (pa_cons (pv 5) (pa_cons (pe_op op_add (pv 6) pe_int) pa_nil))) pa_nil)))
        (pss_cons (ps_set (i := 7) nd rfl (.inl rfl) (pe_ix ix_list (pe_dget hu (pv 1) (pv 5) (fun _ _ => rfl)) (pv 6) (fun _ _ => rfl)))
        (pss_one (ps_if (pt_cmp (pc_dnotin hu (pv 7) (pv 2)))
          (pss_cons (ps_dput hu (pv 2) (pv 7) pe_bl rfl) (pss_one (ps_expr (pe_bm PySem.F.plainAttrs_list PySem.F.slot_list_append PySem.F.type_list_append mt_append (pv 4) (pa_cons (pe_tup (pa_cons (pv 7) (pa_cons pe_int pa_nil))) pa_nil))))) pss_nil)))))))
      (pss_one (ps_ret (pe_revL (pv 3))))), ?_⟩
    -- {entry: True}, [], [(entry, 0)]
    refine fun ds nds => ⟨.int e, rfl, upd_same, [(Sum.inl e, .bl true)], rfl, by show 1 ≤ 15; decide, ?_⟩
    refine ⟨Nat.zero_le _, fun dl ndl => ?_⟩
    refine ⟨.int e, rfl, by show 2 ≤ sizeLine; decide, fun T0 nT0 => ⟨by show 1 ≤ sizeLine; decide, fun dt ndt => ⟨_, _, _, rfl, ?_⟩⟩⟩
    have s1 : Same H (upd H ds (.dK [])) := same_upd nds
    have s2 : Same H (upd (upd H ds (.dK [])) ds (.dK (mergeK [] [(Sum.inl e, .bl true)]))) := same_mut s1 nds
    have s3 := s2.trans (same_upd (o := .lst []) ndl)
    have s4 := s3.trans (same_upd (o := .tup [.int e, .int 0]) nT0)
    have s5 := s4.trans (same_upd (o := .lst [.ref T0]) ndt)
    have nl0 : H dl = none := s2.free ndl
    have nt0 : H dt = none := s4.free ndt
    have hs2 : (upd (upd H ds (.dK [])) ds (.dK (mergeK [] [(Sum.inl e, .bl true)]))) ds = some (.dK (keyed [e] (.bl true))) := upd_same
    have hs3 := same_upd (o := .lst []) ndl _ _ hs2
    have hs4 := same_upd (o := .tup [.int e, .int 0]) nT0 _ _ hs3
    have hs5 := same_upd (o := .lst [.ref T0]) ndt _ _ hs4
    have hl3 : (upd (upd (upd H ds (.dK [])) ds (.dK (mergeK [] [(Sum.inl e, .bl true)]))) dl (.lst [])) dl = some (.lst []) := upd_same
    have hl4 := same_upd (o := .tup [.int e, .int 0]) nT0 _ _ hl3
    have hl5 := same_upd (o := .lst [.ref T0]) ndt _ _ hl4
    have hT5 := same_upd (o := .lst [.ref T0]) ndt T0 _ upd_same
    have nsl : ds ≠ dl := ne_of_none hs2 ndl
    have nst : ds ≠ dt := ne_of_none hs4 ndt
    have nlt : dl ≠ dt := ne_of_none hl4 ndt
    -- the loop
    refine ⟨fun m σ H' => ∃ (d : DS) (xs : List V) (v5 v6 v7 : Option V), σ = [some (.int e), some (.ref dw), some (.ref ds), some (.ref dl), some (.ref dt), v5, v6, v7] ∧ Same H H' ∧
        H' ds = some (.dK (keyed d.seen (.bl true))) ∧ H' dl = some (.lst (d.left.reverse.map V.int)) ∧ H' dt = some (.lst xs) ∧ PrL H' xs (stP d.st) ∧ DL (ks W) (nx W) e m d,
      ⟨_, dinit e, [.ref T0], none, none, none, rfl, s5, hs5, hl5, upd_same, .cons ⟨T0, rfl, hT5⟩ .nil, dl_init G.ent⟩, fun m σ H' hI => ?_⟩
    obtain ⟨⟨seen, left, st⟩, xs, v5, v6, v7, rfl, sm, hs, hl, ht, hp, dl0⟩ := hI
    have hs : H' ds = some (.dK (keyed seen (.bl true))) := hs
    have hl : H' dl = some (.lst (left.reverse.map V.int)) := hl
    have hp : PrL H' xs (stP st) := hp
    obtain ⟨z1, z2, z3⟩ := di_small G dl0.di
    have z1 : seen.length ≤ 9 := z1
    have z2 : left.length ≤ 9 := z2
    have z3 : st.length ≤ 9 := z3
    refine ⟨.ref dt, rfl, Nat.zero_le _, fun p np => ⟨dt, p, xs, stP st, rfl, rfl, .inl (.inl (same_upd np _ _ ht)), hp.same (same_upd np), .inl (.inl upd_same), _, rfl, iteN (fun hne => ?_) (fun he => ?_)⟩⟩
    · have sm1 := sm.trans (same_upd (o := .lst []) np)
      have hs1 := same_upd (o := .lst []) np _ _ hs
      have hl1 := same_upd (o := .lst []) np _ _ hl
      have ht1 := same_upd (o := .lst []) np _ _ ht
      have hp1 := hp.same (same_upd (o := .lst []) np)
      generalize upd H' p (.lst []) = H1 at sm1 hs1 hl1 ht1 hp1
      clear sm hs hl ht hp np
      match st, dl0, hne, hp1, z3 with
      | [], _, hne, _, _ => exact absurd rfl hne
      | (b, i) :: r, dl0, hne, hp1, z3 =>
        have hbk : b ∈ ks W := dl0.di.sub b ((dl0.di.seen b).mpr (.inl (by simp)))
        obtain ⟨m', hm', dl1⟩ := dl_step G.clo dl0 (by simp)
        rw [stP_cons] at hp1
        obtain ⟨ys, T, rfl, hp2, hT⟩ := hp1.last
        have hylen : ys.length ≤ 9 := by
          rw [hp2.len, stP_len]
          simp only [List.length_cons] at z3
          omega
        refine ⟨fun σ' H2 => ∃ (d : DS) (xs : List V) (v5 v6 v7 : Option V), σ' = [some (.int e), some (.ref dw), some (.ref ds), some (.ref dl), some (.ref dt), v5, v6, v7] ∧ Same H H2 ∧
            H2 ds = some (.dK (keyed d.seen (.bl true))) ∧ H2 dl = some (.lst (d.left.reverse.map V.int)) ∧ H2 dt = some (.lst xs) ∧ PrL H2 xs (stP d.st) ∧ DL (ks W) (nx W) e m' d, fun σ' H2 hN => ⟨m', hm', hN⟩, ?_⟩
        -- block, at = stack.pop()
        refine ⟨.ref dt, rfl, .inl ⟨rfl, _, .inl (.inl ht1)⟩, dt, _, .ref T, rfl, rfl, ht1, get_last, T, [.int b, .int (i : Int)], rfl, ?_⟩
        rw [drop_last]
        have hT1 : (upd H1 dt (.lst ys)) T = some (.tup [.int b, .int (i : Int)]) := by
          rw [upd_ne (ne_of hT ht1 (fun z => by cases z))]; exact hT
        have sm2 : Same H (upd H1 dt (.lst ys)) := same_mut sm1 nt0
        have hs2 : (upd H1 dt (.lst ys)) ds = some (.dK (keyed seen (.bl true))) := by rw [upd_ne nst]; exact hs1
        have hl2 : (upd H1 dt (.lst ys)) dl = some (.lst (left.reverse.map V.int)) := by rw [upd_ne nlt]; exact hl1
        have ht2 : (upd H1 dt (.lst ys)) dt = some (.lst ys) := upd_same
        have hp3 : PrL (upd H1 dt (.lst ys)) ys (stP r) := hp2.upd ht1 (fun _ z => by cases z)
        refine ⟨.inl (.inl hT1), rfl, .int b, [.int (i : Int)], rfl, .int (i : Int), [], rfl, rfl, ?_⟩
        generalize upd H1 dt (.lst ys) = H2 at hT1 sm2 hs2 hl2 ht2 hp3
        clear sm1 hs1 hl1 ht1 hp1 hp2 hT
        obtain ⟨a, ga, la⟩ := (hW.same sm2).get hbk
        -- if at == len(ways[block])
        refine ⟨.int (i : Int), rfl, .ref dw, rfl, .int b, rfl, dw, .ref a, rfl, ga, a, _, rfl, .inl (.inl (.inl la)), rfl, _, rfl, iteD (fun heq => ?_) (fun hne2 => ?_)⟩
        · have hi : (nx W b)[i]? = none := by
            have := V.int.inj heq
            rw [List.length_map] at this
            exact List.getElem?_eq_none (by omega)
          refine ⟨.ref dl, rfl, .inl ⟨rfl, _, .inl (.inl hl2)⟩, .int b, rfl, dl, _, _, rfl, rfl, hl2, by rw [List.length_map, List.length_reverse]; exact small9 (by omega), ?_⟩
          have e1 : dstep (nx W) ⟨seen, left, (b, i) :: r⟩ = ⟨seen, b :: left, r⟩ := by
            unfold dstep
            simp only [hi]
          rw [e1] at dl1
          refine ⟨⟨seen, b :: left, r⟩, ys, _, _, _, rfl, same_mut sm2 nl0, ?_, ?_, ?_, ?_, dl1⟩
          · rw [upd_ne nsl]; exact hs2
          · rw [upd_same, List.reverse_cons, List.map_append]; rfl
          · rw [upd_ne nlt.symm]; exact ht2
          · exact hp3.upd hl2 (fun _ z => by cases z)
        · have hil : i ≤ (nx W b).length := (dl0.di.at_ b i (by simp)).1
          have hi : i < (nx W b).length := by
            have : ¬ (i : Int) = (((nx W b).map V.int).length : Int) := fun z => hne2 (by rw [z])
            rw [List.length_map] at this
            omega
          have hio : (nx W b)[i]? = some (nx W b)[i] := List.getElem?_eq_getElem hi
          generalize (nx W b)[i] = o at hio
          have hok : o ∈ ks W := G.clo b o hbk (List.mem_of_getElem? hio)
          -- stack.append((block, at + 1))
          refine ⟨.ref dt, rfl, .inl ⟨rfl, _, .inl (.inl ht2)⟩, .int b, rfl, .int (i : Int), rfl, _, _, rfl, rfl, by show 2 ≤ sizeLine; decide, fun T2 nT2 => ⟨dt, _, _, rfl, rfl, same_upd nT2 _ _ ht2, small9 (by omega), ?_⟩⟩
          have sT := same_upd (o := .tup [.int b, .int ((i : Int) + 1)]) nT2
          have ht3 := sT _ _ ht2
          have hp4 : PrL (upd (upd H2 T2 (.tup [.int b, .int ((i : Int) + 1)])) dt (.lst (ys ++ [.ref T2]))) (ys ++ [.ref T2]) (stP ((b, i + 1) :: r)) := by
            rw [stP_cons]
            exact ((hp3.same sT).upd ht3 (fun _ z => by cases z)).snoc (by
              rw [upd_ne (ne_of_none ht2 nT2).symm, upd_same]
              rfl)
          have sm3 : Same H (upd (upd H2 T2 (.tup [.int b, .int ((i : Int) + 1)])) dt (.lst (ys ++ [.ref T2]))) := same_mut (sm2.trans sT) nt0
          have hs3 : (upd (upd H2 T2 (.tup [.int b, .int ((i : Int) + 1)])) dt (.lst (ys ++ [.ref T2]))) ds = some (.dK (keyed seen (.bl true))) := by rw [upd_ne nst]; exact sT _ _ hs2
          have hl3 : (upd (upd H2 T2 (.tup [.int b, .int ((i : Int) + 1)])) dt (.lst (ys ++ [.ref T2]))) dl = some (.lst (left.reverse.map V.int)) := by rw [upd_ne nlt]; exact sT _ _ hl2
          have ht4 : (upd (upd H2 T2 (.tup [.int b, .int ((i : Int) + 1)])) dt (.lst (ys ++ [.ref T2]))) dt = some (.lst (ys ++ [.ref T2])) := upd_same
          generalize upd (upd H2 T2 (.tup [.int b, .int ((i : Int) + 1)])) dt (.lst (ys ++ [.ref T2])) = H3 at hp4 sm3 hs3 hl3 ht4
          obtain ⟨a3, ga3, la3⟩ := (hW.same sm3).get hbk
          -- other = ways[block][at]
          refine ⟨.ref dw, rfl, .int b, rfl, dw, .ref a3, rfl, ga3, .int (i : Int), rfl, a3, _, (i : Int), .int o, rfl, rfl, .inl (.inl la3), atI_nat (by rw [List.getElem?_map, hio]; rfl), ?_⟩
          -- if other not in seen
          refine ⟨.int o, rfl, .ref ds, rfl, ds, _, rfl, DGet.k (k := Sum.inl o) hs3, _, rfl, ?_⟩
          rw [keyed_val]
          by_cases hos : o ∈ seen
          · rw [if_pos hos]
            have e1 : dstep (nx W) ⟨seen, left, (b, i) :: r⟩ = ⟨seen, left, (b, i + 1) :: r⟩ := by
              unfold dstep
              simp only [hio, if_pos hos]
            rw [e1] at dl1
            exact iteF ⟨⟨seen, left, (b, i + 1) :: r⟩, _, _, _, _, rfl, sm3, hs3, hl3, ht4, hp4, dl1⟩
          · rw [if_neg hos]
            have e1 : dstep (nx W) ⟨seen, left, (b, i) :: r⟩ = ⟨seen ++ [o], left, (o, 0) :: (b, i + 1) :: r⟩ := by
              unfold dstep
              simp only [hio, if_neg hos]
            rw [e1] at dl1
            refine iteT ?_
            refine ⟨.ref ds, rfl, .int o, rfl, ds, _, rfl, DPut.k (k := Sum.inl o) hs3 (by rw [keyed_len]; exact small9 (by omega)), ?_⟩
            have hT4 : dt ≠ ds := nst.symm
            refine ⟨.ref dt, rfl, .inl ⟨rfl, _, .inl (.inl (by rw [upd_ne hT4]; exact ht4))⟩, .int o, rfl, by show 2 ≤ sizeLine; decide, fun T3 nT3 => ⟨dt, _, _, rfl, rfl, same_upd nT3 _ _ (by rw [upd_ne hT4]; exact ht4), small9 (by simp only [List.length_append, List.length_singleton]; omega), ?_⟩⟩
            have sT3 := same_upd (o := .tup [.int o, .int 0]) nT3
            have ht5 : (upd H3 ds (.dK (putK (keyed seen (.bl true)) (Sum.inl o) (.bl true)))) dt = some (.lst (ys ++ [.ref T2])) := by rw [upd_ne hT4]; exact ht4
            refine ⟨⟨seen ++ [o], left, (o, 0) :: (b, i + 1) :: r⟩, ys ++ [.ref T2] ++ [.ref T3], _, _, _, rfl, same_mut ((same_mut sm3 nds).trans sT3) nt0, ?_, ?_, upd_same, ?_, dl1⟩
            · rw [upd_ne nst]
              refine sT3 _ _ ?_
              rw [upd_same, keyed_put hos]
            · rw [upd_ne nlt]
              refine sT3 _ _ ?_
              rw [upd_ne nsl.symm]; exact hl3
            · rw [stP_cons]
              refine PrL.snoc ((((hp4.upd hs3 (fun _ z => by cases z))).same sT3).upd (sT3 _ _ ht5) (fun _ z => by cases z)) ?_
              rw [upd_ne (ne_of_none ht5 nT3).symm, upd_same]
              rfl
    · -- the end
      have hst : st = [] := stP_nil.mp he
      subst hst
      have sN := same_upd (o := .lst []) np
      refine ⟨.ref dl, rfl, dl, _, rfl, .inl (.inl (sN _ _ hl)), fun q nq => ?_⟩
      refine k _ q ((sm.trans sN).trans (same_upd nq)) ((sm.trans sN).free nq) ?_
      rw [upd_same, ← List.map_reverse, List.reverse_reverse, dl_end dl0]
end
end BT
namespace BT
open PySem L2
abbrev sLOrder : Stmt := top 29
theorem scLOrder : FnScope ["_law_ways", "_law_begin", "_law_found", "_law_seen", "_law_line", "_law_one", "_law_at", "_law_other"] ["_law_ways", "_law_begin"] (defScope sLOrder) := ⟨rfl, rfl, rfl, by decide +kernel, rfl, by decide +kernel, by decide +kernel⟩
/-- _law_order: a new list, the same order -/
def spLOrder : Sp := fun vs H Q _ => ∃ (e : Int) (d : Addr) (W : Ways), vs = [.ref d, .int e] ∧ WaysAt H d W ∧ GOk W e ∧ ∀ H' p, Same H H' → H p = none → H' p = some (.lst ((line W e).map V.int)) → Q (.ref p) H'
section
variable {P : Program} {w : World} {K : PySem.W.Frag} {mg : Str → Option Value} {base : Heap}
theorem ok_lorder (D : Df K mg "_law_order" sLOrder ["_law_ways", "_law_begin"]) (mLen : mg "len" = none) : C8.Cal P w K mg base 1 "_law_order" spLOrder [] := by
  refine D.ok scLOrder (fun vs H Q E h => ?_) (fun f cdv A outer s H vs Q E hr h => ?_)
  · obtain ⟨_, _, _, rfl, _⟩ := h
    rfl
  · obtain ⟨e, dw, W, rfl, hW, G, k⟩ := h
    have hu := hu_of hr
    have hu4 := hr.units
    have nd := scLOrder.nd
    refine ⟨_, pss_cons (ps_par3 (i := 2) (j := 3) (l := 4) rfl nd rfl rfl rfl (by decide) (by decide) (by decide) rfl rfl rfl
        (pa_cons (pe_lst pa_nil) (pa_cons (pe_lst (pa_cons (pv 1) pa_nil)) (pa_cons (pe_lst (pa_cons (pe_tup (pa_cons (pv 1) (pa_cons pe_int pa_nil))) pa_nil)) pa_nil))) (by rfl))
      (pss_cons (ps_while PassesOwn.never (pt_cmpR (op_nePairs hu4) (pv 4) (pe_lst pa_nil) (nomark _))
        (pss_cons (ps_asg (pe_bm0 PySem.F.plainAttrs_list PySem.F.slot_list_pop PySem.F.type_list_pop mt_pop (pv 4)) (pg_tup rfl (pgs_cons (pg_name (i := 5) nd rfl (.inl rfl)) (pgs_cons (pg_name (i := 6) nd rfl (.inl rfl)) pgs_nil))))
        (pss_cons (ps_if (pt_cmpR op_eq (pv 6) (pe_callB call_len_seq (by rfl) mLen PySem.boot_len (pa_cons (pe_dget hu (pv 0) (pv 5) (fun _ _ => rfl)) pa_nil)) (nomark _))
          (pss_cons (ps_set (i := 2) nd rfl (.inl rfl) (pe_op op_cat (pe_lst (pa_cons (pv 5) pa_nil)) (pv 2))) (pss_one ps_continue)) pss_nil)
        (pss_cons (ps_expr (pe_bm PySem.F.plainAttrs_list PySem.F.slot_list_append PySem.F.type_list_append mt_append (pv 4) (pa_cons (pe_tup (pa_cons (pv 5) (pa_cons (pe_op op_add (pv 6) pe_int) pa_nil))) pa_nil)))
        (pss_cons (ps_set (i := 7) nd rfl (.inl rfl) (pe_ix ix_list (pe_dget hu (pv 0) (pv 5) (fun _ _ => rfl)) (pv 6) (fun _ _ => rfl)))
        (pss_one (ps_if (pt_cmpR op_notInInts (pv 7) (pv 3) (by rfl))
          (pss_cons (ps_expr (pe_bm PySem.F.plainAttrs_list PySem.F.slot_list_append PySem.F.type_list_append mt_append (pv 3) (pa_cons (pv 7) pa_nil)))
            (pss_one (ps_expr (pe_bm PySem.F.plainAttrs_list PySem.F.slot_list_append PySem.F.type_list_append mt_append (pv 4) (pa_cons (pe_tup (pa_cons (pv 7) (pa_cons pe_int pa_nil))) pa_nil))))) pss_nil)))))))
      (pss_one (ps_ret (pv 2)))), ?_⟩
    -- [], [begin], [(begin, 0)]
    refine ⟨Nat.zero_le _, fun dl ndl => ?_⟩
    refine ⟨.int e, rfl, by show 1 ≤ sizeLine; decide, fun ds nds => ?_⟩
    refine ⟨.int e, rfl, by show 2 ≤ sizeLine; decide, fun T0 nT0 => ⟨by show 1 ≤ sizeLine; decide, fun dt ndt => ⟨_, _, _, rfl, ?_⟩⟩⟩
    have s1 : Same H (upd H dl (.lst [])) := same_upd ndl
    have s2 := s1.trans (same_upd (o := .lst [.int e]) nds)
    have s4 := s2.trans (same_upd (o := .tup [.int e, .int 0]) nT0)
    have s5 := s4.trans (same_upd (o := .lst [.ref T0]) ndt)
    have ns0 : H ds = none := s1.free nds
    have nt0 : H dt = none := s4.free ndt
    have hl2 := same_upd (o := .lst [.int e]) nds dl _ (upd_same (H := H) (o := .lst []))
    have hl4 := same_upd (o := .tup [.int e, .int 0]) nT0 _ _ hl2
    have hl5 := same_upd (o := .lst [.ref T0]) ndt _ _ hl4
    have hs2 : (upd (upd H dl (.lst [])) ds (.lst [.int e])) ds = some (.lst (([e] : List Int).map V.int)) := upd_same
    have hs4 := same_upd (o := .tup [.int e, .int 0]) nT0 _ _ hs2
    have hs5 := same_upd (o := .lst [.ref T0]) ndt _ _ hs4
    have hT5 := same_upd (o := .lst [.ref T0]) ndt T0 _ upd_same
    have nst : ds ≠ dt := ne_of_none hs4 ndt
    -- the loop
    refine ⟨fun m σ H' => ∃ (d : DS) (xs : List V) (dl : Addr) (v5 v6 v7 : Option V), σ = [some (.ref dw), some (.int e), some (.ref dl), some (.ref ds), some (.ref dt), v5, v6, v7] ∧ Same H H' ∧ H dl = none ∧ dl ≠ ds ∧ dl ≠ dt ∧
        H' ds = some (.lst (d.seen.map V.int)) ∧ H' dl = some (.lst (d.left.map V.int)) ∧ H' dt = some (.lst xs) ∧ PrL H' xs (stP d.st) ∧ DL (ks W) (nx W) e m d,
      ⟨_, dinit e, [.ref T0], dl, none, none, none, rfl, s5, ndl, ne_of_none (upd_same (H := H)) nds, ne_of_none hl4 ndt, hs5, hl5, upd_same, .cons ⟨T0, rfl, hT5⟩ .nil, dl_init G.ent⟩, fun m σ H' hI => ?_⟩
    clear hl2 hl4 hl5 s1 s2 s4 s5 hs2 hs4 hs5 hT5
    obtain ⟨⟨seen, left, st⟩, xs, dl, v5, v6, v7, rfl, sm, nl0, nls, nlt, hs, hl, ht, hp, dl0⟩ := hI
    have hs : H' ds = some (.lst (seen.map V.int)) := hs
    have hl : H' dl = some (.lst (left.map V.int)) := hl
    have hp : PrL H' xs (stP st) := hp
    obtain ⟨z1, z2, z3⟩ := di_small G dl0.di
    have z1 : seen.length ≤ 9 := z1
    have z2 : left.length ≤ 9 := z2
    have z3 : st.length ≤ 9 := z3
    refine ⟨.ref dt, rfl, Nat.zero_le _, fun p np => ⟨dt, p, xs, stP st, rfl, rfl, .inl (.inl (same_upd np _ _ ht)), hp.same (same_upd np), .inl (.inl upd_same), _, rfl, iteN (fun hne => ?_) (fun he => ?_)⟩⟩
    · have sm1 := sm.trans (same_upd (o := .lst []) np)
      have hs1 := same_upd (o := .lst []) np _ _ hs
      have hl1 := same_upd (o := .lst []) np _ _ hl
      have ht1 := same_upd (o := .lst []) np _ _ ht
      have hp1 := hp.same (same_upd (o := .lst []) np)
      generalize upd H' p (.lst []) = H1 at sm1 hs1 hl1 ht1 hp1
      clear sm hs hl ht hp np
      match st, dl0, hne, hp1, z3 with
      | [], _, hne, _, _ => exact absurd rfl hne
      | (b, i) :: r, dl0, hne, hp1, z3 =>
        have hbk : b ∈ ks W := dl0.di.sub b ((dl0.di.seen b).mpr (.inl (by simp)))
        obtain ⟨m', hm', dl1⟩ := dl_step G.clo dl0 (by simp)
        rw [stP_cons] at hp1
        obtain ⟨ys, T, rfl, hp2, hT⟩ := hp1.last
        have hylen : ys.length ≤ 9 := by
          rw [hp2.len, stP_len]
          simp only [List.length_cons] at z3
          omega
        refine ⟨fun σ' H2 => ∃ (d : DS) (xs : List V) (dl : Addr) (v5 v6 v7 : Option V), σ' = [some (.ref dw), some (.int e), some (.ref dl), some (.ref ds), some (.ref dt), v5, v6, v7] ∧ Same H H2 ∧ H dl = none ∧ dl ≠ ds ∧ dl ≠ dt ∧
            H2 ds = some (.lst (d.seen.map V.int)) ∧ H2 dl = some (.lst (d.left.map V.int)) ∧ H2 dt = some (.lst xs) ∧ PrL H2 xs (stP d.st) ∧ DL (ks W) (nx W) e m' d, fun σ' H2 hN => ⟨m', hm', hN⟩, ?_⟩
        -- one, at = line.pop()
        refine ⟨.ref dt, rfl, .inl ⟨rfl, _, .inl (.inl ht1)⟩, dt, _, .ref T, rfl, rfl, ht1, get_last, T, [.int b, .int (i : Int)], rfl, ?_⟩
        rw [drop_last]
        have hT1 : (upd H1 dt (.lst ys)) T = some (.tup [.int b, .int (i : Int)]) := by
          rw [upd_ne (ne_of hT ht1 (fun z => by cases z))]; exact hT
        have sm2 : Same H (upd H1 dt (.lst ys)) := same_mut sm1 nt0
        have hs2 : (upd H1 dt (.lst ys)) ds = some (.lst (seen.map V.int)) := by rw [upd_ne nst]; exact hs1
        have hl2 : (upd H1 dt (.lst ys)) dl = some (.lst (left.map V.int)) := by rw [upd_ne nlt]; exact hl1
        have ht2 : (upd H1 dt (.lst ys)) dt = some (.lst ys) := upd_same
        have hp3 : PrL (upd H1 dt (.lst ys)) ys (stP r) := hp2.upd ht1 (fun _ z => by cases z)
        refine ⟨.inl (.inl hT1), rfl, .int b, [.int (i : Int)], rfl, .int (i : Int), [], rfl, rfl, ?_⟩
        generalize upd H1 dt (.lst ys) = H2 at hT1 sm2 hs2 hl2 ht2 hp3
        clear sm1 hs1 hl1 ht1 hp1 hp2 hT
        obtain ⟨a, ga, la⟩ := (hW.same sm2).get hbk
        -- if at == len(ways[one])
        refine ⟨.int (i : Int), rfl, .ref dw, rfl, .int b, rfl, dw, .ref a, rfl, ga, a, _, rfl, .inl (.inl (.inl la)), rfl, _, rfl, iteD (fun heq => ?_) (fun hne2 => ?_)⟩
        · have hi : (nx W b)[i]? = none := by
            have := V.int.inj heq
            rw [List.length_map] at this
            exact List.getElem?_eq_none (by omega)
          have e1 : dstep (nx W) ⟨seen, left, (b, i) :: r⟩ = ⟨seen, b :: left, r⟩ := by
            unfold dstep
            simp only [hi]
          rw [e1] at dl1
          refine ⟨.int b, rfl, by show 1 ≤ sizeLine; decide, fun q1 nq1 => ⟨.ref dl, rfl, q1, dl, _, _, rfl, rfl, upd_same, same_upd nq1 _ _ hl2, ?_, fun q2 nq2 => ?_⟩⟩
          · rw [List.length_map]
            exact Nat.le_of_lt (small9 (by simp only [List.length_singleton]; omega))
          · have sQ := (same_upd (o := .lst [.int b]) nq1).trans (same_upd (o := .lst ([.int b] ++ left.map V.int)) nq2)
            have hq2s : ds ≠ q2 := ne_of_none (same_upd (o := .lst [.int b]) nq1 _ _ hs2) nq2
            have hq2t : dt ≠ q2 := ne_of_none (same_upd (o := .lst [.int b]) nq1 _ _ ht2) nq2
            exact ⟨⟨seen, b :: left, r⟩, ys, q2, _, _, _, rfl, sm2.trans sQ, (sm2.trans (same_upd nq1)).free nq2, hq2s.symm, hq2t.symm, sQ _ _ hs2, upd_same, sQ _ _ ht2, hp3.same sQ, dl1⟩
        · have hil : i ≤ (nx W b).length := (dl0.di.at_ b i (by simp)).1
          have hi : i < (nx W b).length := by
            have : ¬ (i : Int) = (((nx W b).map V.int).length : Int) := fun z => hne2 (by rw [z])
            rw [List.length_map] at this
            omega
          have hio : (nx W b)[i]? = some (nx W b)[i] := List.getElem?_eq_getElem hi
          generalize (nx W b)[i] = o at hio
          -- line.append((one, at + 1))
          refine ⟨.ref dt, rfl, .inl ⟨rfl, _, .inl (.inl ht2)⟩, .int b, rfl, .int (i : Int), rfl, _, _, rfl, rfl, by show 2 ≤ sizeLine; decide, fun T2 nT2 => ⟨dt, _, _, rfl, rfl, same_upd nT2 _ _ ht2, small9 (by omega), ?_⟩⟩
          have sT := same_upd (o := .tup [.int b, .int ((i : Int) + 1)]) nT2
          have ht3 := sT _ _ ht2
          have hp4 : PrL (upd (upd H2 T2 (.tup [.int b, .int ((i : Int) + 1)])) dt (.lst (ys ++ [.ref T2]))) (ys ++ [.ref T2]) (stP ((b, i + 1) :: r)) := by
            rw [stP_cons]
            exact ((hp3.same sT).upd ht3 (fun _ z => by cases z)).snoc (by
              rw [upd_ne (ne_of_none ht2 nT2).symm, upd_same]
              rfl)
          have sm3 : Same H (upd (upd H2 T2 (.tup [.int b, .int ((i : Int) + 1)])) dt (.lst (ys ++ [.ref T2]))) := same_mut (sm2.trans sT) nt0
          have hs3 : (upd (upd H2 T2 (.tup [.int b, .int ((i : Int) + 1)])) dt (.lst (ys ++ [.ref T2]))) ds = some (.lst (seen.map V.int)) := by rw [upd_ne nst]; exact sT _ _ hs2
          have hl3 : (upd (upd H2 T2 (.tup [.int b, .int ((i : Int) + 1)])) dt (.lst (ys ++ [.ref T2]))) dl = some (.lst (left.map V.int)) := by rw [upd_ne nlt]; exact sT _ _ hl2
          have ht4 : (upd (upd H2 T2 (.tup [.int b, .int ((i : Int) + 1)])) dt (.lst (ys ++ [.ref T2]))) dt = some (.lst (ys ++ [.ref T2])) := upd_same
          generalize upd (upd H2 T2 (.tup [.int b, .int ((i : Int) + 1)])) dt (.lst (ys ++ [.ref T2])) = H3 at hp4 sm3 hs3 hl3 ht4
          obtain ⟨a3, ga3, la3⟩ := (hW.same sm3).get hbk
          -- other = ways[one][at]
          refine ⟨.ref dw, rfl, .int b, rfl, dw, .ref a3, rfl, ga3, .int (i : Int), rfl, a3, _, (i : Int), .int o, rfl, rfl, .inl (.inl la3), atI_nat (by rw [List.getElem?_map, hio]; rfl), ?_⟩
          -- if other not in seen
          refine ⟨.int o, rfl, .ref ds, rfl, o, ds, seen, rfl, rfl, .inl (.inl hs3), _, rfl, iteN (fun hos => ?_) (fun hos => ?_)⟩
          · have e1 : dstep (nx W) ⟨seen, left, (b, i) :: r⟩ = ⟨seen ++ [o], left, (o, 0) :: (b, i + 1) :: r⟩ := by
              unfold dstep
              simp only [hio, if_neg hos]
            rw [e1] at dl1
            refine ⟨.ref ds, rfl, .inl ⟨rfl, _, .inl (.inl hs3)⟩, .int o, rfl, ds, _, _, rfl, rfl, hs3, by rw [List.length_map]; exact small9 (by omega), ?_⟩
            have ht5 : (upd H3 ds (.lst (seen.map V.int ++ [.int o]))) dt = some (.lst (ys ++ [.ref T2])) := by rw [upd_ne nst.symm]; exact ht4
            refine ⟨.ref dt, rfl, .inl ⟨rfl, _, .inl (.inl ht5)⟩, .int o, rfl, by show 2 ≤ sizeLine; decide, fun T3 nT3 => ⟨dt, _, _, rfl, rfl, same_upd nT3 _ _ ht5, small9 (by simp only [List.length_append, List.length_singleton]; omega), ?_⟩⟩
            have sT3 := same_upd (o := .tup [.int o, .int 0]) nT3
            refine ⟨⟨seen ++ [o], left, (o, 0) :: (b, i + 1) :: r⟩, ys ++ [.ref T2] ++ [.ref T3], dl, _, _, _, rfl, same_mut ((same_mut sm3 ns0).trans sT3) nt0, nl0, nls, nlt, ?_, ?_, upd_same, ?_, dl1⟩
            · rw [upd_ne nst]
              refine sT3 _ _ ?_
              rw [upd_same, List.map_append]
              rfl
            · rw [upd_ne nlt]
              refine sT3 _ _ ?_
              rw [upd_ne nls]; exact hl3
            · rw [stP_cons]
              refine PrL.snoc ((((hp4.upd hs3 (fun _ z => by cases z))).same sT3).upd (sT3 _ _ ht5) (fun _ z => by cases z)) ?_
              rw [upd_ne (ne_of_none ht5 nT3).symm, upd_same]
              rfl
          · have e1 : dstep (nx W) ⟨seen, left, (b, i) :: r⟩ = ⟨seen, left, (b, i + 1) :: r⟩ := by
              unfold dstep
              simp only [hio, if_pos hos]
            rw [e1] at dl1
            exact ⟨⟨seen, left, (b, i + 1) :: r⟩, _, dl, _, _, _, rfl, sm3, nl0, nls, nlt, hs3, hl3, ht4, hp4, dl1⟩
    · -- the end
      have hst : st = [] := stP_nil.mp he
      subst hst
      have sN := same_upd (o := .lst []) np
      refine ⟨.ref dl, rfl, k _ dl (sm.trans sN) nl0 ?_⟩
      rw [show line W e = left from (dl_end dl0).symm]
      exact sN _ _ hl
end
end BT
namespace BT
open PySem L2
abbrev sAbove : Stmt := top 11
theorem scAbove : FnScope ["one", "other", "nearest"] ["one", "other", "nearest"] (defScope sAbove) := ⟨rfl, rfl, rfl, by decide +kernel, rfl, by decide +kernel, by decide +kernel⟩
/-- what above_by hands back: the nearest block above each -/
def Nearest (H : Hp) (d : Addr) (W : Ways) (e : Int) : Prop := ∃ N : Int → Option Int, Mp H d (fun b => if b = e then some .non else (N b).map V.int) ∧ NI (nx W) (line W e) e N ∧
  (∀ b, b ∈ line W e → ∃ n, N b = some n) ∧ ∀ c d, c ∈ line W e → (Anc N e d c ↔ Dom (nx W) e d c)
theorem Nearest.same {H H' : Hp} (s : Same H H') {d : Addr} {W : Ways} {e : Int} (h : Nearest H d W e) : Nearest H' d W e := by
  obtain ⟨N, h1, h2⟩ := h
  exact ⟨N, h1.same s, h2⟩
/-- is_above: whether every way to the other goes through the one -/
def spAbove : Sp := fun vs H Q _ => ∃ (one other e : Int) (d : Addr) (W : Ways), vs = [.int one, .int other, .ref d] ∧ Nearest H d W e ∧ other ∈ line W e ∧ (∀ b : Bool, (b = true ↔ Dom (nx W) e one other) → Q (.bl b) H)
section
variable {P : Program} {w : World} {K : PySem.W.Frag} {mg : Str → Option Value} {base : Heap}
theorem ok_above (D : Df K mg "is_above" sAbove ["one", "other", "nearest"]) : C8.Cal P w K mg base 1 "is_above" spAbove [] := by
  refine D.ok scAbove (fun vs H Q E h => ?_) (fun f cdv A outer s H vs Q E hr h => ?_)
  · obtain ⟨_, _, _, _, _, rfl, _⟩ := h
    rfl
  · obtain ⟨one, other, e, d, W, rfl, ⟨N, hM, I, hall, hdom⟩, ho, k⟩ := h
    have hu := hu_of hr
    have nd := scAbove.nd
    refine ⟨_, pss_cons (ps_while PassesOwn.never (pt_cmpR op_notN (pv 1) pe_non (nomark _))
        (pss_cons (ps_if (pt_cmpR op_eq (pv 0) (pv 1) (nomark _)) (pss_one (ps_ret pe_bl)) pss_nil)
        (pss_one (ps_set (i := 1) nd rfl (.inl rfl) (pe_dget hu (pv 2) (pv 1) (fun _ _ => rfl))))))
      (pss_one (ps_ret pe_bl)), ?_⟩
    refine ⟨fun m σ H' => (∃ c, σ = [some (.int one), some (.int c), some (.ref d)] ∧ H' = H ∧ c ∈ line W e ∧ (Anc N e one c ↔ Anc N e one other) ∧ m = (line W e).idxOf c + 1) ∨
        (σ = [some (.int one), some .non, some (.ref d)] ∧ H' = H ∧ ¬ Anc N e one other ∧ m = 0), ⟨_, .inl ⟨other, rfl, rfl, ho, Iff.rfl, rfl⟩⟩, fun m σ H' hI => ?_⟩
    rcases hI with ⟨c, rfl, rfl, hc, hiff, rfl⟩ | ⟨rfl, rfl, hno, rfl⟩
    · refine ⟨.int c, rfl, rfl, _, rfl, iteN (fun _ => ?_) (fun z => by cases z)⟩
      refine ⟨fun σ' H1 => (∃ c', σ' = [some (.int one), some (.int c'), some (.ref d)] ∧ H1 = H' ∧ c' ∈ line W e ∧ (Anc N e one c' ↔ Anc N e one other) ∧ (line W e).idxOf c' < (line W e).idxOf c) ∨
        (σ' = [some (.int one), some .non, some (.ref d)] ∧ H1 = H' ∧ ¬ Anc N e one other), fun σ' H1 hN => ?_, ?_⟩
      · rcases hN with ⟨c', e1, e2, e3, e4, e5⟩ | ⟨e1, e2, e3⟩
        · exact ⟨_, Nat.succ_lt_succ e5, .inl ⟨c', e1, e2, e3, e4, rfl⟩⟩
        · exact ⟨0, Nat.succ_pos _, .inr ⟨e1, e2, e3, rfl⟩⟩
      refine ⟨.int one, rfl, .int c, rfl, rfl, _, rfl, iteD (fun heq => ?_) (fun hne => ?_)⟩
      · have : one = c := vint.mp heq
        exact k true ⟨fun _ => (hdom other one ho).mp (hiff.mp (by rw [this]; exact .refl c)), fun _ => rfl⟩
      · have hne : one ≠ c := fun z => hne (by rw [z])
        by_cases hce : c = e
        · have hg := hM.get c
          rw [if_pos hce] at hg
          refine ⟨.ref d, rfl, .int c, rfl, d, .non, rfl, hg, .inr ⟨rfl, rfl, fun z => ?_⟩⟩
          rw [hce] at hiff
          rw [anc_e (hiff.mpr z), hce] at hne
          exact hne rfl
        · obtain ⟨n, hn⟩ := hall c hc
          have hg := hM.get c
          rw [if_neg hce, hn] at hg
          have hT := I.T c n hn hce
          obtain ⟨⟨nn, hnn⟩, hlt⟩ := hT
          refine ⟨.ref d, rfl, .int c, rfl, d, .int n, rfl, hg, .inl ⟨n, rfl, rfl, I.dom n nn hnn, ?_, hlt⟩⟩
          refine Iff.trans ⟨fun z => .up hn hce z, fun z => ?_⟩ hiff
          cases z with
          | refl => exact absurd rfl hne
          | up h1 h2 h3 => rw [hn] at h1; obtain rfl := Option.some.inj h1; exact h3
    · refine ⟨.non, rfl, rfl, _, rfl, iteN (fun z => absurd rfl z) (fun _ => ?_)⟩
      exact k false ⟨fun z => Bool.noConfusion z, fun z => absurd ((hdom other one ho).mpr z) hno⟩
end
end BT
namespace BT
open PySem L2
abbrev sCome : Stmt := top 28
theorem scCome : FnScope ["_law_ways", "_law_begin", "_law_barred", "_law_found", "_law_line", "_law_one", "_law_other"] ["_law_ways", "_law_begin", "_law_barred"] (defScope sCome) := ⟨rfl, rfl, rfl, by decide +kernel, rfl, by decide +kernel, by decide +kernel⟩
/-- _law_come_by: all blocks to which one comes by none that is barred -/
def spCome : Sp := fun vs H Q _ => ∃ (e x0 : Int) (d : Addr) (W : Ways), vs = [.ref d, .int e, .int x0] ∧ WaysAt H d W ∧ GOk W e ∧
  ∀ (H' : Hp) (p : Addr) (found : List Int), Same H H' → H p = none → H' p = some (.lst (found.map V.int)) → CB (nx W) (ks W) e x0 found [] → Q (.ref p) H'
theorem cb_small {W : Ways} {e x0 : Int} {found line : List Int} (G : GOk W e) (h : CB (nx W) (ks W) e x0 found line) : found.length ≤ 9 := by
  have h0 : (ks W).length ≤ 9 := by rw [List.length_map]; exact G.len
  have h1 := nodup_sub_len h.nd fun x hx => h.sub x (.inl hx)
  omega
theorem cmu_init {W : Ways} {e : Int} (G : GOk W e) {l : List Int} (hl : l.length ≤ 1) : cmu 3 (ks W) [] l ≤ 100 := by
  have h0 : (ks W).length ≤ 9 := by rw [List.length_map]; exact G.len
  have h1 := List.length_filter_le (fun v => decide (v ∉ ([] : List Int))) (ks W)
  unfold cmu
  omega
theorem flt_snoc {xs : List Int} {x0 : Int} {i : Nat} {o : Int} (h : xs[i]? = some o) : (xs.take (i + 1)).filter (fun y => decide (y ≠ x0)) = (xs.take i).filter (fun y => decide (y ≠ x0)) ++ (if o ≠ x0 then [o] else []) := by
  rw [List.take_add_one, h, List.filter_append]
  congr 1
  by_cases z : o = x0
  · simp [z]
  · simp [z]
section
variable {P : Program} {w : World} {K : PySem.W.Frag} {mg : Str → Option Value} {base : Heap}
theorem ok_come (D : Df K mg "_law_come_by" sCome ["_law_ways", "_law_begin", "_law_barred"]) : C8.Cal P w K mg base 1 "_law_come_by" spCome [] := by
  refine D.ok scCome (fun vs H Q E h => ?_) (fun f cdv A outer s H vs Q E hr h => ?_)
  · obtain ⟨_, _, _, _, rfl, _⟩ := h
    rfl
  · obtain ⟨e, x0, dw, W, rfl, hW, G, k⟩ := h
    have hu := hu_of hr
    have hu4 := hr.units
    have nd := scCome.nd
    refine ⟨_, C8.pss_cut (ps_par (i := 3) (j := 4) rfl nd rfl rfl (by decide) rfl rfl
        (pa_cons (pe_lst pa_nil) (pa_cons (pe_ifExp (pt_cmpR op_ne (pv 1) (pv 2) (nomark _)) (pe_lst (pa_cons (pv 1) pa_nil)) (pe_lst pa_nil)) pa_nil)) (by rfl))
      (pss_cons (ps_while PassesOwn.never (pt_cmpR (op_neInts hu4) (pv 4) (pe_lst pa_nil) (nomark _))
        (pss_cons (ps_set (i := 5) nd rfl (.inl rfl) (pe_bm0 PySem.F.plainAttrs_list PySem.F.slot_list_pop PySem.F.type_list_pop mt_pop (pv 4)))
        (pss_one (ps_if (pt_cmpR op_notInInts (pv 5) (pv 3) (by rfl))
          (pss_cons (ps_expr (pe_bm PySem.F.plainAttrs_list PySem.F.slot_list_append PySem.F.type_list_append mt_append (pv 3) (pa_cons (pv 5) pa_nil)))
          (pss_one (ps_set (i := 4) nd rfl (.inl rfl) (pe_op op_cat (pv 4)
            (pe_lc (own := [("_law_other", 6)]) (g := gName 6) rfl nd (pi_list (pe_dget hu (pv 0) (pv 5) (fun _ _ => rfl))) (blkOk_by (own := [("_law_other", 6)]) (N := ["_law_ways", "_law_begin", "_law_barred", "_law_found", "_law_line", "_law_one", "_law_other"]) (sc := defScope sCome) (by decide +kernel))
              (fun _ _ _ _ _ => pg_name (i := 6) nd rfl (Or.inl rfl)) (fun _ _ _ _ _ => pts_one (pt_cmpR op_ne (pv 6) (pv 2) (nomark _))) (fun _ _ _ _ _ => pv 6)))))) pss_nil))))
      (pss_one (ps_ret (pv 3)))), ?_⟩
    refine ⟨fun σ' H' => ∃ (df dl : Addr) (l0 : List Int), σ' = [some (.ref dw), some (.int e), some (.int x0), some (.ref df), some (.ref dl), none, none] ∧ Same H H' ∧ H df = none ∧ H dl = none ∧ dl ≠ df ∧
        H' df = some (.lst []) ∧ H' dl = some (.lst (l0.map V.int)) ∧ l0.length ≤ 1 ∧ CB (nx W) (ks W) e x0 [] l0, ?_, fun σ' H0 hM => ?_⟩
    · refine ⟨Nat.zero_le _, fun df ndf => ⟨.int e, rfl, .int x0, rfl, rfl, _, rfl, ?_⟩⟩
      have c0 := cb_init (s := nx W) (x0 := x0) G.ent
      refine iteN (fun hne => ?_) (fun heq => ?_)
      · have hne : e ≠ x0 := fun z => hne (by rw [z])
        rw [if_pos hne] at c0
        refine ⟨.int e, rfl, by show 1 ≤ sizeLine; decide, fun dl ndl => ⟨_, _, rfl, df, dl, [e], rfl, (same_upd ndf).trans (same_upd ndl), ndf, (same_upd ndf).free ndl, (ne_of_none upd_same ndl).symm, same_upd ndl _ _ upd_same, upd_same, Nat.le_refl _, c0⟩⟩
      · have heq : e = x0 := vint.mp heq
        rw [if_neg (fun z => z heq)] at c0
        refine ⟨Nat.zero_le _, fun dl ndl => ⟨_, _, rfl, df, dl, [], rfl, (same_upd ndf).trans (same_upd ndl), ndf, (same_upd ndf).free ndl, (ne_of_none upd_same ndl).symm, same_upd ndl _ _ upd_same, upd_same, Nat.zero_le _, c0⟩⟩
    obtain ⟨df, dl, l0, rfl, sm0, nf0, nl0, nlf, hf0, hl0, hlen0, c0⟩ := hM
    refine ⟨fun m σ H' => ∃ (dl : Addr) (found ln : List Int) (v5 : Option V), σ = [some (.ref dw), some (.int e), some (.int x0), some (.ref df), some (.ref dl), v5, none] ∧ Same H H' ∧ H dl = none ∧ dl ≠ df ∧
        H' df = some (.lst (found.map V.int)) ∧ H' dl = some (.lst (ln.map V.int)) ∧ CB (nx W) (ks W) e x0 found ln ∧ m = cmu 3 (ks W) found ln ∧ m ≤ 100,
      ⟨_, dl, [], l0, none, rfl, sm0, nl0, nlf, hf0, hl0, c0, rfl, cmu_init G hlen0⟩, fun m σ H' hI => ?_⟩
    obtain ⟨dl, found, ln, v5, rfl, sm, nl0, nlf, hf, hl, c, rfl, hm⟩ := hI
    have hln : ln.length ≤ 100 := by
      unfold cmu at hm
      omega
    have hfl := cb_small G c
    refine ⟨.ref dl, rfl, Nat.zero_le _, fun p np => ⟨dl, p, ln, [], rfl, rfl, .inl (.inl (same_upd np _ _ hl)), .inl (.inl upd_same), _, rfl, iteN (fun hne => ?_) (fun he => ?_)⟩⟩
    · have sm1 := sm.trans (same_upd (o := .lst []) np)
      have hf1 := same_upd (o := .lst []) np _ _ hf
      have hl1 := same_upd (o := .lst []) np _ _ hl
      generalize upd H' p (.lst []) = H1 at sm1 hf1 hl1
      clear sm hf hl np
      obtain ⟨l1, x, rfl⟩ : ∃ l1 x, ln = l1 ++ [x] := ⟨ln.dropLast, ln.getLast hne, (List.dropLast_concat_getLast hne).symm⟩
      rw [List.map_append, List.map_singleton] at hl1
      have hxk : x ∈ ks W := c.sub x (.inr (by simp))
      refine ⟨fun σ' H2 => ∃ (dl : Addr) (found' ln' : List Int) (v5 : Option V), σ' = [some (.ref dw), some (.int e), some (.int x0), some (.ref df), some (.ref dl), v5, none] ∧ Same H H2 ∧ H dl = none ∧ dl ≠ df ∧
        H2 df = some (.lst (found'.map V.int)) ∧ H2 dl = some (.lst (ln'.map V.int)) ∧ CB (nx W) (ks W) e x0 found' ln' ∧ cmu 3 (ks W) found' ln' < cmu 3 (ks W) found (l1 ++ [x]), fun σ' H2 hN => ?_, ?_⟩
      · obtain ⟨a1, a2, a3, a4, a5, a6, a7, a8, a9, a10, a11, a12⟩ := hN
        exact ⟨_, a12, a1, a2, a3, a4, a5, a6, a7, a8, a9, a10, a11, rfl, by omega⟩
      -- one = line.pop()
      refine ⟨.ref dl, rfl, .inl ⟨rfl, _, .inl (.inl hl1)⟩, dl, _, .int x, rfl, rfl, hl1, get_last, ?_⟩
      rw [drop_last]
      have sm2 : Same H (upd H1 dl (.lst (l1.map V.int))) := same_mut sm1 nl0
      have hf2 : (upd H1 dl (.lst (l1.map V.int))) df = some (.lst (found.map V.int)) := by rw [upd_ne nlf.symm]; exact hf1
      have hl2 : (upd H1 dl (.lst (l1.map V.int))) dl = some (.lst (l1.map V.int)) := upd_same
      generalize upd H1 dl (.lst (l1.map V.int)) = H2 at sm2 hf2 hl2
      -- if one not in found
      refine ⟨.int x, rfl, .ref df, rfl, x, df, found, rfl, rfl, .inl (.inl hf2), _, rfl, iteN (fun hx => ?_) (fun hx => ?_)⟩
      · refine ⟨.ref df, rfl, .inl ⟨rfl, _, .inl (.inl hf2)⟩, .int x, rfl, df, _, _, rfl, rfl, hf2, by rw [List.length_map]; exact small9 (by omega), ?_⟩
        have sm3 : Same H (upd H2 df (.lst (found.map V.int ++ [.int x]))) := same_mut sm2 nf0
        have hf3 : (upd H2 df (.lst (found.map V.int ++ [.int x]))) df = some (.lst ((found ++ [x]).map V.int)) := by rw [upd_same, List.map_append]; rfl
        have hl3 : (upd H2 df (.lst (found.map V.int ++ [.int x]))) dl = some (.lst (l1.map V.int)) := by rw [upd_ne nlf]; exact hl2
        generalize upd H2 df (.lst (found.map V.int ++ [.int x])) = H3 at sm3 hf3 hl3
        obtain ⟨a, ga, la⟩ := (hW.same sm3).get hxk
        -- [other for other in ways[one] if other != barred]
        refine ⟨.ref dl, rfl, .ref dw, rfl, .int x, rfl, dw, .ref a, rfl, ga, a, rfl, ⟨_, .inl (.inl la)⟩, fun D nD => ?_⟩
        refine lc_list (K := K) (a := a) (xs := (nx W x).map V.int) (fun i H4 => Same H3 H4 ∧ H4 D = some (.lst ((((nx W x).take i).filter (fun y => decide (y ≠ x0))).map V.int)))
          ⟨same_upd nD, upd_same⟩ (fun i H4 _ h4 => .inl (.inl (h4.1 _ _ la))) (fun i v H4 hi h4 => ?_) (fun H4 h4 => ?_)
        · obtain ⟨s4, d4⟩ := h4
          obtain ⟨o, ho, rfl⟩ : ∃ o, (nx W x)[i]? = some o ∧ v = .int o := by
            rw [List.getElem?_map] at hi
            cases z : (nx W x)[i]? with
            | none => rw [z] at hi; cases hi
            | some o => rw [z] at hi; exact ⟨o, rfl, (Option.some.inj hi).symm⟩
          have hfs := flt_snoc (x0 := x0) ho
          refine ⟨rfl, .int o, rfl, .int x0, rfl, rfl, _, rfl, iteN (fun hne => ?_) (fun heq => ?_)⟩
          · rw [if_pos (show o ≠ x0 from fun z => hne (by rw [z]))] at hfs
            refine ⟨.int o, rfl, _, d4, ?_, ?_, ?_⟩
            · have h1 := List.length_filter_le (fun y => decide (y ≠ x0)) ((nx W x).take i)
              have h2 := G.deg x
              rw [List.length_take] at h1
              rw [List.length_map]
              exact small9 (by omega)
            · exact same_mut s4 nD
            · rw [upd_same, hfs, List.map_append]
              rfl
          · rw [if_neg (show ¬ o ≠ x0 from fun z => z (vint.mp heq)), List.append_nil] at hfs
            exact ⟨s4, by rw [hfs]; exact d4⟩
        · obtain ⟨s4, d4⟩ := h4
          rw [List.length_map, List.take_length] at d4
          have hfl2 := List.length_filter_le (fun y => decide (y ≠ x0)) (nx W x)
          have hdg := G.deg x
          refine ⟨dl, D, _, _, rfl, rfl, s4 _ _ hl3, d4, ?_, fun q nq => ?_⟩
          · rw [List.length_map, List.length_map]
            simp only [List.length_append, List.length_singleton] at hln
            exact Nat.le_of_lt (small9 (by omega))
          · refine ⟨q, found ++ [x], l1 ++ (nx W x).filter (fun y => decide (y ≠ x0)), _, rfl, (sm3.trans s4).trans (same_upd nq), (sm3.trans s4).free nq, (ne_of_none (s4 _ _ hf3) nq).symm, same_upd nq _ _ (s4 _ _ hf3), ?_, cb_new G.clo c hx, ?_⟩
            · rw [upd_same, List.map_append]
            · exact cmu_new hxk hx (by omega)
      · exact ⟨dl, found, l1, _, rfl, sm2, nl0, nlf, hf2, hl2, cb_old c hx, cmu_old⟩
    · subst he
      exact ⟨.ref df, rfl, k _ df found (sm.trans (same_upd np)) nf0 (same_upd np _ _ hf) c⟩
end
end BT
namespace BT
open PySem L2
abbrev sLAbove : Stmt := top 30
theorem scLAbove : FnScope ["_law_ways", "_law_begin", "_law_one", "_law_other"] ["_law_ways", "_law_begin", "_law_one", "_law_other"] (defScope sLAbove) := ⟨rfl, rfl, rfl, by decide +kernel, rfl, by decide +kernel, by decide +kernel⟩
/-- _law_is_above -/
def spLAbove : Sp := fun vs H Q _ => ∃ (e one other : Int) (d : Addr) (W : Ways), vs = [.ref d, .int e, .int one, .int other] ∧ WaysAt H d W ∧ GOk W e ∧
  ∀ (b : Bool) (H' : Hp), Same H H' → (b = true ↔ Dom (nx W) e one other) → Q (.bl b) H'
abbrev sLPlain : Stmt := top 31
theorem scLPlain : FnScope ["_law_ways", "_law_begin", "_law_line", "_law_one", "_law_other"] ["_law_ways", "_law_begin"] (defScope sLPlain) := ⟨rfl, rfl, rfl, by decide +kernel, rfl, by decide +kernel, by decide +kernel⟩
/-- each way that goes back leads to a block above -/
def PlainW (W : Ways) (e : Int) : Prop := ∀ u v, u ∈ line W e → v ∈ nx W u → (line W e).idxOf v ≤ (line W e).idxOf u → Dom (nx W) e v u
/-- _law_is_plain -/
def spLPlain : Sp := fun vs H Q _ => ∃ (e : Int) (d : Addr) (W : Ways), vs = [.ref d, .int e] ∧ WaysAt H d W ∧ GOk W e ∧
  ∀ (b : Bool) (H' : Hp), Same H H' → (b = true ↔ PlainW W e) → Q (.bl b) H'
theorem index_parts {l : List Int} {b : Int} (hb : b ∈ l) : (l.map V.int)[l.idxOf b]? = some (.int b) ∧ eqV (.int b) (.int b) = true ∧ ∀ (m : Nat) (z : V), m < l.idxOf b → (l.map V.int)[m]? = some z → eqV z (.int b) = false := by
  have hlt : l.idxOf b < l.length := List.idxOf_lt_length_of_mem hb
  have e1 : l[l.idxOf b] = b := List.getElem_idxOf hlt
  refine ⟨by rw [List.getElem?_map, List.getElem?_eq_getElem hlt, e1]; rfl, ?_, fun m z hm hz => ?_⟩
  · show decide (b = b) = true
    simp
  · rw [List.getElem?_map] at hz
    have hml : m < l.length := by omega
    rw [List.getElem?_eq_getElem hml] at hz
    have hz : V.int l[m] = z := Option.some.inj hz
    rw [← hz]
    show decide (l[m] = b) = false
    refine decide_eq_false fun y => ?_
    have := List.not_of_lt_findIdx (p := (· == b)) (xs := l) (i := m) hm
    simp at this
    exact this y
section
variable {P : Program} {w : World} {K : PySem.W.Frag} {mg : Str → Option Value} {base : Heap}
theorem ok_labove (D : Df K mg "_law_is_above" sLAbove ["_law_ways", "_law_begin", "_law_one", "_law_other"]) (cC : C8.Cal P w K mg base 1 "_law_come_by" spCome []) : C8.Cal P w K mg base 2 "_law_is_above" spLAbove [] := by
  refine D.ok scLAbove (fun vs H Q E h => ?_) (fun f cdv A outer s H vs Q E hr h => ?_)
  · obtain ⟨_, _, _, _, _, rfl, _⟩ := h
    rfl
  · obtain ⟨e, one, other, dw, W, rfl, hW, G, k⟩ := h
    refine ⟨_, pss_one (ps_ret (pe_or (pe_cmpR op_eq (pv 2) (pv 3) (nomark _)) (pe_one (pe_cmpR op_notInInts (pv 3) (C8.pe_c cC hr (by decide) (by rfl) (pa_cons (pv 0) (pa_cons (pv 1) (pa_cons (pv 2) pa_nil)))) (by rfl))))), ?_⟩
    refine ⟨.int one, rfl, .int other, rfl, rfl, _, rfl, iteD (fun heq => ?_) (fun hne => ?_)⟩
    · have : one = other := vint.mp heq
      exact k true H (Same.refl H) ⟨fun _ => by rw [this]; exact Dom.self, fun _ => rfl⟩
    · have hne : one ≠ other := fun z => hne (by rw [z])
      refine ⟨.int other, rfl, .ref dw, rfl, .int e, rfl, .int one, rfl, e, one, dw, W, rfl, hW, G, fun H' p found sm _ hp c => ?_⟩
      refine ⟨other, p, found, rfl, rfl, .inl (.inl hp), k _ H' sm ?_⟩
      rw [← above_iff c, Bool.not_eq_true', decide_eq_false_iff_not]
      exact ⟨.inr, fun z => z.resolve_left hne⟩
theorem ok_lplain (D : Df K mg "_law_is_plain" sLPlain ["_law_ways", "_law_begin"]) (cO : C8.Cal P w K mg base 1 "_law_order" spLOrder []) (cA : C8.Cal P w K mg base 2 "_law_is_above" spLAbove []) : C8.Cal P w K mg base 3 "_law_is_plain" spLPlain [] := by
  refine D.ok scLPlain (fun vs H Q E h => ?_) (fun f cdv A outer s H vs Q E hr h => ?_)
  · obtain ⟨_, _, _, rfl, _⟩ := h
    rfl
  · obtain ⟨e, dw, W, rfl, hW, G, k⟩ := h
    have hu := hu_of hr
    have nd := scLPlain.nd
    refine ⟨_, pss_cons (ps_set (i := 2) nd rfl (.inl rfl) (C8.pe_c cO hr (by decide) (by rfl) (pa_cons (pv 0) (pa_cons (pv 1) pa_nil))))
      (pss_cons (ps_for PassesOwn.never rfl (pi_list (pv 2)) (pg_name (i := 3) nd rfl (.inl rfl))
        (pss_one (ps_for PassesOwn.never rfl (pi_list (pe_dget hu (pv 0) (pv 3) (fun _ _ => rfl))) (pg_name (i := 4) nd rfl (.inl rfl))
          (pss_one (ps_if (PW.pt (pw_and (pt_cmpR op_le (pe_bm PySem.F.plainAttrs_list PySem.F.slot_list_index PySem.F.type_list_index mt_index (pv 2) (pa_cons (pv 4) pa_nil)) (pe_bm PySem.F.plainAttrs_list PySem.F.slot_list_index PySem.F.type_list_index mt_index (pv 2) (pa_cons (pv 3) pa_nil)) (nomark _))
            (pw_and1 (pt_not (pt_val (C8.pe_c cA hr (by decide) (by rfl) (pa_cons (pv 0) (pa_cons (pv 1) (pa_cons (pv 4) (pa_cons (pv 3) pa_nil)))))))))) (pss_one (ps_ret pe_bl)) pss_nil)))))
      (pss_one (ps_ret pe_bl))), ?_⟩
    refine ⟨.ref dw, rfl, .int e, rfl, e, dw, W, rfl, hW, G, fun H1 p s1 np hp => ?_⟩
    have hP : ∀ {H'}, Same H1 H' → SqL K H' p ((line W e).map V.int) := fun s => .inl (.inl (s _ _ hp))
    have atL : ∀ {i : Nat} {x : V}, ((line W e).map V.int)[i]? = some x → ∃ u, (line W e)[i]? = some u ∧ x = .int u := fun {i x} hx => by
      rw [List.getElem?_map] at hx
      cases z : (line W e)[i]? with
      | none => rw [z] at hx; cases hx
      | some o => rw [z] at hx; exact ⟨o, rfl, (Option.some.inj hx).symm⟩
    refine ⟨.ref p, rfl, p, rfl, ⟨_, hP (Same.refl H1)⟩, for_list (K := K) (a := p) (xs := (line W e).map V.int)
      (fun i σ H' => ∃ v3 v4, σ = [some (.ref dw), some (.int e), some (.ref p), v3, v4] ∧ Same H1 H' ∧ ∀ (j : Nat) (u v : Int), j < i → (line W e)[j]? = some u → v ∈ nx W u → (line W e).idxOf v ≤ (line W e).idxOf u → Dom (nx W) e v u)
      ⟨none, none, rfl, Same.refl H1, fun j u v hj => absurd hj (Nat.not_lt_zero _)⟩ (fun i σ H' _ ⟨_, _, _, s2, _⟩ => hP s2) (fun i x σ H' hx hI => ?_) (fun σ H' hI => ?_)⟩
    · obtain ⟨u, hu1, rfl⟩ := atL hx
      obtain ⟨v3, v4, rfl, s2, hall⟩ := hI
      have hul : u ∈ line W e := List.mem_of_getElem? hu1
      have huk := G.mem.mp hul
      obtain ⟨a, ga, la⟩ := (hW.same (s1.trans s2)).get huk
      refine ⟨.ref dw, rfl, .int u, rfl, dw, .ref a, rfl, ga, a, rfl, ⟨_, .inl (.inl la)⟩, for_list (K := K) (a := a) (xs := (nx W u).map V.int)
        (fun j σ H2 => ∃ v4, σ = [some (.ref dw), some (.int e), some (.ref p), some (.int u), v4] ∧ Same H' H2 ∧ ∀ (j' : Nat) (v : Int), j' < j → (nx W u)[j']? = some v → (line W e).idxOf v ≤ (line W e).idxOf u → Dom (nx W) e v u)
        ⟨v4, rfl, Same.refl H', fun j v hj => absurd hj (Nat.not_lt_zero _)⟩ (fun j σ H2 _ ⟨_, _, s3, _⟩ => .inl (.inl (s3 _ _ la))) (fun j y σ H2 hy hI2 => ?_) (fun σ H2 hI2 => ?_)⟩
      · obtain ⟨v4, rfl, s3, hall2⟩ := hI2
        obtain ⟨v, hv, rfl⟩ : ∃ v, (nx W u)[j]? = some v ∧ y = .int v := by
          rw [List.getElem?_map] at hy
          cases z : (nx W u)[j]? with
          | none => rw [z] at hy; cases hy
          | some o => rw [z] at hy; exact ⟨o, rfl, (Option.some.inj hy).symm⟩
        have hvs : v ∈ nx W u := List.mem_of_getElem? hv
        have hvl : v ∈ line W e := G.ord.clo u v hul hvs
        have hp2 := hP (s2.trans s3)
        -- what the turn's end asks
        have fin : ∀ H3, Same H2 H3 → ((line W e).idxOf v ≤ (line W e).idxOf u → Dom (nx W) e v u) → ∃ v4' : Option V, [some (V.ref dw), some (V.int e), some (V.ref p), some (V.int u), some (V.int v)] = [some (V.ref dw), some (V.int e), some (V.ref p), some (V.int u), v4'] ∧ Same H' H3 ∧ ∀ (j' : Nat) (v : Int), j' < j + 1 → (nx W u)[j']? = some v → (line W e).idxOf v ≤ (line W e).idxOf u → Dom (nx W) e v u := fun H3 s4 hd => by
          refine ⟨_, rfl, s3.trans s4, fun j' v' hj' hv' hle => ?_⟩
          by_cases ej : j' = j
          · subst ej
            rw [hv] at hv'
            obtain rfl := Option.some.inj hv'
            exact hd hle
          · exact hall2 j' v' (by omega) hv' hle
        have iv := index_parts hvl
        have iu := index_parts hul
        refine ⟨.ref p, rfl, .inl ⟨rfl, _, hp2⟩, .int v, rfl, p, _, .int v, _, .int v, rfl, rfl, hp2, rfl, flat_ints _, iv.1, iv.2.1, iv.2.2, ?_⟩
        refine ⟨.ref p, rfl, .inl ⟨rfl, _, hp2⟩, .int u, rfl, p, _, .int u, _, .int u, rfl, rfl, hp2, rfl, flat_ints _, iu.1, iu.2.1, iu.2.2, ?_⟩
        refine ⟨_, _, rfl, rfl, _, rfl, iteD (fun hle => ?_) (fun hgt => ?_)⟩
        · have hle : (line W e).idxOf v ≤ (line W e).idxOf u := by omega
          refine ⟨.ref dw, rfl, .int e, rfl, .int v, rfl, .int u, rfl, e, v, u, dw, W, rfl, hW.same (s1.trans (s2.trans s3)), G, fun b H3 s4 hb => ⟨b, rfl, ?_⟩⟩
          cases b with
          | true => exact iteF (fin H3 s4 fun _ => hb.mp rfl)
          | false => exact iteT (k false H3 (s1.trans (s2.trans (s3.trans s4))) ⟨fun z => Bool.noConfusion z, fun z => Bool.noConfusion (hb.mpr (z u v hul hvs hle))⟩)
        · exact iteF (fin H2 (Same.refl H2) fun z => absurd (show ((line W e).idxOf v : Int) ≤ ((line W e).idxOf u : Nat) by omega) hgt)
      · obtain ⟨v4, rfl, s3, hall2⟩ := hI2
        rw [List.length_map] at hall2
        refine ⟨_, v4, rfl, s2.trans s3, fun j u' v hj hu' hv hle => ?_⟩
        by_cases ej : j = i
        · subst ej
          rw [hu1] at hu'
          obtain rfl := Option.some.inj hu'
          obtain ⟨j', hj'⟩ := List.getElem?_of_mem hv
          exact hall2 j' v (List.getElem?_eq_some_iff.mp hj').1 hj' hle
        · exact hall j u' v (by omega) hu' hv hle
    · obtain ⟨v3, v4, rfl, s2, hall⟩ := hI
      rw [List.length_map] at hall
      refine k true H' (s1.trans s2) ⟨fun _ u v hu1 hv hle => ?_, fun _ => rfl⟩
      obtain ⟨j, hj⟩ := List.getElem?_of_mem hu1
      exact hall j u v (List.getElem?_eq_some_iff.mp hj).1 hj hv hle
end
end BT
namespace BT
open PySem L2
abbrev sMeet : Stmt := top 9
theorem scMeet : FnScope ["one", "other", "nearest", "places"] ["one", "other", "nearest", "places"] (defScope sMeet) := ⟨rfl, rfl, rfl, by decide +kernel, rfl, by decide +kernel, by decide +kernel⟩
/-- meet_of: the meet by nearest, whose ranks stand in places -/
def spMeet : Sp := fun vs H Q _ => ∃ (one other : Int) (dn dp : Addr) (N : Int → Option Int) (s : Int → List Int) (l : List Int) (e : Int),
  vs = [.int one, .int other, .ref dn, .ref dp] ∧ Mp H dn (fun b => (N b).map V.int) ∧ Mp H dp (fun b => if b ∈ l then some (.int (l.idxOf b : Nat)) else none) ∧ NI s l e N ∧ e ∈ l ∧ l.idxOf e = 0 ∧ (∃ n, N one = some n) ∧ (∃ n, N other = some n) ∧
  ∀ m, Meet N e [one, other] m → (∃ n, N m = some n) → Q (.int m) H
section
variable {P : Program} {w : World} {K : PySem.W.Frag} {mg : Str → Option Value} {base : Heap}
theorem ok_meet (D : Df K mg "meet_of" sMeet ["one", "other", "nearest", "places"]) : C8.Cal P w K mg base 1 "meet_of" spMeet [] := by
  refine D.ok scMeet (fun vs H Q E h => ?_) (fun f cdv A outer s H vs Q E hr h => ?_)
  · obtain ⟨_, _, _, _, _, _, _, _, rfl, _⟩ := h
    rfl
  · obtain ⟨one, other, dn, dp, N, sc, l, e, rfl, hN, hP, I, he, he0, h1, h2, k⟩ := h
    have hu := hu_of hr
    have nd := scMeet.nd
    refine ⟨_, pss_cons (ps_while PassesOwn.never (pt_cmpR op_ne (pv 0) (pv 1) (nomark _))
        (pss_one (ps_if (pt_cmpR op_gt (pe_dget hu (pv 3) (pv 0) (fun _ _ => rfl)) (pe_dget hu (pv 3) (pv 1) (fun _ _ => rfl)) (nomark _))
          (pss_one (ps_set (i := 0) nd rfl (.inl rfl) (pe_dget hu (pv 2) (pv 0) (fun _ _ => rfl))))
          (pss_one (ps_set (i := 1) nd rfl (.inl rfl) (pe_dget hu (pv 2) (pv 1) (fun _ _ => rfl)))))))
      (pss_one (ps_ret (pv 0))), ?_⟩
    refine ⟨fun m σ H' => ∃ o1 o2, σ = [some (.int o1), some (.int o2), some (.ref dn), some (.ref dp)] ∧ H' = H ∧ ML N e one other o1 o2 ∧ (∃ n, N o1 = some n) ∧ (∃ n, N o2 = some n) ∧ m = l.idxOf o1 + l.idxOf o2,
      ⟨_, one, other, rfl, rfl, ml_init, h1, h2, rfl⟩, fun m σ H' hW => ?_⟩
    obtain ⟨o1, o2, rfl, rfl, M, ⟨n1, g1⟩, ⟨n2, g2⟩, rfl⟩ := hW
    refine ⟨.int o1, rfl, .int o2, rfl, rfl, _, rfl, iteN (fun hne => ?_) (fun heq => ?_)⟩
    · have hne' : o1 ≠ o2 := fun z => hne (by rw [z])
      have i1 := I.dom o1 n1 g1
      have i2 := I.dom o2 n2 g2
      have p1 : (if o1 ∈ l then some (V.int (l.idxOf o1 : Nat)) else none) = some (.int (l.idxOf o1 : Nat)) := if_pos i1
      have p2 : (if o2 ∈ l then some (V.int (l.idxOf o2 : Nat)) else none) = some (.int (l.idxOf o2 : Nat)) := if_pos i2
      refine ⟨fun σ' H1 => ∃ o1' o2', σ' = [some (.int o1'), some (.int o2'), some (.ref dn), some (.ref dp)] ∧ H1 = H' ∧ ML N e one other o1' o2' ∧ (∃ n, N o1' = some n) ∧ (∃ n, N o2' = some n) ∧ l.idxOf o1' + l.idxOf o2' < l.idxOf o1 + l.idxOf o2, fun σ' H1 hN => ?_, ?_⟩
      · obtain ⟨a, b, e1, e2, e3, e4, e5, e6⟩ := hN
        exact ⟨_, e6, a, b, e1, e2, e3, e4, e5, rfl⟩
      refine ⟨.ref dp, rfl, .int o1, rfl, dp, .int (l.idxOf o1 : Nat), rfl, by rw [← p1]; exact hP.get o1, .ref dp, rfl, .int o2, rfl, dp, .int (l.idxOf o2 : Nat), rfl, by rw [← p2]; exact hP.get o2, _, _, rfl, rfl, _, rfl, iteD (fun hlt => ?_) (fun hge => ?_)⟩
      · have hlt' : l.idxOf o2 < l.idxOf o1 := by omega
        have ho1 : o1 ≠ e := fun z => by rw [z, he0] at hlt'; omega
        have hT := I.T o1 n1 g1 ho1
        refine ⟨.ref dn, rfl, .int o1, rfl, dn, .int n1, rfl, by have := hN.get o1; rw [g1] at this; exact this, ?_⟩
        exact ⟨n1, o2, rfl, rfl, ml_one I M g1 ho1 hlt', hT.1, ⟨n2, g2⟩, by omega⟩
      · have hlt' : l.idxOf o1 < l.idxOf o2 := by
          have : l.idxOf o1 ≠ l.idxOf o2 := fun z => hne' (idx_inj i1 i2 z)
          omega
        have ho2 : o2 ≠ e := fun z => by rw [z, he0] at hlt'; omega
        have hT := I.T o2 n2 g2 ho2
        refine ⟨.ref dn, rfl, .int o2, rfl, dn, .int n2, rfl, by have := hN.get o2; rw [g2] at this; exact this, ?_⟩
        exact ⟨o1, n2, rfl, rfl, ml_other I M g2 ho2 hlt', ⟨n1, g1⟩, hT.1, by omega⟩
    · have heq' : o1 = o2 := vint.mp heq
      subst heq'
      exact ⟨.int o1, rfl, k o1 (ml_end M) ⟨n1, g1⟩⟩
end
end BT
namespace BT
open PySem L2
abbrev sFroms : Stmt := top 8
abbrev nFroms : List Str := ["ways", "block", "found", "others", "other"]
theorem scFroms : FnScope nFroms ["ways"] (defScope sFroms) := ⟨rfl, rfl, rfl, by decide +kernel, rfl, by decide +kernel, by decide +kernel⟩
/-- for each block a list of those from which a way leads to it -/
def FromsAt (H : Hp) (d : Addr) (W : Ways) : Prop := ∃ kvs, H d = some (.dK kvs) ∧ ∀ b, b ∈ ks W → ∃ (a : Addr) (l : List Int), valV kvs (Sum.inl b : Key) = some (.ref a) ∧ H a = some (.lst (l.map V.int)) ∧ l.length ≤ 100 ∧ ∀ p : Int, p ∈ l ↔ p ∈ ks W ∧ b ∈ nx W p
theorem FromsAt.same {H H' : Hp} (s : Same H H') {d : Addr} {W : Ways} (h : FromsAt H d W) : FromsAt H' d W := by
  obtain ⟨kvs, h1, h2⟩ := h
  refine ⟨kvs, s _ _ h1, fun b hb => ?_⟩
  obtain ⟨a, l, g1, g2, g3⟩ := h2 b hb
  exact ⟨a, l, g1, s _ _ g2, g3⟩
/-- froms_of -/
def spFroms : Sp := fun vs H Q _ => ∃ (e : Int) (d : Addr) (W : Ways), vs = [.ref d] ∧ WaysAt H d W ∧ GOk W e ∧ ∀ H' p, Same H H' → H p = none → FromsAt H' p W → Q (.ref p) H'
section
variable {P : Program} {w : World} {K : PySem.W.Frag} {mg : Str → Option Value} {base : Heap}
theorem ok_froms (D : Df K mg "froms_of" sFroms ["ways"]) : C8.Cal P w K mg base 1 "froms_of" spFroms [] := by
  refine D.ok scFroms (fun vs H Q E h => ?_) (fun f cdv A outer s H vs Q E hr h => ?_)
  · obtain ⟨_, _, _, rfl, _⟩ := h
    rfl
  · obtain ⟨e, dw, W, rfl, ⟨kw, hW, wp⟩, G, k⟩ := h
    have hu := hu_of hr
    have nd := scFroms.nd
    refine ⟨_, C8.pss_cut (ps_lock (ps_setDc (i := 2) (own := [("block", 1)]) (g := gName 1) rfl nd rfl rfl (sw_dict rfl rfl rfl (by decide +kernel)) (pi_keys (pv 0)) (blkOk_by (own := [("block", 1)]) (N := nFroms) (sc := defScope sFroms) (by decide +kernel))
          (fun _ _ _ _ _ => pg_name (i := 1) nd rfl (Or.inl rfl)) (fun _ _ _ _ _ => pts_nil) (fun _ _ _ _ _ => pv 1) (fun _ _ _ _ _ => pe_lst pa_nil)))
      (pss_cons (ps_lock (ps_for PassesOwn.never rfl (pi_items (pv 0)) (pg_tup rfl (pgs_cons (pg_name (i := 1) nd rfl (.inl rfl)) (pgs_cons (pg_name (i := 3) nd rfl (.inl rfl)) pgs_nil)))
        (pss_one (ps_for PassesOwn.never rfl (pi_list (pv 3)) (pg_name (i := 4) nd rfl (.inl rfl))
          (pss_one (ps_expr (pe_bm PySem.F.plainAttrs_list PySem.F.slot_list_append PySem.F.type_list_append mt_append (pe_dget hu (pv 2) (pv 4) (fun _ _ => rfl)) (pa_cons (pv 1) pa_nil))))))))
      (pss_one (ps_ret (pv 2)))), ?_⟩
    refine ⟨fun σ' H' => ∃ (df : Addr) (ps : List (Int × Addr)), σ' = [some (.ref dw), none, some (.ref df), none, none] ∧ Same H H' ∧ H df = none ∧ H' df = some (.dK (kvP ps)) ∧ ps.map Prod.fst = ks W ∧ (ps.map Prod.snd).Nodup ∧
        ∀ p, p ∈ ps → H p.2 = none ∧ H' p.2 = some (.lst []), ?_, fun σ' H1 hM => ?_⟩
    · -- found = {block: [] for block in ways}
      refine ⟨dw, .dK kw, hW, True.intro, fun od => ?_⟩
      refine ⟨.ref dw, rfl, dw, od, rfl, .inl ⟨kw, upd_same, fun Dn nD => ?_⟩⟩
      obtain ⟨nD0, nDw⟩ := lock_free nD
      refine dc_it walk_keys (fun i H' => ∃ ps : List (Int × Addr), Same (upd H dw (.frz od (.dK kw))) H' ∧ H' Dn = some (.dK (kvP ps)) ∧ ps.map Prod.fst = (ks W).take i ∧ (ps.map Prod.snd).Nodup ∧
        ∀ p, p ∈ ps → (upd H dw (.frz od (.dK kw))) p.2 = none ∧ H' p.2 = some (.lst [])) ?_ ?_ ?_ ?_
      · exact ⟨[], same_upd nD, upd_same, rfl, List.nodup_nil, fun p hp => by simp at hp⟩
      · rintro i H' _ ⟨ps, s1, _⟩
        exact s1 _ _ upd_same
      · rintro i x H2 H3 hi ⟨ps, s1, hD, hk, hn, hall⟩ ⟨rfl, key, v, hkv, rfl⟩
        obtain ⟨p, a, hp, rfl, rfl, _⟩ := wp.at_ hkv
        refine ⟨rfl, ?_⟩
        refine ⟨.int p.1, rfl, Nat.zero_le _, fun a2 na2 => ?_⟩
        have hpk : (ks W)[i]? = some p.1 := by rw [List.getElem?_map, hp]; rfl
        have hnew : p.1 ∉ ps.map Prod.fst := by
          rw [hk]
          intro hm
          obtain ⟨j, hj⟩ := List.getElem?_of_mem hm
          rw [List.getElem?_take] at hj
          by_cases hji : j < i
          · rw [if_pos hji] at hj
            have := nd_ix G.nd hj hpk
            omega
          · rw [if_neg hji] at hj; cases hj
        have hlen : ps.length ≤ 9 := by
          have := congrArg List.length hk
          rw [List.length_map, List.length_take, List.length_map] at this
          have := G.len
          omega
        have s2 := same_upd (o := .lst []) na2
        refine ⟨kvP ps, Sum.inl p.1, rfl, s2 _ _ hD, by rw [kvP_len]; exact small9 (by omega), ps ++ [(p.1, a2)], same_mut (s1.trans s2) nD, by rw [upd_same, kvP_put hnew], ?_, ?_, fun q hq => ?_⟩
        · rw [List.map_append, hk, List.take_add_one, hpk]; rfl
        · rw [List.map_append]
          refine List.nodup_append.mpr ⟨hn, by simp, fun y hy z hz e => ?_⟩
          obtain ⟨q, hq, rfl⟩ := List.mem_map.mp hy
          have hz : z = a2 := by simpa using hz
          have := (hall q hq).2
          rw [e, hz, na2] at this
          cases this
        · have hDn : ∀ {b : Addr} {o : HO}, (upd H3 a2 (.lst [])) b = some o → (∀ kvs, o ≠ .dK kvs) → b ≠ Dn := fun {b o} hb hk e => by
            rw [e, s2 _ _ hD] at hb
            exact hk _ (Option.some.inj hb).symm
          rcases List.mem_append.mp hq with z | z
          · refine ⟨(hall q z).1, ?_⟩
            have := s2 _ _ (hall q z).2
            rw [upd_ne (hDn this (fun kvs y => by cases y))]
            exact this
          · have z : q = (p.1, a2) := by simpa using z
            rw [z]
            refine ⟨s1.free na2, ?_⟩
            rw [upd_ne (hDn upd_same (fun kvs y => by cases y)), upd_same]
      · rintro H2 ⟨ps, s1, hD, hk, hn, hall⟩
        rw [wp.len, List.take_of_length_le (by rw [List.length_map]; exact Nat.le_refl _)] at hk
        refine ⟨s1 _ _ upd_same, Dn, ps, rfl, same_unlock hW s1, nD0, ?_, hk, hn, fun p hp => ?_⟩
        · rw [upd_ne nDw]; exact hD
        · obtain ⟨g1, g2⟩ := hall p hp
          obtain ⟨g3, g4⟩ := lock_free g1
          exact ⟨g3, by rw [upd_ne g4]; exact g2⟩
    · -- the loops
      obtain ⟨df, ps, rfl, s1, nf, hf, hk, hn, hall⟩ := hM
      have hW1 := s1 _ _ hW
      have wp1 := wp.same s1
      have hndf : (ps.map Prod.fst).Nodup := by rw [hk]; exact G.nd
      have ndw : ∀ p, p ∈ ps → p.2 ≠ dw := fun p hp => by
        have := (hall p hp).1
        exact fun z => by rw [z, hW] at this; cases this
      have ndf : ∀ p, p ∈ ps → p.2 ≠ df := fun p hp => ne_of (hall p hp).2 hf (fun z => by cases z)
      have dwf : df ≠ dw := fun z => by rw [z, hW] at nf; cases nf
      refine ⟨dw, .dK kw, hW1, True.intro, fun od => ?_⟩
      refine ⟨.ref dw, rfl, dw, od, kw, rfl, upd_same, ?_⟩
      have wpl : WP (upd H1 dw (.frz od (.dK kw))) kw W := wp1.lock hW1
      have hfl : (upd H1 dw (.frz od (.dK kw))) df = some (.dK (kvP ps)) := by rw [upd_ne dwf]; exact hf
      -- what holds between the turns
      let St : Nat → (Int → List Int) → Hp → Prop := fun c Fn H' => (∀ b o, (upd H dw (.frz od (.dK kw))) b = some o → H' b = some o) ∧ H' df = some (.dK (kvP ps)) ∧ (∀ p, p ∈ ps → H' p.2 = some (.lst ((Fn p.1).map V.int))) ∧ ∀ b, (Fn b).length ≤ c
      have stSame : ∀ {c Fn H' H''}, St c Fn H' → Same H' H'' → St c Fn H'' := fun {c Fn H' H''} ⟨a1, a2, a3, a4⟩ s => ⟨fun b o h => s _ _ (a1 b o h), s _ _ a2, fun p hp => s _ _ (a3 p hp), a4⟩
      refine for_it walk_items (fun i σ H' => ∃ (Fn : Int → List Int) (v1 v3 v4 : Option V), σ = [some (.ref dw), v1, some (.ref df), v3, v4] ∧ St (3 * i) Fn H' ∧
          ∀ b p, p ∈ Fn b ↔ ∃ (t : Nat) (q : Int × List Int), t < i ∧ W[t]? = some q ∧ q.1 = p ∧ b ∈ q.2) ?_ ?_ ?_ ?_
      · refine ⟨fun _ => [], none, none, none, rfl, ⟨fun b o h => ?_, hfl, fun p hp => ?_, fun b => Nat.zero_le _⟩, fun b p => ?_⟩
        · by_cases e : b = dw
          · rw [e, upd_same] at h ⊢; exact h
          · rw [upd_ne e] at h ⊢; exact s1 _ _ h
        · rw [upd_ne (ndw p hp)]; exact (hall p hp).2
        · constructor
          · intro h; simp at h
          · rintro ⟨t, q, ht, _⟩; omega
      · rintro i σ H' _ ⟨Fn, _, _, _, _, ⟨a1, _⟩, _⟩
        exact a1 _ _ upd_same
      · rintro i x σ H2 H3 hi ⟨Fn, v1, v3, v4, rfl, stI, hin⟩ ⟨T, kx, vx, rfl, nT, rfl, hkx, hvx⟩
        obtain ⟨⟨key, val⟩, hkv⟩ : ∃ kv, kw[i]? = some kv := ⟨_, List.getElem?_eq_getElem hi⟩
        have hkx : (kw[i]?.map fun kv => kV kv.1) = some kx := hkx
        have hvx : kw[i]?.map Prod.snd = some vx := hvx
        rw [hkv] at hkx hvx
        obtain ⟨q, a, hq, rfl, rfl, ha0⟩ := (wp.lock (x := .frz od (.dK kw)) hW).at_ hkv
        obtain rfl : V.int q.1 = kx := Option.some.inj hkx
        obtain rfl : V.ref a = vx := Option.some.inj hvx
        have hqn : nx W q.1 = q.2 := nx_at G.nd hq
        have hqk : q.1 ∈ ks W := List.mem_map.mpr ⟨q, List.mem_of_getElem? hq, rfl⟩
        have hq3 : q.2.length ≤ 3 := by rw [← hqn]; exact G.deg _
        have sT := same_upd (o := .tup [V.int q.1, .ref a]) nT
        have st1 := stSame stI sT
        refine ⟨T, [.int q.1, .ref a], rfl, .inl (.inl upd_same), rfl, .int q.1, [.ref a], rfl, .ref a, [], rfl, rfl, ?_⟩
        generalize upd H2 T (.tup [V.int q.1, .ref a]) = H3 at st1
        have ha : H3 a = some (.lst (q.2.map V.int)) := st1.1 _ _ ha0
        refine ⟨.ref a, rfl, a, rfl, ⟨_, .inl (.inl ha)⟩, for_list (K := K) (a := a) (xs := q.2.map V.int) (fun j σ H' => ∃ (Fn' : Int → List Int) (v4 : Option V), σ = [some (.ref dw), some (.int q.1), some (.ref df), some (.ref a), v4] ∧ St (3 * i + j) Fn' H' ∧
            ∀ b p, p ∈ Fn' b ↔ p ∈ Fn b ∨ (p = q.1 ∧ b ∈ q.2.take j)) ⟨Fn, v4, rfl, st1, fun b p => by simp⟩ (fun j σ H' _ ⟨_, _, _, ⟨a1, _⟩, _⟩ => .inl (.inl (a1 _ _ ha0))) ?_ ?_⟩
        · rintro j y σ H4 hy ⟨Fn', v4, rfl, stJ, hin'⟩
          obtain ⟨o, ho, rfl⟩ : ∃ o, q.2[j]? = some o ∧ y = .int o := by
            rw [List.getElem?_map] at hy
            cases z : q.2[j]? with
            | none => rw [z] at hy; cases hy
            | some o => rw [z] at hy; exact ⟨o, rfl, (Option.some.inj hy).symm⟩
          have hoq : o ∈ q.2 := List.mem_of_getElem? ho
          have hok : o ∈ ks W := G.clo q.1 o hqk (by rw [hqn]; exact hoq)
          obtain ⟨r, hr, hro⟩ : ∃ r, r ∈ ps ∧ r.1 = o := by
            rw [← hk] at hok
            exact List.mem_map.mp hok
          obtain ⟨b1, b2, b3, b4⟩ := stJ
          have hv : valV (kvP ps) (Sum.inl o : Key) = some (.ref r.2) := by rw [← hro]; exact kvP_val hndf hr
          have hl := b3 r hr
          rw [hro] at hl
          have hjl : j < 3 := by
            have := (List.getElem?_eq_some_iff.mp ho).1
            omega
          have hi9 : i < 9 := by have := G.len; rw [wp.len] at hi; omega
          have hlen : (Fn' o).length ≤ 30 := by have := b4 o; omega
          refine ⟨.ref df, rfl, .int o, rfl, df, .ref r.2, rfl, by rw [← hv]; exact DGet.k (k := Sum.inl o) b2, .inl ⟨rfl, _, .inl (.inl hl)⟩, .int q.1, rfl, r.2, _, _, rfl, rfl, hl, by rw [List.length_map]; exact small9 (by omega), ?_⟩
          refine ⟨fun x => if x = o then Fn' x ++ [q.1] else Fn' x, _, rfl, ⟨fun b o' h => ?_, ?_, fun p hp => ?_, fun b => ?_⟩, fun b p => ?_⟩
          · have : b ≠ r.2 := fun z => by
              have h0 := (hall r hr).1
              rw [z, upd_ne (ndw r hr), h0] at h
              cases h
            rw [upd_ne this]; exact b1 _ _ h
          · rw [upd_ne (ndf r hr).symm]; exact b2
          · by_cases e : p.1 = o
            · have : p = r := by
                obtain ⟨i1, h1⟩ := List.getElem?_of_mem hp
                obtain ⟨i2, h2⟩ := List.getElem?_of_mem hr
                have e1 : (ps.map Prod.fst)[i1]? = some o := by rw [List.getElem?_map, h1, ← e]; rfl
                have e2 : (ps.map Prod.fst)[i2]? = some o := by rw [List.getElem?_map, h2, ← hro]; rfl
                have := nd_ix hndf e1 e2
                rw [this, h2] at h1
                exact (Option.some.inj h1).symm
              rw [this, upd_same]
              show _ = some (HO.lst ((if r.1 = o then Fn' r.1 ++ [q.1] else Fn' r.1).map V.int))
              rw [if_pos hro, hro, List.map_append]
              rfl
            · have : p.2 ≠ r.2 := fun z => by
                obtain ⟨i1, h1⟩ := List.getElem?_of_mem hp
                obtain ⟨i2, h2⟩ := List.getElem?_of_mem hr
                have e1 : (ps.map Prod.snd)[i1]? = some r.2 := by rw [List.getElem?_map, h1, ← z]; rfl
                have e2 : (ps.map Prod.snd)[i2]? = some r.2 := by rw [List.getElem?_map, h2]; rfl
                have := nd_ix hn e1 e2
                rw [this, h2] at h1
                exact e (by rw [← Option.some.inj h1]; exact hro)
              rw [upd_ne this]
              show _ = some (HO.lst ((if p.1 = o then Fn' p.1 ++ [q.1] else Fn' p.1).map V.int))
              rw [if_neg e]
              exact b3 p hp
          · have := b4 b
            show (if b = o then Fn' b ++ [q.1] else Fn' b).length ≤ 3 * i + (j + 1)
            by_cases e : b = o
            · rw [if_pos e, List.length_append, List.length_singleton]; omega
            · rw [if_neg e]; omega
          · show p ∈ (if b = o then Fn' b ++ [q.1] else Fn' b) ↔ _
            rw [List.take_add_one, ho]
            by_cases e : b = o
            · rw [if_pos e, List.mem_append, hin', e]
              simp only [List.mem_singleton, Option.toList_some, List.mem_append]
              constructor
              · rintro ((h | h) | h)
                · exact .inl h
                · exact .inr ⟨h.1, .inl h.2⟩
                · exact .inr ⟨h, .inr trivial⟩
              · rintro (h | ⟨h1, h2⟩)
                · exact .inl (.inl h)
                · exact .inr h1
            · rw [if_neg e, hin']
              simp [e]
        · rintro σ H4 ⟨Fn', v4, rfl, stJ, hin'⟩
          rw [List.length_map] at stJ hin'
          refine ⟨Fn', _, _, _, rfl, ⟨stJ.1, stJ.2.1, stJ.2.2.1, fun b => by have := stJ.2.2.2 b; omega⟩, fun b p => ?_⟩
          rw [hin', hin, List.take_length]
          constructor
          · rintro (⟨t, q', ht, h1, h2, h3⟩ | ⟨h1, h2⟩)
            · exact ⟨t, q', by omega, h1, h2, h3⟩
            · exact ⟨i, q, by omega, hq, h1.symm, h2⟩
          · rintro ⟨t, q', ht, h1, h2, h3⟩
            by_cases e : t = i
            · rw [e, hq] at h1
              obtain rfl := Option.some.inj h1
              exact .inr ⟨h2.symm, h3⟩
            · exact .inl ⟨t, q', by omega, h1, h2, h3⟩
      · rintro σ H2 ⟨Fn, v1, v3, v4, rfl, ⟨a1, a2, a3, a4⟩, hin⟩
        refine ⟨a1 _ _ upd_same, .ref df, rfl, k _ df (same_unlock hW a1) nf ⟨kvP ps, by rw [upd_ne dwf]; exact a2, fun b hb => ?_⟩⟩
        obtain ⟨r, hr, hro⟩ : ∃ r, r ∈ ps ∧ r.1 = b := by
          rw [← hk] at hb
          exact List.mem_map.mp hb
        refine ⟨r.2, Fn b, by rw [← hro]; exact kvP_val hndf hr, ?_, ?_, fun p => ?_⟩
        · rw [upd_ne (ndw r hr), ← hro]; exact a3 r hr
        · have := a4 b
          have := G.len
          rw [wp.len] at *
          omega
        · rw [hin, wp.len]
          constructor
          · rintro ⟨t, q, ht, h1, h2, h3⟩
            have hqn : nx W q.1 = q.2 := nx_at G.nd h1
            refine ⟨List.mem_map.mpr ⟨q, List.mem_of_getElem? h1, h2⟩, ?_⟩
            rw [← h2, hqn]; exact h3
          · rintro ⟨h1, h2⟩
            obtain ⟨q, hq, hqp⟩ := List.mem_map.mp h1
            obtain ⟨t, ht⟩ := List.getElem?_of_mem hq
            have hqn : nx W q.1 = q.2 := nx_at G.nd ht
            exact ⟨t, q, (List.getElem?_eq_some_iff.mp ht).1, ht, hqp, by rw [← hqn, hqp]; exact h2⟩
end
end BT
namespace BT
open PySem L2
abbrev sNear : Stmt := top 10
abbrev nNear : List Str := ["entry", "ways", "line", "froms", "block", "places", "nearest", "changed", "one", "some", "found", "at"]
theorem scNear : FnScope nNear ["entry", "ways"] (defScope sNear) := ⟨rfl, rfl, rfl, by decide +kernel, rfl, by decide +kernel, by decide +kernel⟩
/-- above_by -/
def spNear : Sp := fun vs H Q _ => ∃ (e : Int) (d : Addr) (W : Ways), vs = [.int e, .ref d] ∧ WaysAt H d W ∧ GOk W e ∧ ∀ H' p, Same H H' → H p = none → Nearest H' p W e → Q (.ref p) H'
theorem nodup_sub_lenG {α : Type} [DecidableEq α] : ∀ {l V : List α}, l.Nodup → (∀ x, x ∈ l → x ∈ V) → l.length ≤ V.length
  | [], V, _, _ => Nat.zero_le _
  | a :: r, V, nd, h => by
    obtain ⟨h1, h2⟩ := List.nodup_cons.mp nd
    have hV : a ∈ V := h a (List.mem_cons_self ..)
    have := nodup_sub_lenG (l := r) (V := V.erase a) h2 fun x hx => (List.mem_erase_of_ne (fun e : x = a => h1 (by rw [← e]; exact hx))).mpr (h x (List.mem_cons_of_mem _ hx))
    rw [List.length_erase_of_mem hV] at this
    have : 0 < V.length := List.length_pos_of_mem hV
    simp only [List.length_cons]; omega
/-- the dict nearest while it is worked at -/
def NrAt (H : Hp) (d : Addr) (l : List Int) (N : Int → Option Int) : Prop := ∃ kvs, H d = some (.dK kvs) ∧ (kvs.map Prod.fst).Nodup ∧ (∀ q, q ∈ kvs.map Prod.fst → q ∈ l.map (Sum.inl : Int → Key)) ∧ ∀ b, valV kvs (Sum.inl b : Key) = (N b).map V.int
theorem NrAt.same {H H' : Hp} {d : Addr} {l : List Int} {N : Int → Option Int} (s : Same H H') (h : NrAt H d l N) : NrAt H' d l N := by
  obtain ⟨kvs, h1, h2⟩ := h
  exact ⟨kvs, s _ _ h1, h2⟩
theorem NrAt.mp {H : Hp} {d : Addr} {l : List Int} {N : Int → Option Int} (hl : l.length ≤ 9) (h : NrAt H d l N) : Mp H d fun b => (N b).map V.int := by
  obtain ⟨kvs, h1, h2, h3, h4⟩ := h
  refine ⟨kvs, h1, ?_, h4⟩
  have := nodup_sub_lenG h2 h3
  rw [List.length_map, List.length_map] at this
  omega
theorem put_keys {kvs : List (Key × V)} {k : Key} {v y : V} (h : valV kvs k = some v) : (putK kvs k y).map Prod.fst = kvs.map Prod.fst := by
  have ha : (kvs.any fun kv => decide (kv.1 = k)) = true := by rw [valV_any, h]; rfl
  unfold putK
  rw [if_pos ha, List.map_map]
  refine List.map_congr_left fun kv _ => ?_
  show (if kv.1 = k then (kv.1, y) else kv).1 = kv.1
  by_cases e : kv.1 = k
  · rw [if_pos e]
  · rw [if_neg e]
theorem put_nd {kvs : List (Key × V)} {k : Key} {y : V} (h : (kvs.map Prod.fst).Nodup) : ((putK kvs k y).map Prod.fst).Nodup := by
  cases e : valV kvs k with
  | none => exact nd_putK y h e
  | some v => rw [put_keys e]; exact h
theorem put_in {kvs : List (Key × V)} {k q : Key} {y : V} (h : q ∈ (putK kvs k y).map Prod.fst) : q ∈ kvs.map Prod.fst ∨ q = k := by
  cases e : valV kvs k with
  | none =>
    rw [putK_new y e, List.map_append] at h
    rcases List.mem_append.mp h with z | z
    · exact .inl z
    · exact .inr (by simpa using z)
  | some v => rw [put_keys e] at h; exact .inl h
theorem NrAt.put {H : Hp} {d : Addr} {l : List Int} {N : Int → Option Int} {b m : Int} (hl : l.length ≤ 9) (h : NrAt H d l N) (hb : b ∈ l) : ∃ H', DPut H d (.int b) (.int m) H' ∧ NrAt H' d l (setN N b m) ∧ ∀ c o, c ≠ d → H c = some o → H' c = some o := by
  have hz := h.mp hl
  obtain ⟨kvs, h1, h2, h3, h4⟩ := h
  obtain ⟨kv2, g1, g2, _⟩ := hz
  obtain rfl : kvs = kv2 := by
    rw [h1] at g1
    cases g1
    rfl
  refine ⟨_, DPut.k (k := Sum.inl b) h1 (Nat.lt_of_le_of_lt g2 (by decide)), ⟨_, upd_same, put_nd h2, fun q hq => ?_, fun c => ?_⟩, fun c o hc h => by rw [upd_ne hc]; exact h⟩
  · rcases put_in hq with z | z
    · exact h3 q z
    · rw [z]; exact List.mem_map.mpr ⟨b, hb, rfl⟩
  · rw [valV_put]
    unfold setN
    by_cases e : c = b
    · rw [e, if_pos rfl, if_pos rfl]; rfl
    · rw [if_neg (fun z => e (Sum.inl.inj z)), if_neg e]
      exact h4 c
theorem cut_tail (xs : List V) : cutV xs (some 1) none = xs.drop 1 := by
  unfold cutV
  rw [show HT.sIx xs.length 0 (some 1) = min 1 xs.length from HT.sIx_nat xs.length 0 1, HT.sIx_none]
  cases xs with
  | nil => rfl
  | cons x r =>
    have e : min 1 (x :: r).length = 1 := by rw [List.length_cons]; omega
    rw [e]
    exact List.take_of_length_le (by simp)
theorem map_int_at {l : List Int} {i : Nat} {x : V} (h : (l.map V.int)[i]? = some x) : ∃ u, l[i]? = some u ∧ x = .int u := by
  rw [List.getElem?_map] at h
  cases z : l[i]? with
  | none => rw [z] at h; cases h
  | some o => rw [z] at h; exact ⟨o, rfl, (Option.some.inj h).symm⟩
theorem idx_at {l : List Int} (nd : l.Nodup) {i : Nat} {b : Int} (h : l[i]? = some b) : l.idxOf b = i := by
  have hb : b ∈ l := List.mem_of_getElem? h
  have h1 : l.idxOf b < l.length := List.idxOf_lt_length_of_mem hb
  have h2 : l[l.idxOf b]? = some b := by rw [List.getElem?_eq_getElem h1, List.getElem_idxOf h1]
  exact nd_ix nd h2 h
section
variable {P : Program} {w : World} {K : PySem.W.Frag} {mg : Str → Option Value} {base : Heap}
theorem ok_near (D : Df K mg "above_by" sNear ["entry", "ways"]) (cO : C8.Cal P w K mg base 1 "order_by" spOrder []) (cF : C8.Cal P w K mg base 1 "froms_of" spFroms []) (cM : C8.Cal P w K mg base 1 "meet_of" spMeet []) (mE : mg "enumerate" = none) :
    C8.Cal P w K mg base 2 "above_by" spNear [] := by
  refine D.ok scNear (fun vs H Q E h => ?_) (fun f cdv A outer s H vs Q E hr h => ?_)
  · obtain ⟨_, _, _, rfl, _⟩ := h
    rfl
  · obtain ⟨e, dw, W, rfl, hW, G, k⟩ := h
    have hu := hu_of hr
    have nd := scNear.nd
    refine ⟨_, C8.pss_cut (ps_par (i := 2) (j := 3) rfl nd rfl rfl (by decide) rfl rfl (pa_cons (C8.pe_c cO hr (by decide) (by rfl) (pa_cons (pv 0) (pa_cons (pv 1) pa_nil))) (pa_cons (C8.pe_c cF hr (by decide) (by rfl) (pa_cons (pv 1) pa_nil)) pa_nil)) (by rfl))
      (C8.pss_cut (ps_setDc (i := 5) (own := [("at", 11), ("block", 4)]) (g := gTup K 2 (gCons (gName 11) (gCons (gName 4) gNil))) rfl nd rfl rfl (sw_dict rfl rfl rfl (by decide +kernel)) (pi_enum (by rfl) mE (pa_cons (pv 2) pa_nil)) (blkOk_by (own := [("at", 11), ("block", 4)]) (N := nNear) (sc := defScope sNear) (by decide +kernel))
          (fun _ _ _ _ _ => pg_tup rfl (pgs_cons (pg_name (i := 11) nd rfl (Or.inl rfl) (Or.inr rfl)) (pgs_cons (pg_name (i := 4) nd rfl (Or.inl rfl) (Or.inr rfl)) pgs_nil))) (fun _ _ _ _ _ => pts_nil) (fun _ _ _ _ _ => pv 4) (fun _ _ _ _ _ => pv 11))
      (pss_cons (ps_asg (pe_tup (pa_cons (pe_disp (pps_cons (pv 0) (pv 0) pps_nil) (by rfl) (by rfl) (fun z => by cases z) (by decide)) (pa_cons pe_bl pa_nil))) (pg_tup rfl (pgs_cons (pg_name (i := 6) nd rfl (.inr rfl)) (pgs_cons (pg_name (i := 7) nd rfl (.inl rfl)) pgs_nil))))
      (pss_cons (ps_while PassesOwn.never (pt_val (pv 7))
        (pss_cons (ps_set (i := 7) nd rfl (.inl rfl) pe_bl)
        (pss_one (ps_for PassesOwn.never rfl (pi_list (pe_slice sl_list (pv 2) (po_some pe_int) po_none)) (pg_name (i := 4) nd rfl (.inl rfl))
          (C8.pss_cut (ps_setLc (i := 9) (own := [("one", 8)]) (g := gName 8) rfl nd rfl rfl (sw_true rfl rfl rfl (by decide +kernel)) (pi_list (pe_dget hu (pv 3) (pv 4) (fun _ _ => rfl))) (blkOk_by (own := [("one", 8)]) (N := nNear) (sc := defScope sNear) (by decide +kernel))
              (fun _ _ _ _ _ => pg_name (i := 8) nd rfl (Or.inl rfl)) (fun _ _ _ _ _ => pts_one (pt_cmp (pc_din hu (pv 8) (pv 6)))) (fun _ _ _ _ _ => pv 8))
          (pss_cons (ps_set (i := 10) nd rfl (.inl rfl) (pe_ix ix_list (pv 9) pe_int (fun _ _ => rfl)))
          (pss_cons (ps_for PassesOwn.never rfl (pi_list (pe_slice sl_list (pv 9) (po_some pe_int) po_none)) (pg_name (i := 8) nd rfl (.inl rfl))
            (pss_one (ps_set (i := 10) nd rfl (.inl rfl) (C8.pe_c cM hr (by decide) (by rfl) (pa_cons (pv 8) (pa_cons (pv 10) (pa_cons (pv 6) (pa_cons (pv 5) pa_nil))))))))
          (pss_cons (ps_set (i := 7) nd rfl (.inl rfl) (pe_or (pv 7) (pe_one (pe_cmpR op_ne (pe_dget2 hu (pv 6) (pv 4) pe_non ⟨rfl, rfl, rfl, rfl⟩) (pv 10) (nomark _)))))
          (pss_one (ps_dput hu (pv 6) (pv 4) (pv 10) rfl))))))))))
      (pss_cons (ps_dput hu (pv 6) (pv 0) pe_non rfl)
      (pss_one (ps_lock (ps_ret (pe_dc (own := [("block", 4)]) (g := gName 4) rfl nd (pi_keys (pv 1)) (blkOk_by (own := [("block", 4)]) (N := nNear) (sc := defScope sNear) (by decide +kernel))
          (fun _ _ _ _ _ => pg_name (i := 4) nd rfl (Or.inl rfl)) (fun _ _ _ _ _ => pts_nil) (fun _ _ _ _ _ => pv 4) (fun _ _ _ _ _ => pe_dget hu (pv 6) (pv 4) (fun _ _ => rfl)))))))))), ?_⟩
    refine ⟨fun σ' H' => ∃ dl df, σ' = [some (.int e), some (.ref dw), some (.ref dl), some (.ref df), none, none, none, none, none, none, none, none] ∧ Same H H' ∧ H' dl = some (.lst ((line W e).map V.int)) ∧ FromsAt H' df W, ?_, fun σ' H1 hM => ?_⟩
    · refine ⟨.int e, rfl, .ref dw, rfl, e, dw, W, rfl, hW, G, fun H1 p s1 np hp => ?_⟩
      refine ⟨.ref dw, rfl, e, dw, W, rfl, hW.same s1, G, fun H2 q s2 nq hq => ⟨_, _, rfl, p, q, rfl, s1.trans s2, s2 _ _ hp, hq⟩⟩
    obtain ⟨dl, df, rfl, s1, hl, hf⟩ := hM
    have hlen : (line W e).length ≤ 9 := by rw [G.line_len]; exact G.len
    have hnd := G.ord.nd
    -- places
    refine ⟨fun σ' H' => ∃ dp, σ' = [some (.int e), some (.ref dw), some (.ref dl), some (.ref df), none, some (.ref dp), none, none, none, none, none, none] ∧ Same H1 H' ∧ Mp H' dp (fun b => if b ∈ line W e then some (.int ((line W e).idxOf b : Nat)) else none), ?_, fun σ' Hb hM => ?_⟩
    · refine ⟨.ref dl, rfl, dl, _, rfl, .inl (.inl hl), fun Dn nD => ?_⟩
      refine dc_it (walk_enum (K := K) (a := dl) (xs := (line W e).map V.int)) (fun i H' => Same H1 H' ∧ ∃ kvs, H' Dn = some (.dK kvs) ∧ kvs.length ≤ i ∧ ∀ b, valV kvs (Sum.inl b : Key) = if b ∈ (line W e).take i then some (.int ((line W e).idxOf b : Nat)) else none) ?_ ?_ ?_ ?_
      · exact ⟨same_upd nD, [], upd_same, Nat.le_refl _, fun b => by rw [List.take_zero, if_neg List.not_mem_nil]; rfl⟩
      · rintro i H' _ ⟨s2, _⟩
        exact .inl (.inl (s2 _ _ hl))
      · rintro i x H2 H3 hi ⟨s2, kvs, hD, hk, hv⟩ ⟨T, x1, x2, rfl, nT, rfl, h1, h2⟩
        obtain rfl : V.int (i : Nat) = x1 := Option.some.inj h1
        obtain ⟨b, hb, rfl⟩ := map_int_at h2
        have sT := same_upd (o := .tup [V.int (i : Nat), .int b]) nT
        have hix := idx_at hnd hb
        refine ⟨T, [.int (i : Nat), .int b], rfl, .inl (.inl upd_same), rfl, .int (i : Nat), [.int b], rfl, .int b, [], rfl, rfl, rfl, ?_⟩
        rw [List.length_map] at hi
        refine ⟨.int b, rfl, .int (i : Nat), rfl, kvs, Sum.inl b, rfl, sT _ _ hD, small9 (by omega), same_mut (s2.trans sT) nD, _, upd_same, ?_, fun c => ?_⟩
        · have := length_putK kvs (Sum.inl b) (V.int (i : Nat))
          omega
        · rw [valV_put, List.take_add_one, hb]
          by_cases ec : c = b
          · rw [ec, if_pos rfl, if_pos (by simp), hix]
          · rw [if_neg (fun z => ec (Sum.inl.inj z)), hv c]
            have : c ∈ (line W e).take i ++ (some b).toList ↔ c ∈ (line W e).take i := by simp [ec]
            simp only [this]
      · rintro H2 ⟨s2, kvs, hD, hk, hv⟩
        rw [List.length_map] at hk hv
        rw [List.take_length] at hv
        exact ⟨Dn, rfl, s2, kvs, hD, by omega, hv⟩
    obtain ⟨dp, rfl, s2, hp⟩ := hM
    have hWb : WaysAt Hb dw W := hW.same (s1.trans s2)
    have hlb := s2 _ _ hl
    have hfb := hf.same s2
    have sHb := s1.trans s2
    clear hl hf s1 s2
    -- nearest, changed = {entry: entry}, True
    refine fun dn ndn => ⟨.int e, rfl, .int e, rfl, upd_same, [(Sum.inl e, .int e)], rfl, by show 1 ≤ 15; decide, by show 2 ≤ sizeLine; decide, fun T nT => ?_⟩
    refine ⟨T, [.ref dn, .bl true], rfl, .inl (.inl upd_same), rfl, .ref dn, [.bl true], rfl, .bl true, [], rfl, rfl, ?_⟩
    have sA : Same Hb (upd (upd (upd Hb dn (.dK [])) dn (.dK (mergeK [] [(Sum.inl e, .int e)]))) T (.tup [.ref dn, .bl true])) := (same_mut (same_upd ndn) ndn).trans (same_upd nT)
    have hn0 : NrAt (upd (upd (upd Hb dn (.dK [])) dn (.dK (mergeK [] [(Sum.inl e, .int e)]))) T (.tup [.ref dn, .bl true])) dn (line W e) (fun x => if x = e then some e else none) := by
      refine NrAt.same (same_upd nT) ⟨[(Sum.inl e, .int e)], upd_same, by simp, fun q hq => ?_, fun b => ?_⟩
      · have hq : q = Sum.inl e := by simpa using hq
        rw [hq]; exact List.mem_map.mpr ⟨e, G.ord.ent, rfl⟩
      · show _ = (if b = e then some e else none).map V.int
        by_cases eb : b = e
        · rw [eb, if_pos rfl]; exact valV_pos rfl
        · rw [if_neg eb]; exact (valV_neg (fun z => eb (Sum.inl.inj z).symm)).trans rfl
    generalize upd (upd (upd Hb dn (.dK [])) dn (.dK (mergeK [] [(Sum.inl e, .int e)]))) T (.tup [.ref dn, .bl true]) = Ha at sA hn0
    clear nT T
    refine ⟨fun m σ H' => ∃ (N : Int → Option Int) (kk : Nat) (ch : Bool) (v4 v8 v9 v10 : Option V), σ = [some (.int e), some (.ref dw), some (.ref dl), some (.ref df), v4, some (.ref dp), some (.ref dn), some (.bl ch), v8, v9, v10, none] ∧
        Same Hb H' ∧ NrAt H' dn (line W e) N ∧ HI (nx W) (line W e) e N kk ch ∧ m = (line W e).length + 1 - kk,
      ⟨_, _, 0, true, none, none, none, none, rfl, sA, hn0, hi_init G.ord, rfl⟩, fun m σ H' hI => ?_⟩
    obtain ⟨N, kk, ch, v4, v8, v9, v10, rfl, sm, hnr, hi, rfl⟩ := hI
    refine ⟨.bl ch, rfl, ch, rfl, ?_⟩
    cases ch with
    | true =>
      refine iteT ?_
      have hkl := hi.lim rfl
      refine ⟨fun σ' H2 => ∃ (N : Int → Option Int) (ch : Bool) (v4 v8 v9 v10 : Option V), σ' = [some (.int e), some (.ref dw), some (.ref dl), some (.ref df), v4, some (.ref dp), some (.ref dn), some (.bl ch), v8, v9, v10, none] ∧
        Same Hb H2 ∧ NrAt H2 dn (line W e) N ∧ HI (nx W) (line W e) e N (kk + 1) ch, fun σ' H2 hN => ?_, ?_⟩
      · obtain ⟨N', ch', a1, a2, a3, a4, e1, e2, e3, e4⟩ := hN
        exact ⟨(line W e).length + 1 - (kk + 1), by omega, N', kk + 1, ch', a1, a2, a3, a4, e1, e2, e3, e4, rfl⟩
      -- for block in line[1:]
      refine ⟨.ref dl, rfl, 1, rfl, dl, _, rfl, .inl (.inl (sm _ _ hlb)), fun q nq => ?_⟩
      rw [cut_tail]
      have sq := same_upd (o := .lst (((line W e).map V.int).drop 1)) nq
      have hq : (upd H' q (.lst (((line W e).map V.int).drop 1))) q = some (.lst (((line W e).drop 1).map V.int)) := by rw [upd_same, List.map_drop]
      have smq := sm.trans sq
      have hnq := hnr.same sq
      have nqn : q ≠ dn := by
        obtain ⟨kvs, h1, _⟩ := hnr
        exact (ne_of_none h1 nq).symm
      generalize upd H' q (.lst (((line W e).map V.int).drop 1)) = Hq at hq smq hnq
      have hll : 1 ≤ (line W e).length := List.length_pos_of_mem G.ord.ent
      refine ⟨q, rfl, ⟨_, .inl (.inl hq)⟩, for_list (K := K) (a := q) (xs := ((line W e).drop 1).map V.int) (fun i σ H2 => ∃ (N : Int → Option Int) (ch : Bool) (v4 v8 v9 v10 : Option V), σ = [some (.int e), some (.ref dw), some (.ref dl), some (.ref df), v4, some (.ref dp), some (.ref dn), some (.bl ch), v8, v9, v10, none] ∧
          Same Hb H2 ∧ H2 q = some (.lst (((line W e).drop 1).map V.int)) ∧ NrAt H2 dn (line W e) N ∧ PassI (nx W) (line W e) e N kk (i + 1) ch)
        ⟨N, false, v4, v8, v9, v10, rfl, smq, hq, hnq, pi_start G.ord hi⟩ (fun i σ H2 _ ⟨_, _, _, _, _, _, _, _, h, _⟩ => .inl (.inl h)) (fun i x σ H2 hx hI => ?_) (fun σ H2 hI => ?_)⟩
      · clear hnq hnr hi N v4 v8 v9 v10 smq hq sm
        obtain ⟨b, hb, rfl⟩ := map_int_at hx
        obtain ⟨N, ch, v4, v8, v9, v10, rfl, sm, hq, hnr, pI⟩ := hI
        rw [List.getElem?_drop, Nat.add_comm 1 i] at hb
        have hix := idx_at hnd hb
        have hbl : b ∈ line W e := List.mem_of_getElem? hb
        have hbk := G.mem.mp hbl
        have hbe : b ≠ e := fun z => by rw [z, G.ord.e0] at hix; omega
        obtain ⟨tp, htl, htb, hti⟩ := G.ord.tree hbl hbe
        have hmn := hnr.mp hlen
        obtain ⟨kf, hkf, hfr⟩ := hfb.same sm
        obtain ⟨af, fl, hva, haf, hfl, hfm⟩ := hfr b hbk
        -- some = [one for one in froms[block] if one in nearest]
        refine ⟨fun σ' H' => ∃ ds, σ' = [some (.int e), some (.ref dw), some (.ref dl), some (.ref df), some (.int b), some (.ref dp), some (.ref dn), some (.bl ch), v8, some (.ref ds), v10, none] ∧ Same H2 H' ∧ H' ds = some (.lst ((fl.filter fun p => (N p).isSome).map V.int)), ?_, fun σ' H3 hM => ?_⟩
        · refine ⟨.ref df, rfl, .int b, rfl, df, .ref af, rfl, by rw [← hva]; exact DGet.k (k := Sum.inl b) hkf, af, rfl, ⟨_, .inl (.inl haf)⟩, fun Dn nD => ?_⟩
          refine lc_list (K := K) (a := af) (xs := fl.map V.int) (fun j H4 => Same H2 H4 ∧ H4 Dn = some (.lst (((fl.take j).filter fun p => (N p).isSome).map V.int))) ⟨same_upd nD, upd_same⟩ (fun j H4 _ h4 => .inl (.inl (h4.1 _ _ haf))) (fun j v H4 hv h4 => ?_) (fun H4 h4 => ?_)
          · obtain ⟨s4, d4⟩ := h4
            obtain ⟨o, ho, rfl⟩ := map_int_at hv
            refine ⟨rfl, .int o, rfl, .ref dn, rfl, dn, (N o).map V.int, rfl, (hmn.same s4).get o, _, rfl, ?_⟩
            cases hNo : N o with
            | none =>
              refine iteF ⟨s4, ?_⟩
              rw [List.take_add_one, ho, List.filter_append]
              simp [hNo]
              simpa using d4
            | some n =>
              refine iteT ⟨.int o, rfl, _, d4, ?_, same_mut s4 nD, ?_⟩
              · have h1 := List.length_filter_le (fun p => (N p).isSome) (fl.take j)
                rw [List.length_take] at h1
                rw [List.length_map]
                exact small9 (by omega)
              · rw [upd_same, List.take_add_one, ho, List.filter_append]
                simp [hNo]
          · obtain ⟨s4, d4⟩ := h4
            rw [List.length_map, List.take_length] at d4
            exact ⟨Dn, rfl, s4, d4⟩
        obtain ⟨ds, rfl, s3, hds⟩ := hM
        have hps : ∀ p, p ∈ (fl.filter fun p => (N p).isSome) ↔ (p ∈ ks W ∧ b ∈ nx W p) ∧ ∃ n, N p = some n := fun p => by
          rw [List.mem_filter, hfm p, Option.isSome_iff_exists]
        have htp : tp ∈ (fl.filter fun p => (N p).isSome) := (hps tp).mpr ⟨⟨G.mem.mp htl, htb⟩, pI.done tp htl (by omega)⟩
        have hpl := List.length_filter_le (fun p => (N p).isSome) fl
        generalize (fl.filter fun p => (N p).isSome) = ps at hds hps htp hpl
        obtain ⟨p0, rest, rfl⟩ : ∃ p0 rest, ps = p0 :: rest := by
          cases ps with
          | nil => simp at htp
          | cons p0 rest => exact ⟨p0, rest, rfl⟩
        -- found = some[0]
        refine ⟨.ref ds, rfl, ds, _, 0, .int p0, rfl, rfl, .inl (.inl hds), atI_nat (j := 0) rfl, ?_⟩
        -- for one in some[1:]
        refine ⟨.ref ds, rfl, 1, rfl, ds, _, rfl, .inl (.inl hds), fun r nr => ?_⟩
        rw [cut_tail]
        have sr := same_upd (o := .lst (((p0 :: rest).map V.int).drop 1)) nr
        have hr' : (upd H3 r (.lst (((p0 :: rest).map V.int).drop 1))) r = some (.lst (rest.map V.int)) := upd_same
        have s4 := s3.trans sr
        generalize upd H3 r (.lst (((p0 :: rest).map V.int).drop 1)) = H4 at hr' s4
        have hp0 := (hps p0).mp (by simp)
        refine ⟨r, rfl, ⟨_, .inl (.inl hr')⟩, for_list (K := K) (a := r) (xs := rest.map V.int) (fun j σ H5 => ∃ (m : Int) (v8 : Option V), σ = [some (.int e), some (.ref dw), some (.ref dl), some (.ref df), some (.int b), some (.ref dp), some (.ref dn), some (.bl ch), v8, some (.ref ds), some (.int m), none] ∧
            H5 = H4 ∧ Meet N e (p0 :: rest.take j) m ∧ ∃ n, N m = some n) ⟨p0, v8, rfl, rfl, meet_one, hp0.2⟩ (fun j σ H5 _ ⟨_, _, _, e5, _⟩ => by rw [e5]; exact .inl (.inl hr')) (fun j y σ H5 hy hI5 => ?_) (fun σ H5 hI5 => ?_)⟩
        · obtain ⟨m, v8', rfl, rfl, hmeet, hmd⟩ := hI5
          obtain ⟨o, ho, rfl⟩ := map_int_at hy
          have hoN := ((hps o).mp (List.mem_cons_of_mem _ (List.mem_of_getElem? ho))).2
          refine ⟨.int o, rfl, .int m, rfl, .ref dn, rfl, .ref dp, rfl, o, m, dn, dp, N, nx W, line W e, e, rfl, hmn.same s4, hp.same (sm.trans s4), pI.ni, G.ord.ent, G.ord.e0, hoN, hmd, fun m' hm' hd' => ⟨m', _, rfl, rfl, ?_, hd'⟩⟩
          rw [List.take_add_one, ho]
          exact meet_snoc hmeet hm'
        · obtain ⟨m, v8', rfl, rfl, hmeet, hmd⟩ := hI5
          rw [List.length_map, List.take_length] at hmeet
          have U : Upd (nx W) (line W e) e N b (p0 :: rest) m := ⟨hbl, hbe, fun p hp' => ⟨((hps p).mp hp').1.2, ((hps p).mp hp').2⟩, ⟨tp, htp, hti⟩, hmeet⟩
          have pI2 := pi_step G.ord pI U hix fun p n hpl hbp hn => (hps p).mpr ⟨⟨G.mem.mp hpl, hbp⟩, n, hn⟩
          obtain ⟨H6, hput, hnr6, hkeep⟩ := (hnr.same s4).put (m := m) hlen hbl
          have fin : ∀ ch', ch' = (ch || !decide (N b = some m)) → ∃ (N' : Int → Option Int) (ch'' : Bool) (w4 w8 w9 w10 : Option V), [some (V.int e), some (.ref dw), some (.ref dl), some (.ref df), some (.int b), some (.ref dp), some (.ref dn), some (.bl ch'), v8', some (.ref ds), some (.int m), none] = [some (V.int e), some (.ref dw), some (.ref dl), some (.ref df), w4, some (.ref dp), some (.ref dn), some (.bl ch''), w8, w9, w10, none] ∧
              Same Hb H6 ∧ H6 q = some (.lst (((line W e).drop 1).map V.int)) ∧ NrAt H6 dn (line W e) N' ∧ PassI (nx W) (line W e) e N' kk (i + 1 + 1) ch'' := fun ch' ec => by
            refine ⟨setN N b m, ch', _, _, _, _, rfl, fun c o hc => ?_, hkeep _ _ nqn (s4 _ _ hq), hnr6, by rw [ec]; exact pI2⟩
            have : c ≠ dn := fun z => by rw [z, ndn] at hc; cases hc
            exact hkeep _ _ this (s4 _ _ (sm _ _ hc))
          -- changed = changed or nearest.get(block, None) != found
          refine ⟨.bl ch, rfl, ch, rfl, ?_⟩
          cases ch with
          | true =>
            refine iteT ?_
            exact ⟨.int m, rfl, .ref dn, rfl, .int b, rfl, dn, H6, rfl, hput, fin true rfl⟩
          | false =>
            refine iteF ?_
            refine ⟨.ref dn, rfl, dn, rfl, (hmn.same s4).isD, .int b, rfl, (N b).map V.int, (hmn.same s4).get b, .int m, rfl, ?_⟩
            cases hNb : N b with
            | none =>
              refine ⟨rfl, .int m, rfl, .ref dn, rfl, .int b, rfl, dn, H6, rfl, hput, fin true ?_⟩
              rw [hNb]; rfl
            | some n =>
              refine ⟨rfl, .int m, rfl, .ref dn, rfl, .int b, rfl, dn, H6, rfl, hput, fin (!decide (V.int n = V.int m)) ?_⟩
              rw [hNb, Bool.false_or]
              congr 1
              rw [Bool.eq_iff_iff]
              simp
      · obtain ⟨N, ch, v4, v8, v9, v10, rfl, sm, hq, hnr, pI⟩ := hI
        rw [List.length_map, List.length_drop, show (line W e).length - 1 + 1 = (line W e).length by omega] at pI
        exact ⟨N, ch, v4, v8, v9, v10, rfl, sm, hnr, pi_end pI⟩
    | false =>
      refine iteF ?_
      obtain ⟨_, hk1⟩ := hi.still rfl
      have hall := hi.all hk1
      have hdom : ∀ c d, c ∈ line W e → (Anc N e d c ↔ Dom (nx W) e d c) := fun c d hc => hi_dom G.ord hi hc
      obtain ⟨kvs, h1, h2, h3, h4⟩ := hnr
      have hlk : kvs.length ≤ 9 := by
        have := nodup_sub_lenG h2 h3
        rw [List.length_map, List.length_map] at this
        omega
      have hput : DPut H' dn (.int e) .non (upd H' dn (.dK (putK kvs (Sum.inl e) .non))) := DPut.k (k := Sum.inl e) h1 (Nat.lt_of_le_of_lt hlk (by decide))
      have hM : Mp (upd H' dn (.dK (putK kvs (Sum.inl e) .non))) dn (fun b => if b = e then some .non else (N b).map V.int) := by
        refine ⟨_, upd_same, ?_, fun b => ?_⟩
        · have := length_putK kvs (Sum.inl e) V.non
          omega
        · rw [valV_put]
          show _ = (if b = e then some V.non else (N b).map V.int)
          by_cases eb : b = e
          · rw [eb, if_pos rfl, if_pos rfl]
          · rw [if_neg (fun z => eb (Sum.inl.inj z)), if_neg eb]
            exact h4 b
      have smF : Same Hb (upd H' dn (.dK (putK kvs (Sum.inl e) .non))) := same_mut sm ndn
      refine ⟨.ref dn, rfl, .int e, rfl, dn, _, rfl, hput, ?_⟩
      generalize upd H' dn (.dK (putK kvs (Sum.inl e) .non)) = Hf at hM smF
      have sF := sHb.trans smF
      obtain ⟨kw, hW1, wp1⟩ := hWb.same smF
      have nwd : dn ≠ dw := by
        obtain ⟨_, z, _⟩ := hWb
        exact (ne_of_none z ndn).symm
      refine ⟨dw, .dK kw, hW1, True.intro, fun od => ?_⟩
      refine ⟨.ref dw, rfl, dw, od, rfl, .inl ⟨kw, upd_same, fun Dn nD => ?_⟩⟩
      obtain ⟨nD0, nDw⟩ := lock_free nD
      have hML : Mp (upd Hf dw (.frz od (.dK kw))) dn (fun b => if b = e then some .non else (N b).map V.int) := by
        obtain ⟨kv, z1, z2⟩ := hM
        exact ⟨kv, by rw [upd_ne nwd]; exact z1, z2⟩
      refine dc_it walk_keys (fun i H4 => Same (upd Hf dw (.frz od (.dK kw))) H4 ∧ ∃ kv, H4 Dn = some (.dK kv) ∧ kv.length ≤ i ∧ ∀ b, valV kv (Sum.inl b : Key) = if b ∈ (ks W).take i then (if b = e then some .non else (N b).map V.int) else none) ?_ ?_ ?_ ?_
      · exact ⟨same_upd nD, [], upd_same, Nat.le_refl _, fun b => by rw [List.take_zero, if_neg List.not_mem_nil]; rfl⟩
      · rintro i H4 _ ⟨s2, _⟩
        exact s2 _ _ upd_same
      · rintro i x H4 H5 hi5 ⟨s2, kv, hD, hk, hv⟩ ⟨rfl, key, v, hkv, rfl⟩
        obtain ⟨p, a, hp, rfl, rfl, _⟩ := wp1.at_ hkv
        have hpk : (ks W)[i]? = some p.1 := by rw [List.getElem?_map, hp]; rfl
        have hpl : p.1 ∈ line W e := G.mem.mpr (List.mem_of_getElem? hpk)
        obtain ⟨v, hv1⟩ : ∃ v, (if p.1 = e then some .non else (N p.1).map V.int) = some v := by
          by_cases eb : p.1 = e
          · exact ⟨.non, if_pos eb⟩
          · obtain ⟨n, hn⟩ := hall _ hpl
            exact ⟨.int n, by rw [if_neg eb, hn]; rfl⟩
        have hg := (hML.same s2).get p.1
        rw [hv1] at hg
        have hi9 : i < 9 := by have := G.len; have := wp1.len; omega
        refine ⟨rfl, .int p.1, rfl, .ref dn, rfl, .int p.1, rfl, dn, v, rfl, hg, kv, Sum.inl p.1, rfl, hD, small9 (by omega), same_mut s2 nD, _, upd_same, ?_, fun c => ?_⟩
        · have := length_putK kv (Sum.inl p.1) v
          omega
        · rw [valV_put, List.take_add_one, hpk]
          by_cases ec : c = p.1
          · rw [ec, if_pos rfl, if_pos (by simp), hv1]
          · rw [if_neg (fun z => ec (Sum.inl.inj z)), hv c]
            have : c ∈ (ks W).take i ++ (some p.1).toList ↔ c ∈ (ks W).take i := by simp [ec]
            simp only [this]
      · rintro H4 ⟨s2, kv, hD, hk, hv⟩
        have hl9 := G.len
        have hwl := wp1.len
        rw [wp1.len, List.take_of_length_le (by rw [List.length_map]; exact Nat.le_refl _)] at hv
        refine ⟨s2 _ _ upd_same, k _ Dn (sF.trans (same_unlock hW1 s2)) (sF.free nD0) ⟨N, ⟨kv, by rw [upd_ne nDw]; exact hD, by omega, fun b => ?_⟩, hi.ni, hall, hdom⟩⟩
        rw [hv]
        show _ = (if b = e then some V.non else (N b).map V.int)
        by_cases hb : b ∈ ks W
        · rw [if_pos hb]
        · rw [if_neg hb]
          have hbl : b ∉ line W e := fun z => hb (G.mem.mp z)
          have hbe : b ≠ e := fun z => hb (by rw [z]; exact G.ent)
          rw [if_neg hbe]
          cases hN : N b with
          | none => rfl
          | some n => exact absurd (hi.ni.dom b n hN) hbl
end
end BT
namespace BT
open PySem L2
abbrev sBack : Stmt := top 12
abbrev nBack : List Str := ["entry", "ways", "line", "block", "places", "found", "other", "at"]
theorem scBack : FnScope nBack ["entry", "ways"] (defScope sBack) := ⟨rfl, rfl, rfl, by decide +kernel, rfl, by decide +kernel, by decide +kernel⟩
theorem rd_same {H H' : Hp} (s : Same H H') {a : Addr} {u : HO} (h : Rd H a u) : Rd H' a u := by
  rcases h with h | ⟨o, h⟩
  · exact .inl (s _ _ h)
  · exact .inr ⟨o, s _ _ h⟩
theorem dget_same {H H' : Hp} (s : Same H H') {a : Addr} {y : V} {r : Option V} (h : DGet H a y r) : DGet H' a y r := by
  rcases h with ⟨kvs, k, h1, h2, h3⟩ | ⟨kvs, k, b, h1, h2, h3, h4⟩
  · exact .inl ⟨kvs, k, rd_same s h1, h2, h3⟩
  · exact .inr ⟨kvs, k, b, rd_same s h1, h2, s _ _ h3, h4⟩
/-- a list of pairs, the ways that go back -/
def BackAt (H : Hp) (d : Addr) (W : Ways) (e : Int) : Prop := ∃ (xs : List V) (ps : List (Int × Int)), H d = some (.lst xs) ∧ PrL H xs ps ∧ ps.length ≤ 27 ∧ ∀ u v, (u, v) ∈ ps ↔ u ∈ line W e ∧ v ∈ nx W u ∧ (line W e).idxOf v ≤ (line W e).idxOf u
/-- backward -/
def spBack : Sp := fun vs H Q _ => ∃ (e : Int) (d : Addr) (W : Ways), vs = [.int e, .ref d] ∧ WaysAt H d W ∧ GOk W e ∧ ∀ H' p, Same H H' → H p = none → BackAt H' p W e → Q (.ref p) H'
section
variable {P : Program} {w : World} {K : PySem.W.Frag} {mg : Str → Option Value} {base : Heap}
theorem ok_back (D : Df K mg "backward" sBack ["entry", "ways"]) (cO : C8.Cal P w K mg base 1 "order_by" spOrder []) (mE : mg "enumerate" = none) :
    C8.Cal P w K mg base 2 "backward" spBack [] := by
  refine D.ok scBack (fun vs H Q E h => ?_) (fun f cdv A outer s H vs Q E hr h => ?_)
  · obtain ⟨_, _, _, rfl, _⟩ := h
    rfl
  · obtain ⟨e, dw, W, rfl, hW, G, k⟩ := h
    have hu := hu_of hr
    have hu4 := hr.units
    have hu65 : (A.deeper (PyProof.Rows.envOfC "backward" (defScope sBack) s.heap.objs.size f cdv)).units + 65 < cLine := by have := hr.un; omega
    have nd := scBack.nd
    refine ⟨_, C8.pss_cut (ps_set (i := 2) nd rfl (.inl rfl) (C8.pe_c cO hr (by decide) (by rfl) (pa_cons (pv 0) (pa_cons (pv 1) pa_nil))))
      (C8.pss_cut (ps_setDc (i := 4) (own := [("at", 7), ("block", 3)]) (g := gTup K 2 (gCons (gName 7) (gCons (gName 3) gNil))) rfl nd rfl rfl (sw_dict rfl rfl rfl (by decide +kernel)) (pi_enum (by rfl) mE (pa_cons (pv 2) pa_nil)) (blkOk_by (own := [("at", 7), ("block", 3)]) (N := nBack) (sc := defScope sBack) (by decide +kernel))
          (fun _ _ _ _ _ => pg_tup rfl (pgs_cons (pg_name (i := 7) nd rfl (Or.inl rfl) (Or.inr rfl)) (pgs_cons (pg_name (i := 3) nd rfl (Or.inl rfl) (Or.inr rfl)) pgs_nil))) (fun _ _ _ _ _ => pts_nil) (fun _ _ _ _ _ => pv 3) (fun _ _ _ _ _ => pv 7))
      (pss_cons (ps_set (i := 5) nd rfl (.inl rfl) (pe_lst pa_nil))
      (pss_cons (ps_for PassesOwn.never rfl (pi_list (pv 2)) (pg_name (i := 3) nd rfl (.inl rfl))
        (pss_one (ps_for PassesOwn.never rfl (pi_list (pe_dget hu (pv 1) (pv 3) (fun _ _ => rfl))) (pg_name (i := 6) nd rfl (.inl rfl))
          (pss_one (ps_if (PW.pt (pw_and (pt_cmpR op_le (pe_dget hu (pv 4) (pv 6) (fun _ _ => rfl)) (pe_dget hu (pv 4) (pv 3) (fun _ _ => rfl)) (nomark _))
              (pw_and1 (pt_cmpR (op_notInPairs hu65) (pe_tup (pa_cons (pv 3) (pa_cons (pv 6) pa_nil))) (pv 5) (by rfl)))))
            (pss_one (ps_expr (pe_bm PySem.F.plainAttrs_list PySem.F.slot_list_append PySem.F.type_list_append mt_append (pv 5) (pa_cons (pe_tup (pa_cons (pv 3) (pa_cons (pv 6) pa_nil))) pa_nil)))) pss_nil)))))
      (pss_one (ps_ret (pv 5)))))), ?_⟩
    refine ⟨fun σ' H' => ∃ dl, σ' = [some (.int e), some (.ref dw), some (.ref dl), none, none, none, none, none] ∧ Same H H' ∧ H' dl = some (.lst ((line W e).map V.int)), ?_, fun σ' H1 hM => ?_⟩
    · exact ⟨.int e, rfl, .ref dw, rfl, e, dw, W, rfl, hW, G, fun H1 p s1 np hp => ⟨p, rfl, s1, hp⟩⟩
    obtain ⟨dl, rfl, s1, hl⟩ := hM
    have hlen : (line W e).length ≤ 9 := by rw [G.line_len]; exact G.len
    have hnd := G.ord.nd
    -- places
    refine ⟨fun σ' H' => ∃ dp, σ' = [some (.int e), some (.ref dw), some (.ref dl), none, some (.ref dp), none, none, none] ∧ Same H1 H' ∧ Mp H' dp (fun b => if b ∈ line W e then some (.int ((line W e).idxOf b : Nat)) else none), ?_, fun σ' Hb hM => ?_⟩
    · refine ⟨.ref dl, rfl, dl, _, rfl, .inl (.inl hl), fun Dn nD => ?_⟩
      refine dc_it (walk_enum (K := K) (a := dl) (xs := (line W e).map V.int)) (fun i H' => Same H1 H' ∧ ∃ kvs, H' Dn = some (.dK kvs) ∧ kvs.length ≤ i ∧ ∀ b, valV kvs (Sum.inl b : Key) = if b ∈ (line W e).take i then some (.int ((line W e).idxOf b : Nat)) else none) ?_ ?_ ?_ ?_
      · exact ⟨same_upd nD, [], upd_same, Nat.le_refl _, fun b => by rw [List.take_zero, if_neg List.not_mem_nil]; rfl⟩
      · rintro i H' _ ⟨s2, _⟩
        exact .inl (.inl (s2 _ _ hl))
      · rintro i x H2 H3 hi ⟨s2, kvs, hD, hk, hv⟩ ⟨T, x1, x2, rfl, nT, rfl, h1, h2⟩
        obtain rfl : V.int (i : Nat) = x1 := Option.some.inj h1
        obtain ⟨b, hb, rfl⟩ := map_int_at h2
        have sT := same_upd (o := .tup [V.int (i : Nat), .int b]) nT
        have hix := idx_at hnd hb
        refine ⟨T, [.int (i : Nat), .int b], rfl, .inl (.inl upd_same), rfl, .int (i : Nat), [.int b], rfl, .int b, [], rfl, rfl, rfl, ?_⟩
        rw [List.length_map] at hi
        refine ⟨.int b, rfl, .int (i : Nat), rfl, kvs, Sum.inl b, rfl, sT _ _ hD, small9 (by omega), same_mut (s2.trans sT) nD, _, upd_same, ?_, fun c => ?_⟩
        · have := length_putK kvs (Sum.inl b) (V.int (i : Nat))
          omega
        · rw [valV_put, List.take_add_one, hb]
          by_cases ec : c = b
          · rw [ec, if_pos rfl, if_pos (by simp), hix]
          · rw [if_neg (fun z => ec (Sum.inl.inj z)), hv c]
            have : c ∈ (line W e).take i ++ (some b).toList ↔ c ∈ (line W e).take i := by simp [ec]
            simp only [this]
      · rintro H2 ⟨s2, kvs, hD, hk, hv⟩
        rw [List.length_map] at hk hv
        rw [List.take_length] at hv
        exact ⟨Dn, rfl, s2, kvs, hD, by omega, hv⟩
    obtain ⟨dp, rfl, s2, hp⟩ := hM
    have hWb : WaysAt Hb dw W := hW.same (s1.trans s2)
    have hlb := s2 _ _ hl
    have sHb := s1.trans s2
    clear hl s1 s2
    refine ⟨Nat.zero_le _, fun df ndf => ?_⟩
    have sA := same_upd (o := .lst []) ndf
    have hf0 : (upd Hb df (.lst [])) df = some (.lst []) := upd_same
    generalize upd Hb df (.lst []) = Ha at sA hf0
    let St : Nat → List V → List (Int × Int) → Hp → Prop := fun c xs ps H' => Same Hb H' ∧ H' df = some (.lst xs) ∧ PrL H' xs ps ∧ ps.length ≤ c
    refine ⟨.ref dl, rfl, dl, rfl, ⟨_, .inl (.inl (sA _ _ hlb))⟩, for_list (K := K) (a := dl) (xs := (line W e).map V.int)
      (fun i σ H' => ∃ (xs : List V) (ps : List (Int × Int)) (v3 v6 : Option V), σ = [some (.int e), some (.ref dw), some (.ref dl), v3, some (.ref dp), some (.ref df), v6, none] ∧ St (3 * i) xs ps H' ∧
        ∀ u v, (u, v) ∈ ps ↔ u ∈ (line W e).take i ∧ v ∈ nx W u ∧ (line W e).idxOf v ≤ (line W e).idxOf u)
      ⟨[], [], none, none, rfl, ⟨sA, hf0, .nil, Nat.zero_le _⟩, fun u v => by simp⟩ (fun i σ H' _ ⟨_, _, _, _, _, ⟨s2, _⟩, _⟩ => .inl (.inl (s2 _ _ hlb))) (fun i x σ H' hx hI => ?_) (fun σ H' hI => ?_)⟩
    · obtain ⟨u, hu1, rfl⟩ := map_int_at hx
      obtain ⟨xs, ps, v3, v6, rfl, ⟨s2, hf, hps, hpl⟩, hin⟩ := hI
      have hul : u ∈ line W e := List.mem_of_getElem? hu1
      have huk := G.mem.mp hul
      obtain ⟨a, ga, la0⟩ := hWb.get huk
      have la := s2 _ _ la0
      have hi9 : i < 9 := by have := (List.getElem?_eq_some_iff.mp hu1).1; omega
      have haf : a ≠ df := ne_of_none la0 ndf
      refine ⟨.ref dw, rfl, .int u, rfl, dw, .ref a, rfl, dget_same s2 ga, a, rfl, ⟨_, .inl (.inl la)⟩, for_list (K := K) (a := a) (xs := (nx W u).map V.int)
        (fun j σ H2 => ∃ (xs : List V) (ps : List (Int × Int)) (v6 : Option V), σ = [some (.int e), some (.ref dw), some (.ref dl), some (.int u), some (.ref dp), some (.ref df), v6, none] ∧ St (3 * i + j) xs ps H2 ∧ H2 a = some (.lst ((nx W u).map V.int)) ∧
          ∀ u' v, (u', v) ∈ ps ↔ (u' ∈ (line W e).take i ∧ v ∈ nx W u' ∧ (line W e).idxOf v ≤ (line W e).idxOf u') ∨ (u' = u ∧ v ∈ (nx W u).take j ∧ (line W e).idxOf v ≤ (line W e).idxOf u))
        ⟨xs, ps, v6, rfl, ⟨s2, hf, hps, hpl⟩, la, fun u' v => by rw [hin]; simp⟩ (fun j σ H2 _ ⟨_, _, _, _, _, s3, _⟩ => .inl (.inl s3)) (fun j y σ H2 hy hI2 => ?_) (fun σ H2 hI2 => ?_)⟩
      · obtain ⟨xs, ps, v6, rfl, ⟨s3, hf, hps, hpl⟩, la2, hin2⟩ := hI2
        obtain ⟨v, hv, rfl⟩ := map_int_at hy
        have hvs : v ∈ nx W u := List.mem_of_getElem? hv
        have hvl : v ∈ line W e := G.ord.clo u v hul hvs
        have hj3 : j < 3 := by have := (List.getElem?_eq_some_iff.mp hv).1; have := G.deg u; omega
        have hpm := hp.same s3
        have gv := hpm.get v
        have gu := hpm.get u
        rw [if_pos hvl] at gv
        rw [if_pos hul] at gu
        refine ⟨.ref dp, rfl, .int v, rfl, dp, _, rfl, gv, .ref dp, rfl, .int u, rfl, dp, _, rfl, gu, _, _, rfl, rfl, _, rfl, iteD (fun hle => ?_) (fun hgt => ?_)⟩
        · have hle : (line W e).idxOf v ≤ (line W e).idxOf u := by omega
          refine ⟨.int u, rfl, .int v, rfl, by show 2 ≤ sizeLine; decide, fun T nT => ?_⟩
          have sT := same_upd (o := .tup [V.int u, .int v]) nT
          have hT : (upd H2 T (.tup [V.int u, .int v])) T = some (.tup [V.int u, .int v]) := upd_same
          have s3' := s3.trans sT
          have hf' := sT _ _ hf
          have hps' := hps.same sT
          have la3 := sT _ _ la2
          generalize upd H2 T (.tup [V.int u, .int v]) = H3 at hT s3' hf' hps' la3
          refine ⟨.ref df, rfl, T, df, (u, v), xs, ps, rfl, rfl, hT, .inl (.inl hf'), hps', _, rfl, iteN (fun hno => ?_) (fun hyes => ?_)⟩
          · refine ⟨.ref df, rfl, .inl ⟨rfl, _, .inl (.inl hf')⟩, .int u, rfl, .int v, rfl, by show 2 ≤ sizeLine; decide, fun T2 nT2 => ?_⟩
            have sT2 := same_upd (o := .tup [V.int u, .int v]) nT2
            have hT2 : (upd H3 T2 (.tup [V.int u, .int v])) T2 = some (.tup [V.int u, .int v]) := upd_same
            have s4 := s3'.trans sT2
            have hf4 := sT2 _ _ hf'
            have hps4 := hps'.same sT2
            have la4 := sT2 _ _ la3
            generalize upd H3 T2 (.tup [V.int u, .int v]) = H4 at hT2 s4 hf4 hps4 la4
            refine ⟨df, xs, .ref T2, rfl, rfl, hf4, by rw [hps4.len]; exact small9 (by omega), ?_⟩
            have hpu := (hps4.snoc (p := (u, v)) hT2).upd (o := .lst (xs ++ [.ref T2])) hf4 (fun _ z => by cases z)
            refine ⟨_, _, _, rfl, ⟨same_mut s4 ndf, upd_same, hpu, by rw [List.length_append, List.length_singleton]; omega⟩, by rw [upd_ne haf]; exact la4, fun u' v' => ?_⟩
            rw [List.mem_append, hin2, List.mem_singleton, List.take_add_one, hv, List.mem_append]
            simp only [Option.toList_some, List.mem_singleton, Prod.mk.injEq]
            constructor
            · rintro ((h | ⟨h1, h2, h3⟩) | ⟨h1, h2⟩)
              · exact .inl h
              · exact .inr ⟨h1, .inl h2, h3⟩
              · exact .inr ⟨h1, .inr h2, by rw [h2]; exact hle⟩
            · rintro (h | ⟨h1, h2 | h2, h3⟩)
              · exact .inl (.inl h)
              · exact .inl (.inr ⟨h1, h2, h3⟩)
              · exact .inr ⟨h1, h2⟩
          · refine ⟨xs, ps, _, rfl, ⟨s3', hf', hps', by omega⟩, la3, fun u' v' => ?_⟩
            rw [hin2, List.take_add_one, hv, List.mem_append]
            simp only [Option.toList_some, List.mem_singleton]
            constructor
            · rintro (h | ⟨h1, h2, h3⟩)
              · exact .inl h
              · exact .inr ⟨h1, .inl h2, h3⟩
            · rintro (h | ⟨h1, h2 | h2, h3⟩)
              · exact .inl h
              · exact .inr ⟨h1, h2, h3⟩
              · rw [h1, h2]; exact (hin2 u v).mp hyes
        · refine ⟨xs, ps, _, rfl, ⟨s3, hf, hps, by omega⟩, la2, fun u' v' => ?_⟩
          rw [hin2, List.take_add_one, hv, List.mem_append]
          simp only [Option.toList_some, List.mem_singleton]
          constructor
          · rintro (h | ⟨h1, h2, h3⟩)
            · exact .inl h
            · exact .inr ⟨h1, .inl h2, h3⟩
          · rintro (h | ⟨h1, h2 | h2, h3⟩)
            · exact .inl h
            · exact .inr ⟨h1, h2, h3⟩
            · rw [h2] at h3; exact absurd (by omega) hgt
      · obtain ⟨xs, ps, v6, rfl, ⟨s3, hf, hps, hpl⟩, _, hin2⟩ := hI2
        rw [List.length_map] at hpl hin2
        have := G.deg u
        refine ⟨xs, ps, _, _, rfl, ⟨s3, hf, hps, by omega⟩, fun u' v => ?_⟩
        rw [hin2, List.take_length, List.take_add_one, hu1, List.mem_append]
        simp only [Option.toList_some, List.mem_singleton]
        constructor
        · rintro (⟨h1, h2⟩ | ⟨h1, h2⟩)
          · exact ⟨.inl h1, h2⟩
          · rw [h1]; exact ⟨.inr rfl, h2⟩
        · rintro ⟨h1 | h1, h2⟩
          · exact .inl ⟨h1, h2⟩
          · rw [h1] at h2; exact .inr ⟨h1, h2⟩
    · obtain ⟨xs, ps, v3, v6, rfl, ⟨s2, hf, hps, hpl⟩, hin⟩ := hI
      rw [List.length_map] at hpl hin
      rw [List.take_length] at hin
      exact ⟨.ref df, rfl, k H' df (sHb.trans s2) (sHb.free ndf) ⟨xs, ps, hf, hps, by omega, hin⟩⟩
end
end BT
namespace BT
open PySem PySem.Spec PyProof.Rows L2
/-! ### C() where C has no __init__ of its own -/
structure MkP (K : PySem.W.Frag) (C : Addr) : Prop where
  makes : PySem.W.makesIn K C = true
  init : PySem.W.findIn K (.ref C) "__init__" = some (some (.builtin "object.__init__"))
  kp : PySem.W.keepIn K (.ref C) = true
def tPlain (C : Addr) : TE := fun σ H Q => ∀ x dx, H x = none → H dx = none → dx ≠ x → Q (.ref x) (upd (upd H dx (.own x)) x (.ins C dx []))
section
variable {X : Cx} {C : Addr} {x : Str} {p pos : Pos}
theorem pe_plain (M : MkP X.K C) (hg : Gl X x) (hm : X.mg x = some (.ref C)) (hdb : (x == ("__debug__" : Str)) = false := by decide) : PE X (.Call (.Name x p) [] [] pos) (tPlain C) := by
  refine ⟨fun pins s σ H Q I h => ?_⟩
  refine wpAny_Call_Name_kw (ld_glob I hg hm ?_ hdb)
  refine PySem.W.callWith_K0 I.kIn M.kp (wpAny_call ?_)
  have I2 := Inv.made (C := C) I
  have hq := h (s.heap.objs.size + 1) s.heap.objs.size (I.hok.fresh (Nat.le_succ _)) (I.hok.fresh (Nat.le_refl _)) (Nat.ne_of_lt (Nat.lt_succ_self _))
  refine make_map0 I.kIn M.makes M.init (fun self => PySem.W.Looks.of_pure (PySem.W.oi_bind self)) ?_
  have Y := PySem.W.makes_of (M := model X.prog X.w) I.kIn M.makes
  have e2 : ((s.heap.push PySem.W.emptyDict).push (PySem.W.instObj C s.heap.objs.size)).get? (s.heap.objs.size + 1) = some (PySem.W.instObj C s.heap.objs.size) := by
    have := Heap.get?_push_size (s.heap.push PySem.W.emptyDict) (o := PySem.W.instObj C s.heap.objs.size) rfl
    rwa [Heap.size_push] at this
  have t1 : PySem.W.Looks (model X.prog X.w) ((s.heap.push PySem.W.emptyDict).push (PySem.W.instObj C s.heap.objs.size)) (typeOf (.ref (s.heap.objs.size + 1))) (.ref C) := (PySem.W.Looks.ld e2).andThen .now
  have t2 : PySem.W.Looks (model X.prog X.w) ((s.heap.push PySem.W.emptyDict).push (PySem.W.instObj C s.heap.objs.size)) (isInstance (.ref (s.heap.objs.size + 1)) (.type "object")) true := t1.andThen (Y.top.keeps fun b o e => Heap.get?_push_of_some _ (Heap.get?_push_of_some _ e))
  refine codeAny_call_builtin PySem.W.oi_plain PySem.W.entry_oi (@PySem.W.check_slot (model X.prog X.w) _ _ _ "object.__init__" "object" "__init__" (.ref (s.heap.objs.size + 1)) [] [] _ PySem.W.oi_kind PySem.W.oi_split t2 (PySem.W.oi_args (.ref (s.heap.objs.size + 1))) ?_)
  rw [PySem.W.oi_run]
  exact wpAny_pure (And.intro rfl ⟨V.ref (s.heap.objs.size + 1), _, I2, rfl, hq⟩)
end
/-! ### the classes -/
structure CK (K : PySem.W.Frag) (C : Addr) : Prop where
  cl : Cls K C
  ha : PySem.W.findIn K (.ref C) "__class__" = some (some (.builtin "object.__class__"))
  hn : PySem.W.specialIn K (.builtin "object.__class__") "__get__" = some (some (.builtin "getset_descriptor.__get__"))
  htk : PySem.W.takesIn K (.builtin "object.__class__") = some true
  hm : PySem.W.mroIn K C (.type "object") = some true
theorem CK.ty {K : PySem.W.Frag} {C : Addr} (c : CK K C) {H : Hp} {a dx : Addr} {fs : List (Str × V)} (e : H a = some (.ins C dx fs)) : TyX K H (.ref a) (.ref C) := .base (.ins e c.cl c.ha c.hn c.htk c.hm)
structure TX (K : PySem.W.Frag) (mg : Str → Option Value) (cG cP cT : Addr) : Prop where
  g : CK K cG
  p : CK K cP
  t : CK K cT
  mgG : mg "Graph" = some (.ref cG)
  mgP : mg "Plain" = some (.ref cP)
  mgT : mg "Twist" = some (.ref cT)
  gg : PySem.W.kitOne K (.ref cG) (.ref cG) = some true
  pp : PySem.W.kitOne K (.ref cP) (.ref cP) = some true
  tt : PySem.W.kitOne K (.ref cT) (.ref cT) = some true
  pt : PySem.W.kitOne K (.ref cP) (.ref cT) = some false
  tp : PySem.W.kitOne K (.ref cT) (.ref cP) = some false
  nE : NoAttr K cG "entry"
  nB : NoAttr K cG "blocks"
  nW : NoAttr K cG "ways"
  nR : NoAttr K cT "ring"
  n1 : NoAttr K cT "one"
  n2 : NoAttr K cT "other"
  isi : mg "isinstance" = none
  len : mg "len" = none
  list : mg "list" = none
  all : mg "all" = none
  any : mg "any" = none
  zip : mg "zip" = none
/-! ### a graph -/
def GraphAt (cG : Addr) (H : Hp) (g : Addr) (e : Int) (dw : Addr) (W : Ways) : Prop :=
  ∃ dx fs db, H g = some (.ins cG dx fs) ∧ fs.lookup ("entry" : Str) = some (.int e) ∧ fs.lookup ("blocks" : Str) = some (.ref db) ∧ fs.lookup ("ways" : Str) = some (.ref dw) ∧ (∃ B, WaysAt H db B ∧ ks B = ks W) ∧ WaysAt H dw W
theorem GraphAt.same {cG : Addr} {H H' : Hp} (s : Same H H') {g : Addr} {e : Int} {dw : Addr} {W : Ways} (h : GraphAt cG H g e dw W) : GraphAt cG H' g e dw W := by
  obtain ⟨dx, fs, db, h1, h2, h3, h4, ⟨B, h5, h6⟩, h7⟩ := h
  exact ⟨dx, fs, db, s _ _ h1, h2, h3, h4, ⟨B, h5.same s, h6⟩, h7.same s⟩
end BT
namespace BT
open PySem PyProof.Rows L2
abbrev sIsGr : Stmt := top 5
abbrev nIsGr : List Str := ["thing", "other", "others"]
theorem scIsGr : FnScope nIsGr ["thing"] (defScope sIsGr) := ⟨rfl, rfl, rfl, by decide +kernel, rfl, by decide +kernel, by decide +kernel⟩
/-- is_graph, of a graph as it is to be -/
def spIsGr (cG : Addr) : Sp := fun vs H Q _ => ∃ (g : Addr) (e : Int) (dw : Addr) (W : Ways), vs = [.ref g] ∧ GraphAt cG H g e dw W ∧ GOk W e ∧ ∀ H', Same H H' → Q (.bl true) H'
theorem wp_keys_int {H : Hp} {kvs : List (Key × V)} {W : Ways} (h : WP H kvs W) : (kvs.map fun kv => kV kv.1) = (ks W).map V.int := by
  have := congrArg (List.map kV) h.keys
  rw [List.map_map, List.map_map] at this
  exact this
theorem all_true {bs : List Bool} (h : ∀ b, b ∈ bs → b = true) : bs.all id = true := by
  rw [List.all_eq_true]
  exact fun b hb => h b hb
section
variable {P : Program} {w : World} {K : PySem.W.Frag} {mg : Str → Option Value} {base : Heap} {cG cP cT : Addr}
theorem ok_isgr (D : Df K mg "is_graph" sIsGr ["thing"]) (T : TX K mg cG cP cT) (cO : C8.Cal P w K mg base 1 "order_by" spOrder []) :
    C8.Cal P w K mg base 2 "is_graph" (spIsGr cG) [] := by
  refine D.ok scIsGr (fun vs H Q E h => ?_) (fun f cdv A outer s H vs Q E hr h => ?_)
  · obtain ⟨_, _, _, _, rfl, _⟩ := h
    rfl
  · obtain ⟨g, e, dw, W, rfl, hG, G, k⟩ := h
    have hu := hu_of hr
    have hu4 := hr.units
    have nd := scIsGr.nd
    refine ⟨_, pss_cons (ps_if (PW.pt (pw_or (pt_not (pt_val (pe_callB call_isi (by rfl) T.isi boot_isinstance (pa_cons (pv 0) (pa_cons (pe_glob (by rfl) T.mgG (v := .ref cG) rfl) pa_nil)))))
          (pw_or (pt_cmp (pc_dnotin hu (pe_fld (pv 0) rfl) (pe_fld (pv 0) rfl)))
          (pw_or1 (pt_cmpR (op_neInts hu4) (pe_callTy (call_list_dK rfl) (by rfl) T.list boot_list (pa_cons (pe_fld (pv 0) rfl) pa_nil)) (pe_callTy (call_list_dK rfl) (by rfl) T.list boot_list (pa_cons (pe_fld (pv 0) rfl) pa_nil)) (by rfl))))))
        (pss_one (ps_ret pe_bl)) pss_nil)
      (pss_cons (ps_if (pt_not (pt_val (pe_callB (cr_all rfl) (by rfl) T.all boot_all (pa_cons (pe_lock (pe_lc2 (wi1 := iList K (tVar 2)) (te := tOp rDIn (tVar 1) (tFld K (tVar 0) "ways")) (own := [("others", 2), ("other", 1)]) (vs1 := [1]) (g := gName 2) (g1 := gName 1) rfl nd (pi_values (pe_fld (pv 0) rfl))
          (blkOk_by (own := [("others", 2), ("other", 1)]) (N := nIsGr) (sc := defScope sIsGr) (by decide +kernel)) (by decide)
          (fun _ _ _ _ _ => pg_name (i := 2) nd rfl (Or.inl rfl)) (fun _ _ _ _ _ => pts_nil) (fun _ _ _ _ _ => pi_list (pv 2)) (fun _ _ _ _ _ => pg_name (i := 1) nd rfl (Or.inl rfl)) (fun _ _ _ _ _ => pts_nil)
          (fun _ _ _ _ _ => pe_cmpR (op_din hu) (pv 1) (pe_fld (pv 0) rfl) (by rfl)))) pa_nil))))
        (pss_one (ps_ret pe_bl)) pss_nil)
      (pss_one (ps_ret (pe_cmpR op_eq (pe_callB call_len_seq (by rfl) T.len PySem.boot_len (pa_cons (C8.pe_c cO hr (by decide) (by rfl) (pa_cons (pe_fld (pv 0) rfl) (pa_cons (pe_fld (pv 0) rfl) pa_nil))) pa_nil)) (pe_callB call_lenD (by rfl) T.len PySem.boot_len (pa_cons (pe_fld (pv 0) rfl) pa_nil)) (by rfl))))), ?_⟩
    obtain ⟨dx, fs, db, hg, fE, fB, fW, ⟨B, hB, hBk⟩, hW⟩ := id hG
    obtain ⟨kB, hBd, wB⟩ := id hB
    obtain ⟨kw, hWd, wp⟩ := id hW
    have hlen := G.len
    have hkl := wp.len
    refine ⟨.ref g, rfl, .ref g, .ref cG, .ref cG, .ref cG, true, rfl, .own cG, T.g.ty hg, T.gg, ⟨true, rfl, iteF ?_⟩⟩
    obtain ⟨a0, ga0, _⟩ := hW.get G.ent
    refine ⟨.ref g, rfl, g, cG, dx, fs, .int e, rfl, hg, T.g.cl, T.nE, fE, .ref g, rfl, g, cG, dx, fs, .ref dw, rfl, hg, T.g.cl, T.nW, fW, dw, _, rfl, ga0, false, rfl, iteF ?_⟩
    refine ⟨.ref g, rfl, g, cG, dx, fs, .ref dw, rfl, hg, T.g.cl, T.nW, fW, dw, kw, rfl, hWd, fun q1 n1 => ?_⟩
    rw [wp_keys_int wp]
    have s1 := same_upd (o := .lst ((ks W).map V.int)) n1
    have h1 : (upd H q1 (.lst ((ks W).map V.int))) q1 = some (.lst ((ks W).map V.int)) := upd_same
    generalize upd H q1 (.lst ((ks W).map V.int)) = H1 at s1 h1
    refine ⟨.ref g, rfl, g, cG, dx, fs, .ref db, rfl, s1 _ _ hg, T.g.cl, T.nB, fB, db, kB, rfl, s1 _ _ hBd, fun q2 n2 => ?_⟩
    rw [wp_keys_int wB, hBk]
    have s2 := s1.trans (same_upd (o := .lst ((ks W).map V.int)) n2)
    have h2 : (upd H1 q2 (.lst ((ks W).map V.int))) q2 = some (.lst ((ks W).map V.int)) := upd_same
    have h1' := same_upd (o := .lst ((ks W).map V.int)) n2 _ _ h1
    generalize upd H1 q2 (.lst ((ks W).map V.int)) = H2 at s2 h2 h1'
    refine ⟨q1, q2, _, _, rfl, rfl, .inl (.inl h1'), .inl (.inl h2), _, rfl, ?_⟩
    refine iteN (fun z => absurd rfl z) (fun _ => ?_)
    -- all([..])
    refine ⟨dw, .dK kw, s2 _ _ hWd, True.intro, fun od => ?_⟩
    have nwg : g ≠ dw := ne_of hg hWd (fun z => by cases z)
    have hgl : (upd H2 dw (.frz od (.dK kw))) g = some (.ins cG dx fs) := by rw [upd_ne nwg]; exact s2 _ _ hg
    refine ⟨.ref g, rfl, g, cG, dx, fs, .ref dw, rfl, hgl, T.g.cl, T.nW, fW, dw, od, kw, rfl, upd_same, fun Dn nD => ?_⟩
    obtain ⟨nD0, nDw⟩ := lock_free nD
    have wpl : WP (upd H2 dw (.frz od (.dK kw))) kw W := (wp.same s2).lock (s2 _ _ hWd)
    have rdW : ∀ {H'}, Same (upd H2 dw (.frz od (.dK kw))) H' → WaysRd H' dw W := fun s => ⟨kw, .inr ⟨od, s _ _ upd_same⟩, wpl.same s⟩
    let St : Nat → Hp → Prop := fun c H' => Same (upd H2 dw (.frz od (.dK kw))) H' ∧ ∃ bs : List Bool, H' Dn = some (.lst (bs.map V.bl)) ∧ bs.length ≤ c ∧ ∀ b, b ∈ bs → b = true
    refine ⟨fun i m H' => m + i = kw.length ∧ St (3 * i) H', ⟨kw.length, Nat.add_zero _, same_upd nD, [], upd_same, Nat.le_refl _, fun b hb => by simp at hb⟩, fun i m H' hI => ?_⟩
    obtain ⟨hm, s3, bs, hbs, hbl, hbt⟩ := hI
    by_cases lt : i < kw.length
    · refine .inr ⟨⟨s3 _ _ upd_same, lt⟩, St (3 * (i + 1)), fun H3 h3 => ⟨m - 1, by omega, by omega, h3⟩, ?_⟩
      rintro x H3 ⟨rfl, key, hkv⟩
      obtain ⟨p, a, hp, rfl, rfl, ha0⟩ := wpl.at_ hkv
      have hqn : nx W p.1 = p.2 := nx_at G.nd hp
      have hqk : p.1 ∈ ks W := List.mem_map.mpr ⟨p, List.mem_of_getElem? hp, rfl⟩
      have hq3 : p.2.length ≤ 3 := by rw [← hqn]; exact G.deg _
      have hia : i < 9 := by omega
      refine ⟨rfl, .ref a, rfl, a, rfl, ⟨_, .inl (.inl (s3 _ _ ha0))⟩, ?_⟩
      refine ⟨fun j m1 H' => m1 + j = p.2.length ∧ St (3 * i + j) H', ⟨p.2.length, Nat.add_zero _, s3, bs, hbs, hbl, hbt⟩, fun j m1 H' hJ => ?_⟩
      obtain ⟨hm1, s4, cs, hcs, hcl, hct⟩ := hJ
      have hla : SqL K H' a (p.2.map V.int) := .inl (.inl (s4 _ _ ha0))
      by_cases lt1 : j < p.2.length
      · refine .inr ⟨⟨_, .int p.2[j], hla, by simp [lt1]⟩, St (3 * i + (j + 1)), fun H4 h4 => ⟨m1 - 1, by omega, by omega, h4⟩, ?_⟩
        rintro x H4 ⟨rfl, hy⟩
        have hy := hy _ hla
        obtain ⟨o, ho, rfl⟩ := map_int_at hy
        have hok : o ∈ ks W := G.clo p.1 o hqk (by rw [hqn]; exact List.mem_of_getElem? ho)
        obtain ⟨r, hr, hrs⟩ := (rdW s4).isin o
        rw [decide_eq_true hok] at hrs
        refine ⟨rfl, .int o, rfl, .ref g, rfl, g, cG, dx, fs, .ref dw, rfl, (s4 _ _ hgl), T.g.cl, T.nW, fW, dw, r, rfl, hr, ?_⟩
        rw [hrs]
        refine ⟨_, hcs, by rw [List.length_map]; exact small9 (by omega), same_mut s4 nD, cs ++ [true], by rw [upd_same, List.map_append]; rfl, by rw [List.length_append, List.length_singleton]; omega, fun b hb => ?_⟩
        rcases List.mem_append.mp hb with z | z
        · exact hct b z
        · simpa using z
      · refine .inl ⟨⟨_, hla, by rw [List.length_map]; omega⟩, s4, cs, hcs, by omega, hct⟩
    · refine .inl ⟨⟨s3 _ _ upd_same, by omega⟩, s3 _ _ upd_same, Dn, bs, rfl, .inl (.inl ?_), ?_⟩
      · rw [upd_ne nDw]; exact hbs
      · rw [all_true hbt]
        refine ⟨true, rfl, iteF ?_⟩
        have s5 : Same H (upd H' dw (.dK kw)) := same_unlock hWd (by
          intro b o hb
          refine s3 b o ?_
          by_cases eb : b = dw
          · rw [eb, upd_same] at hb ⊢; exact hb
          · rw [upd_ne eb] at hb ⊢; exact s2 _ _ hb)
        generalize upd H' dw (.dK kw) = H5 at s5
        refine ⟨.ref g, rfl, g, cG, dx, fs, .int e, rfl, (s5 _ _ hg), T.g.cl, T.nE, fE, .ref g, rfl, g, cG, dx, fs, .ref dw, rfl, (s5 _ _ hg), T.g.cl, T.nW, fW, e, dw, W, rfl, hW.same s5, G, fun H6 q s6 nq hq => ?_⟩
        refine ⟨q, _, rfl, .inl (.inl (.inl hq)), .ref g, rfl, g, cG, dx, fs, .ref dw, rfl, ((s5.trans s6) _ _ hg), T.g.cl, T.nW, fW, dw, kw, rfl, (s5.trans s6) _ _ hWd, rfl, ?_⟩
        have e1 : decide (V.int ((((line W e).map V.int).length : Nat) : Int) = V.int (kw.length : Nat)) = true := by
          rw [List.length_map, G.line_len, hkl]
          exact decide_eq_true rfl
        rw [e1]
        exact k H6 (s5.trans s6)
end
end BT
namespace BT
open PySem PySem.Spec PyProof.Rows L2
/-- a method of a class of the text -/
structure Mf (K : PySem.W.Frag) (C : Addr) (m qual : Str) (st : Stmt) (ps : List Str) : Prop where
  ex : ∃ (f : Addr) (fd : FuncData), Cls K C ∧ Meth K C m f ∧ Fun K m qual st f fd ∧ Binds K fd ps []
/-- an __init__ -/
structure If (K : PySem.W.Frag) (mg : Str → Option Value) (x : Str) (C : Addr) (qual : Str) (st : Stmt) (ps : List Str) : Prop where
  ex : ∃ (f : Addr) (fd : FuncData), Mk K C f ∧ Fun K "__init__" qual st f fd ∧ mg x = some (.ref C) ∧ Binds K fd ps []
section
variable {P : Program} {w : World} {K : PySem.W.Frag} {mg : Str → Option Value} {base : Heap}
theorem Mf.ok {m qual : Str} {C : Addr} {st : Stmt} {N ps : List Str} {k : Nat} {sp : Sp} (F : Mf K C m qual st ps) (S : FnScope N ps (defScope st)) (len : ∀ vs H Q E, sp vs H Q E → vs.length = ps.length)
    (hbody : ∀ (f : Addr) (cdv : Value) (A : Around) (outer : List Env) (s : Shared) (H : Hp) (vs : List V) (Q : VK) (E : XK), Room k (A.deeper (PyProof.Rows.envOfC qual (defScope st) s.heap.objs.size f cdv)) → sp vs H Q E →
      ∃ t, PSs (cxOf CX0 P w K mg base N qual (defScope st) f cdv A outer s H E).nox (defBody st) t ∧ t { nx := fun _ H' => Q .non H', rt := Q } (start N vs) H) : C8.Met P w K mg base (k + 1) C m sp [] := by
  obtain ⟨f, fd, c, me, F, b⟩ := F.ex
  exact ⟨f, fd, ps, [], c, me, F.ok S len (hbody f), b, .nil⟩
theorem If.ok {x qual : Str} {C : Addr} {st : Stmt} {N ps : List Str} {k : Nat} {sp : Sp} (F : If K mg x C qual st ps) (S : FnScope N ps (defScope st)) (len : ∀ vs H Q E, sp vs H Q E → vs.length = ps.length)
    (hbody : ∀ (f : Addr) (cdv : Value) (A : Around) (outer : List Env) (s : Shared) (H : Hp) (vs : List V) (Q : VK) (E : XK), Room k (A.deeper (PyProof.Rows.envOfC qual (defScope st) s.heap.objs.size f cdv)) → sp vs H Q E →
      ∃ t, PSs (cxOf CX0 P w K mg base N qual (defScope st) f cdv A outer s H E).nox (defBody st) t ∧ t { nx := fun _ H' => Q .non H', rt := Q } (start N vs) H) : C8.Mak P w K mg base (k + 1) x C sp [] := by
  obtain ⟨f, fd, M, F, hm, b⟩ := F.ex
  exact ⟨f, fd, ps, [], M, F.ok S len (hbody f), hm, b, .nil⟩
/-! ### check_graph -/
abbrev sCheck : Stmt := top 6
theorem scCheck : FnScope ["thing"] ["thing"] (defScope sCheck) := ⟨rfl, rfl, rfl, by decide +kernel, rfl, by decide +kernel, by decide +kernel⟩
def spCheck (cG : Addr) : Sp := fun vs H Q _ => ∃ (g : Addr) (e : Int) (dw : Addr) (W : Ways), vs = [.ref g] ∧ GraphAt cG H g e dw W ∧ GOk W e ∧ ∀ H', Same H H' → Q .non H'
theorem ok_check {cG : Addr} (D : Df K mg "check_graph" sCheck ["thing"]) (cI : C8.Cal P w K mg base 2 "is_graph" (spIsGr cG) []) : C8.Cal P w K mg base 3 "check_graph" (spCheck cG) [] := by
  refine D.ok scCheck (fun vs H Q E h => ?_) (fun f cdv A outer s H vs Q E hr h => ?_)
  · obtain ⟨_, _, _, _, rfl, _⟩ := h
    rfl
  · obtain ⟨g, e, dw, W, rfl, hG, G, k⟩ := h
    refine ⟨_, pss_one (ps_if (pt_not (pt_val (C8.pe_c cI hr (by decide) (by rfl) (pa_cons (pv 0) pa_nil)))) pss_never pss_nil), ?_⟩
    exact ⟨.ref g, rfl, g, e, dw, W, rfl, hG, G, fun H' s1 => ⟨true, rfl, iteF (k H' s1)⟩⟩
/-! ### Graph.__init__ -/
abbrev sGInit : Stmt := inClass (top 4) 0
abbrev nGInit : List Str := ["self", "entry", "blocks", "ways", "begin", "places", "others"]
theorem scGInit : FnScope nGInit ["self", "entry", "blocks", "ways"] (defScope sGInit) := ⟨rfl, rfl, rfl, by decide +kernel, rfl, by decide +kernel, by decide +kernel⟩
def spGInit (cG : Addr) : Sp := fun vs H Q _ => ∃ (p dx : Addr) (e : Int) (db dw : Addr) (B W : Ways), vs = [.ref p, .int e, .ref db, .ref dw] ∧ H p = some (.ins cG dx []) ∧ WaysAt H db B ∧ WaysAt H dw W ∧ ks B = ks W ∧ (ks W).Nodup ∧ W.length ≤ 9 ∧
  (∀ H' d', (∀ b o, H b = some o → b ≠ p → H' b = some o) → (∀ z H'', z ≠ p → H z ≠ none → (∀ b o, H' b = some o → b ≠ z → H'' b = some o) → GraphAt cG H'' p e d' W) → GraphAt cG H' p e d' W → Q .non H')
/-- list(..) -/
def rListOf (K : PySem.W.Frag) : List V → Hp → VK → Prop := fun xs H Q => ∃ p ys, xs = [.ref p] ∧ (SqL K H p ys ∨ SqT K H p ys) ∧ ∀ l, H l = none → Q (.ref l) (upd H l (.lst ys))
theorem WP.snoc {H : Hp} {kvs : List (Key × V)} {W : Ways} (h : WP H kvs W) {p : Int × List Int} {a : Addr} (ha : H a = some (.lst (p.2.map V.int))) : WP H (kvs ++ [(Sum.inl p.1, .ref a)]) (W ++ [p]) := by
  induction h with
  | nil => exact .cons ⟨rfl, a, rfl, ha⟩ .nil
  | cons h t ih => exact .cons h ih
theorem WP.val_none {H : Hp} {kvs : List (Key × V)} {W : Ways} (h : WP H kvs W) {b : Int} (hb : b ∉ ks W) : valV kvs (Sum.inl b : Key) = none := by
  rcases h.get b with ⟨_, h2⟩ | ⟨h1, _⟩
  · exact h2
  · exact absurd h1 hb
theorem ks_take {W : Ways} {i : Nat} : ks (W.take i) = (ks W).take i := by rw [ks, ks, List.map_take]
theorem not_in_take {W : Ways} (nd : (ks W).Nodup) {i : Nat} {p : Int × List Int} (h : W[i]? = some p) : p.1 ∉ ks (W.take i) := by
  rw [ks_take]
  intro hm
  obtain ⟨j, hj⟩ := List.getElem?_of_mem hm
  rw [List.getElem?_take] at hj
  have hpk : (ks W)[i]? = some p.1 := by rw [List.getElem?_map, h]; rfl
  by_cases hji : j < i
  · rw [if_pos hji] at hj
    have := nd_ix nd hj hpk
    omega
  · rw [if_neg hji] at hj; cases hj
end
end BT
namespace BT
open PySem PySem.Spec PyProof.Rows L2
section
variable {P : Program} {w : World} {K : PySem.W.Frag} {mg : Str → Option Value} {base : Heap} {cG : Addr}
theorem be_n : ¬ (("blocks" : Str) = "entry") := by decide +kernel
theorem we_n : ¬ (("ways" : Str) = "entry") := by decide +kernel
theorem bw_n : ¬ (("blocks" : Str) = "ways") := by decide +kernel
theorem putF_le (f : Str) (v : V) : ∀ fs : List (Str × V), (putF f v fs).length ≤ fs.length + 1
  | [] => Nat.le_refl _
  | (g, x) :: r => by
    show (if g = f then (g, v) :: r else (g, x) :: putF f v r).length ≤ r.length + 1 + 1
    by_cases h : g = f
    · rw [if_pos h, List.length_cons]; omega
    · rw [if_neg h, List.length_cons]
      have := putF_le f v r
      omega
/-- the entries of a dict of new lists -/
abbrev WPf (Hs H : Hp) : List (Key × V) → Ways → Prop := Paired fun kv p => kv.1 = Sum.inl p.1 ∧ ∃ a, kv.2 = .ref a ∧ Hs a = none ∧ H a = some (.lst (p.2.map V.int))
theorem WPf.wp {Hs H : Hp} {kvs : List (Key × V)} {W : Ways} (h : WPf Hs H kvs W) : WP H kvs W := by
  induction h with
  | nil => exact .nil
  | cons h t ih =>
    obtain ⟨h1, a, h2, _, h4⟩ := h
    exact .cons ⟨h1, a, h2, h4⟩ ih
theorem WPf.same {Hs H H' : Hp} (e : Same H H') {kvs : List (Key × V)} {W : Ways} (h : WPf Hs H kvs W) : WPf Hs H' kvs W := by
  induction h with
  | nil => exact .nil
  | cons h t ih =>
    obtain ⟨h1, a, h2, h3, h4⟩ := h
    exact .cons ⟨h1, a, h2, h3, e _ _ h4⟩ ih
theorem WPf.snoc {Hs H : Hp} {kvs : List (Key × V)} {W : Ways} (h : WPf Hs H kvs W) {p : Int × List Int} {a : Addr} (h1 : Hs a = none) (ha : H a = some (.lst (p.2.map V.int))) : WPf Hs H (kvs ++ [(Sum.inl p.1, .ref a)]) (W ++ [p]) := by
  induction h with
  | nil => exact .cons ⟨rfl, a, rfl, h1, ha⟩ .nil
  | cons h t ih => exact .cons h ih
theorem WPf.lock {Hs H : Hp} {d : Addr} {kvs0 : List (Key × V)} {x : HO} (hd : H d = some (.dK kvs0)) {kvs : List (Key × V)} {W : Ways} (h : WPf Hs H kvs W) : WPf Hs (upd H d x) kvs W := by
  induction h with
  | nil => exact .nil
  | cons h t ih =>
    obtain ⟨h1, a, h2, h3, h4⟩ := h
    refine .cons ⟨h1, a, h2, h3, ?_⟩ ih
    rw [upd_ne (ne_of h4 hd (fun z => by cases z))]
    exact h4
theorem WPf.keep {Hs H H' : Hp} {z : Addr} (hz : Hs z ≠ none) (k : ∀ b o, H b = some o → b ≠ z → H' b = some o) {kvs : List (Key × V)} {W : Ways} (h : WPf Hs H kvs W) : WPf Hs H' kvs W := by
  induction h with
  | nil => exact .nil
  | cons h t ih =>
    obtain ⟨h1, a, h2, h3, h4⟩ := h
    exact .cons ⟨h1, a, h2, h3, k _ _ h4 (fun e => hz (by rw [← e]; exact h3))⟩ ih
theorem wpf_k {Hs H0 H1 : Hp} (hk : ∀ b xs, H0 b = some (.lst xs) → H1 b = some (.lst xs)) {kvs : List (Key × V)} {W : Ways} (h : WPf Hs H0 kvs W) : WPf Hs H1 kvs W := by
  induction h with
  | nil => exact .nil
  | cons h t ih =>
    obtain ⟨b1, a, b2, b3, b4⟩ := h
    exact .cons ⟨b1, a, b2, b3, hk _ _ b4⟩ ih
theorem wpk {H0 H1 : Hp} (hk : ∀ b xs, H0 b = some (.lst xs) → H1 b = some (.lst xs)) {kvs : List (Key × V)} {W : Ways} (h : WP H0 kvs W) : WP H1 kvs W := by
  induction h with
  | nil => exact .nil
  | cons h t ih =>
    obtain ⟨b1, a, b2, b3⟩ := h
    exact .cons ⟨b1, a, b2, hk _ _ b3⟩ ih
theorem ok_ginit (D : If K mg "Graph" cG "Graph.__init__" sGInit ["self", "entry", "blocks", "ways"]) (cl : Cls K cG) (nE : NoAttr K cG "entry") (nB : NoAttr K cG "blocks") (nW : NoAttr K cG "ways") (mL : mg "list" = none) :
    C8.Mak P w K mg base 1 "Graph" cG (spGInit cG) [] := by
  refine D.ok scGInit (fun vs H Q E h => ?_) (fun f cdv A outer s H vs Q E hr h => ?_)
  · obtain ⟨_, _, _, _, _, _, _, rfl, _⟩ := h
    rfl
  obtain ⟨p, dx, e, db, dw, B, W, rfl, hp, hB, hW, hBk, ndk, hlen, k⟩ := h
  have nd := scGInit.nd
  have ndB : (ks B).Nodup := by rw [hBk]; exact ndk
  have hlB : B.length ≤ 9 := by have := congrArg List.length hBk; rw [List.length_map, List.length_map] at this; omega
  refine ⟨_, pss_cons (ps_fld (pv 0) (pv 1) rfl) (C8.pss_cut (ps_lock (ps_fld (pv 0) (pe_dc (tv := tCB (rListOf K) (tCons (tVar 5) tNil)) (own := [("begin", 4), ("places", 5)]) (g := gTup K 2 (gCons (gName 4) (gCons (gName 5) gNil))) rfl nd (pi_items (pv 2)) (blkOk_by (own := [("begin", 4), ("places", 5)]) (N := nGInit) (sc := defScope sGInit) (by decide +kernel))
          (fun _ _ _ _ _ => pg_tup rfl (pgs_cons (pg_name (i := 4) nd rfl (Or.inl rfl)) (pgs_cons (pg_name (i := 5) nd rfl (Or.inl rfl)) pgs_nil))) (fun _ _ _ _ _ => pts_nil) (fun _ _ _ _ _ => pv 4) (fun _ _ _ _ _ => pe_callTy call_list_of (by rfl) mL boot_list (pa_cons (pv 5) pa_nil))) rfl))
    (pss_one (ps_lock (ps_fld (pv 0) (pe_dc (tv := tCB (rListOf K) (tCons (tVar 6) tNil)) (own := [("begin", 4), ("others", 6)]) (g := gTup K 2 (gCons (gName 4) (gCons (gName 6) gNil))) rfl nd (pi_items (pv 3)) (blkOk_by (own := [("begin", 4), ("others", 6)]) (N := nGInit) (sc := defScope sGInit) (by decide +kernel))
          (fun _ _ _ _ _ => pg_tup rfl (pgs_cons (pg_name (i := 4) nd rfl (Or.inl rfl)) (pgs_cons (pg_name (i := 6) nd rfl (Or.inl rfl)) pgs_nil))) (fun _ _ _ _ _ => pts_nil) (fun _ _ _ _ _ => pv 4) (fun _ _ _ _ _ => pe_callTy call_list_of (by rfl) mL boot_list (pa_cons (pv 6) pa_nil))) rfl)))), ?_⟩
  refine ⟨.int e, rfl, .ref p, rfl, p, cG, dx, [], rfl, hp, cl, nE, by decide, ?_⟩
  have k1 : ∀ b o, H b = some o → b ≠ p → (upd H p (.ins cG dx (putF "entry" (.int e) []))) b = some o := fun b o hb hn => by rw [upd_ne hn]; exact hb
  have hp1 : (upd H p (.ins cG dx (putF "entry" (.int e) []))) p = some (.ins cG dx (putF "entry" (.int e) [])) := upd_same
  have wk : ∀ {H0 H1 : Hp} {q : Addr} {U : Ways} {o : HO}, H0 p = some o → (∀ xs, o ≠ .lst xs) → (∀ kvs, o ≠ .dK kvs) → (∀ b o, H0 b = some o → b ≠ p → H1 b = some o) → WaysAt H0 q U → WaysAt H1 q U := fun {H0 H1 q U o} h0 hl hd hk hw => by
    obtain ⟨kvs, a1, a2⟩ := hw
    refine ⟨kvs, hk _ _ a1 (ne_of a1 h0 (fun z => hd _ z.symm)), ?_⟩
    clear a1
    induction a2 with
    | nil => exact .nil
    | cons h t ih =>
      obtain ⟨b1, a, b2, b3⟩ := h
      exact .cons ⟨b1, a, b2, hk _ _ b3 (ne_of b3 h0 (fun z => hl _ z.symm))⟩ ih
  have hB1 : WaysAt (upd H p (.ins cG dx (putF "entry" (.int e) []))) db B := wk hp (fun _ z => by cases z) (fun _ z => by cases z) k1 hB
  have hW1 : WaysAt (upd H p (.ins cG dx (putF "entry" (.int e) []))) dw W := wk hp (fun _ z => by cases z) (fun _ z => by cases z) k1 hW
  generalize upd H p (.ins cG dx (putF "entry" (.int e) [])) = H1 at k1 hp1 hB1 hW1
  have fr_H1 : ∀ b, H b ≠ none → ∀ H3 : Hp, (∀ o, H1 b = some o → ∃ o', H3 b = some o') → H3 b ≠ none := fun b hb H3 h3 => by
    obtain ⟨o, ho⟩ : ∃ o, H1 b = some o := by
      by_cases eb : b = p
      · exact ⟨_, by rw [eb]; exact hp1⟩
      · cases e9 : H b with
        | none => exact absurd e9 hb
        | some o => exact ⟨o, k1 _ _ e9 eb⟩
    obtain ⟨o', ho'⟩ := h3 o ho
    rw [ho']; exact fun z => by cases z
  refine ⟨fun σ' H' => ∃ d' kb, σ' = [some (.ref p), some (.int e), some (.ref db), some (.ref dw), none, none, none] ∧ H' p = some (.ins cG dx (putF "blocks" (.ref d') (putF "entry" (.int e) []))) ∧ (∀ b o, H1 b = some o → b ≠ p → H' b = some o) ∧ H d' = none ∧ H' d' = some (.dK kb) ∧ WPf H H' kb B, ?_, fun σ' H2 hM => ?_⟩
  · skip
    obtain ⟨kw, hd, wp⟩ := id hB1
    refine ⟨db, .dK kw, hd, True.intro, fun od => ?_⟩
    refine ⟨.ref db, rfl, db, od, kw, rfl, upd_same, fun Dn nD => ?_⟩
    obtain ⟨nD0, nDw⟩ := lock_free nD
    have wpl : WP (upd H1 db (.frz od (.dK kw))) kw B := wp.lock hd
    have npd : p ≠ db := ne_of hp1 hd (fun z => by cases z)
    have fr9 : ∀ b, H b ≠ none → ∀ H3, Same (upd H1 db (.frz od (.dK kw))) H3 → H3 b ≠ none := fun b hb H3 s3 => fr_H1 b hb _ (fun o ho => by
      by_cases eb : b = db
      · exact ⟨_, s3 _ _ (by rw [eb]; exact upd_same)⟩
      · exact ⟨_, s3 _ _ (by rw [upd_ne eb]; exact ho)⟩)
    refine dc_it walk_items (fun i H' => Same (upd H1 db (.frz od (.dK kw))) H' ∧ ∃ kv, H' Dn = some (.dK kv) ∧ WPf H H' kv (B.take i)) ?_ ?_ ?_ ?_
    · exact ⟨same_upd nD, [], upd_same, by rw [List.take_zero]; exact .nil⟩
    · rintro i H' _ ⟨s2, _⟩
      exact s2 _ _ upd_same
    · rintro i x H2 H3 hi ⟨s2, kv, hD, hkv⟩ ⟨T, kx, vx, rfl, nT, rfl, hkx, hvx⟩
      obtain ⟨⟨key, val⟩, hkw⟩ : ∃ kv, kw[i]? = some kv := ⟨_, List.getElem?_eq_getElem hi⟩
      have hkx : (kw[i]?.map fun kv => kV kv.1) = some kx := hkx
      have hvx : kw[i]?.map Prod.snd = some vx := hvx
      rw [hkw] at hkx hvx
      obtain ⟨q, a, hq, rfl, rfl, ha0⟩ := wpl.at_ hkw
      obtain rfl : V.int q.1 = kx := Option.some.inj hkx
      obtain rfl : V.ref a = vx := Option.some.inj hvx
      have sT := same_upd (o := .tup [V.int q.1, .ref a]) nT
      refine ⟨T, [.int q.1, .ref a], rfl, .inl (.inl upd_same), rfl, .int q.1, [.ref a], rfl, .ref a, [], rfl, rfl, rfl, ?_⟩
      have s3 := s2.trans sT
      have hD3 := sT _ _ hD
      have hkv3 := hkv.same sT
      generalize upd H2 T (.tup [V.int q.1, .ref a]) = H3 at s3 hD3 hkv3
      refine ⟨.int q.1, rfl, .ref a, rfl, a, q.2.map V.int, rfl, .inl (.inl (.inl (s3 _ _ ha0))), fun l nl => ?_⟩
      have hfl : H l = none := by
        cases e9 : H l with
        | none => rfl
        | some o9 => exact absurd nl (fr9 l (by rw [e9]; exact fun z => by cases z) H3 s3)
      have sl := same_upd (o := .lst (q.2.map V.int)) nl
      have hl4 : (upd H3 l (.lst (q.2.map V.int))) l = some (.lst (q.2.map V.int)) := upd_same
      have s4 := s3.trans sl
      have hD4 := sl _ _ hD3
      have hkv4 := hkv3.same sl
      generalize upd H3 l (.lst (q.2.map V.int)) = H4 at hl4 s4 hD4 hkv4
      have hkl := hkv4.wp.len
      have hwl := wp.len
      refine ⟨kv, Sum.inl q.1, rfl, hD4, small9 (by rw [hkl, List.length_take]; omega), same_mut s4 nD, _, upd_same, ?_⟩
      rw [putK_new _ (hkv4.wp.val_none (not_in_take ndB hq)), List.take_add_one, hq]
      exact (hkv4.snoc hfl hl4).lock hD4
    · rintro H2 ⟨s2, kv, hD, hkv⟩
      rw [wp.len, List.take_length] at hkv
      have hp2 : H2 p = some (.ins cG dx (putF "entry" (.int e) [])) := s2 _ _ (by rw [upd_ne npd]; exact hp1)
      have npD : p ≠ Dn := ne_of hp2 hD (fun z => by cases z)
      refine ⟨.ref p, rfl, p, cG, dx, (putF "entry" (.int e) []), rfl, hp2, cl, nB, Nat.lt_of_le_of_lt (putF_le _ _ _) (by decide), ?_⟩
      have hdl : (upd H2 p (.ins cG dx (putF "blocks" (.ref Dn) (putF "entry" (.int e) [])))) db = some (.frz od (.dK kw)) := by rw [upd_ne npd.symm]; exact s2 _ _ upd_same
      refine ⟨hdl, ?_⟩
      refine ⟨Dn, kv, rfl, ?_, fun b o hb hn => ?_, ?_, ?_, ?_⟩
      · rw [upd_ne npd, upd_same]
      · by_cases eb : b = db
        · rw [eb, upd_same, ← hd, ← hb, eb]
        · rw [upd_ne eb, upd_ne hn]; exact s2 _ _ (by rw [upd_ne eb]; exact hb)
      · cases e9 : H Dn with
        | none => rfl
        | some o9 => exact absurd nD (fr9 Dn (by rw [e9]; exact fun z => by cases z) _ (Same.refl _))
      · rw [upd_ne nDw, upd_ne npD.symm]; exact hD
      · refine wpf_k (H0 := H2) (fun b xs hb => ?_) hkv
        have e1 : b ≠ p := ne_of hb hp2 (fun z => by cases z)
        have e2 : b ≠ db := ne_of hb (s2 _ _ upd_same) (fun z => by cases z)
        rw [upd_ne e2, upd_ne e1]; exact hb
  obtain ⟨d', kb, rfl, hp2', k2, nd', hkb, hB2⟩ := hM
  have fr_H2 : ∀ b, H b ≠ none → ∀ H3 : Hp, (∀ o, H2 b = some o → ∃ o', H3 b = some o') → H3 b ≠ none := fun b hb H3 h3 => by
    obtain ⟨o, ho⟩ : ∃ o, H2 b = some o := by
      by_cases eb : b = p
      · exact ⟨_, by rw [eb]; exact hp2'⟩
      · cases e9 : H b with
        | none => exact absurd e9 hb
        | some o => exact ⟨o, k2 _ _ (k1 _ _ e9 eb) eb⟩
    obtain ⟨o', ho'⟩ := h3 o ho
    rw [ho']; exact fun z => by cases z
  have hW2 : WaysAt H2 dw W := wk hp1 (fun _ z => by cases z) (fun _ z => by cases z) k2 hW1
  obtain ⟨kw, hd, wp⟩ := id hW2
  refine ⟨dw, .dK kw, hd, True.intro, fun od => ?_⟩
  refine ⟨.ref dw, rfl, dw, od, kw, rfl, upd_same, fun Dn nD => ?_⟩
  obtain ⟨nD0, nDw⟩ := lock_free nD
  have wpl : WP (upd H2 dw (.frz od (.dK kw))) kw W := wp.lock hd
  have npd : p ≠ dw := ne_of hp2' hd (fun z => by cases z)
  have fr9 : ∀ b, H b ≠ none → ∀ H3, Same (upd H2 dw (.frz od (.dK kw))) H3 → H3 b ≠ none := fun b hb H3 s3 => fr_H2 b hb _ (fun o ho => by
    by_cases eb : b = dw
    · exact ⟨_, s3 _ _ (by rw [eb]; exact upd_same)⟩
    · exact ⟨_, s3 _ _ (by rw [upd_ne eb]; exact ho)⟩)
  refine dc_it walk_items (fun i H' => Same (upd H2 dw (.frz od (.dK kw))) H' ∧ ∃ kv, H' Dn = some (.dK kv) ∧ WPf H H' kv (W.take i)) ?_ ?_ ?_ ?_
  · exact ⟨same_upd nD, [], upd_same, by rw [List.take_zero]; exact .nil⟩
  · rintro i H' _ ⟨s2, _⟩
    exact s2 _ _ upd_same
  · rintro i x H9 H3 hi ⟨s2, kv, hD, hkv⟩ ⟨T, kx, vx, rfl, nT, rfl, hkx, hvx⟩
    obtain ⟨⟨key, val⟩, hkw⟩ : ∃ kv, kw[i]? = some kv := ⟨_, List.getElem?_eq_getElem hi⟩
    have hkx : (kw[i]?.map fun kv => kV kv.1) = some kx := hkx
    have hvx : kw[i]?.map Prod.snd = some vx := hvx
    rw [hkw] at hkx hvx
    obtain ⟨q, a, hq, rfl, rfl, ha0⟩ := wpl.at_ hkw
    obtain rfl : V.int q.1 = kx := Option.some.inj hkx
    obtain rfl : V.ref a = vx := Option.some.inj hvx
    have sT := same_upd (o := .tup [V.int q.1, .ref a]) nT
    refine ⟨T, [.int q.1, .ref a], rfl, .inl (.inl upd_same), rfl, .int q.1, [.ref a], rfl, .ref a, [], rfl, rfl, rfl, ?_⟩
    have s3 := s2.trans sT
    have hD3 := sT _ _ hD
    have hkv3 := hkv.same sT
    generalize upd H9 T (.tup [V.int q.1, .ref a]) = H3 at s3 hD3 hkv3
    refine ⟨.int q.1, rfl, .ref a, rfl, a, q.2.map V.int, rfl, .inl (.inl (.inl (s3 _ _ ha0))), fun l nl => ?_⟩
    have hfl : H l = none := by
      cases e9 : H l with
      | none => rfl
      | some o9 => exact absurd nl (fr9 l (by rw [e9]; exact fun z => by cases z) H3 s3)
    have sl := same_upd (o := .lst (q.2.map V.int)) nl
    have hl4 : (upd H3 l (.lst (q.2.map V.int))) l = some (.lst (q.2.map V.int)) := upd_same
    have s4 := s3.trans sl
    have hD4 := sl _ _ hD3
    have hkv4 := hkv3.same sl
    generalize upd H3 l (.lst (q.2.map V.int)) = H4 at hl4 s4 hD4 hkv4
    have hkl := hkv4.wp.len
    have hwl := wp.len
    refine ⟨kv, Sum.inl q.1, rfl, hD4, small9 (by rw [hkl, List.length_take]; omega), same_mut s4 nD, _, upd_same, ?_⟩
    rw [putK_new _ (hkv4.wp.val_none (not_in_take ndk hq)), List.take_add_one, hq]
    exact (hkv4.snoc hfl hl4).lock hD4
  · rintro H9 ⟨s2, kv, hD, hkv⟩
    rw [wp.len, List.take_length] at hkv
    have hp9 : H9 p = some (.ins cG dx (putF "blocks" (.ref d') (putF "entry" (.int e) []))) := s2 _ _ (by rw [upd_ne npd]; exact hp2')
    have npD : p ≠ Dn := ne_of hp9 hD (fun z => by cases z)
    refine ⟨.ref p, rfl, p, cG, dx, (putF "blocks" (.ref d') (putF "entry" (.int e) [])), rfl, hp9, cl, nW, Nat.lt_of_le_of_lt (Nat.le_trans (putF_le _ _ _) (Nat.succ_le_succ (putF_le _ _ _))) (by decide), ?_⟩
    have hdl : (upd H9 p (.ins cG dx (putF "ways" (.ref Dn) (putF "blocks" (.ref d') (putF "entry" (.int e) []))))) dw = some (.frz od (.dK kw)) := by rw [upd_ne npd.symm]; exact s2 _ _ upd_same
    refine ⟨hdl, ?_⟩
    have npd' : p ≠ d' := ne_of hp2' hkb (fun z => by cases z)
    have nDn : H Dn = none := by
      cases e9 : H Dn with
      | none => rfl
      | some o9 => exact absurd nD (fr9 Dn (by rw [e9]; exact fun z => by cases z) _ (Same.refl _))
    have s5 : ∀ b o, H2 b = some o → b ≠ p → (upd (upd H9 p (.ins cG dx (putF "ways" (.ref Dn) (putF "blocks" (.ref d') (putF "entry" (.int e) []))))) dw (.dK kw)) b = some o := fun b o hb hn => by
      by_cases eb : b = dw
      · rw [eb, upd_same, ← hd, ← hb, eb]
      · rw [upd_ne eb, upd_ne hn]; exact s2 _ _ (by rw [upd_ne eb]; exact hb)
    have g1 : (upd (upd H9 p (.ins cG dx (putF "ways" (.ref Dn) (putF "blocks" (.ref d') (putF "entry" (.int e) []))))) dw (.dK kw)) p = some (.ins cG dx (putF "ways" (.ref Dn) (putF "blocks" (.ref d') (putF "entry" (.int e) [])))) := by rw [upd_ne npd, upd_same]
    have g2 : (upd (upd H9 p (.ins cG dx (putF "ways" (.ref Dn) (putF "blocks" (.ref d') (putF "entry" (.int e) []))))) dw (.dK kw)) d' = some (.dK kb) := s5 _ _ hkb npd'.symm
    have g3 : WPf H (upd (upd H9 p (.ins cG dx (putF "ways" (.ref Dn) (putF "blocks" (.ref d') (putF "entry" (.int e) []))))) dw (.dK kw)) kb B := wpf_k (H0 := H2) (fun b xs hb => s5 _ _ hb (ne_of hb hp2' (fun z => by cases z))) hB2
    have g4 : (upd (upd H9 p (.ins cG dx (putF "ways" (.ref Dn) (putF "blocks" (.ref d') (putF "entry" (.int e) []))))) dw (.dK kw)) Dn = some (.dK kv) := by rw [upd_ne nDw, upd_ne npD.symm]; exact hD
    have g5 : WPf H (upd (upd H9 p (.ins cG dx (putF "ways" (.ref Dn) (putF "blocks" (.ref d') (putF "entry" (.int e) []))))) dw (.dK kw)) kv W := by
      refine wpf_k (H0 := H9) (fun b xs hb => ?_) hkv
      have e1 : b ≠ p := ne_of hb hp9 (fun z => by cases z)
      have e2 : b ≠ dw := ne_of hb (s2 _ _ upd_same) (fun z => by cases z)
      rw [upd_ne e2, upd_ne e1]; exact hb
    generalize upd (upd H9 p (.ins cG dx (putF "ways" (.ref Dn) (putF "blocks" (.ref d') (putF "entry" (.int e) []))))) dw (.dK kw) = HZ at s5 g1 g2 g3 g4 g5
    have lE : (putF "ways" (.ref Dn) (putF "blocks" (.ref d') (putF "entry" (.int e) []))).lookup ("entry" : Str) = some (.int e) := by rw [lookup_putF, if_neg (fun z => we_n z.symm), lookup_putF, if_neg (fun z => be_n z.symm), lookup_putF, if_pos rfl]
    have lB : (putF "ways" (.ref Dn) (putF "blocks" (.ref d') (putF "entry" (.int e) []))).lookup ("blocks" : Str) = some (.ref d') := by rw [lookup_putF, if_neg bw_n, lookup_putF, if_pos rfl]
    have lW : (putF "ways" (.ref Dn) (putF "blocks" (.ref d') (putF "entry" (.int e) []))).lookup ("ways" : Str) = some (.ref Dn) := by rw [lookup_putF, if_pos rfl]
    refine k HZ Dn (fun b o hb hn => s5 _ _ (k2 _ _ (k1 _ _ hb hn) hn) hn) (fun z H'' hz hn kk => ?_) ⟨dx, _, d', g1, lE, lB, lW, ⟨B, ⟨kb, g2, g3.wp⟩, hBk⟩, kv, g4, g5.wp⟩
    have ez : ∀ {q}, H q = none → q ≠ z := fun hq e => hn (by rw [← e]; exact hq)
    exact ⟨dx, _, d', kk _ _ g1 hz.symm, lE, lB, lW, ⟨B, ⟨kb, kk _ _ g2 (ez nd'), (g3.keep hn kk).wp⟩, hBk⟩, kv, kk _ _ g4 (ez nDn), (g5.keep hn kk).wp⟩
end
end BT
namespace BT
open PySem L2
/-- [f x for x in l], l ints, f a bool -/
theorem lc_bools {K : PySem.W.Frag} {a : Addr} {l : List Int} {g : TG} {tt : TT} {te : TE} {vs : List Nat} {σ : St} {H1 : Hp} {D : Addr} {Qd : Hp → Prop} (f : Int → Bool) (nD : H1 D = none) (hl : SqL K H1 a (l.map V.int)) (hlen : l.length ≤ 900)
    (step : ∀ (o : Int) (H' : Hp) (N : V → Hp → Prop) (M : Hp → Prop), o ∈ l → Same H1 H' → N (.bl (f o)) H' → g (.int o) (wipe σ vs) H' fun σ2 H2 => wipe σ2 vs = wipe σ vs ∧ tt σ2 H2 fun b H3 => if b = true then te σ2 H3 N else M H3)
    (after : ∀ H', Same H1 H' → H' D = some (.lst ((l.map f).map V.bl)) → Qd H') :
    ∃ W : Nat → Nat → Hp → Prop, (∃ m, W 0 m (upd H1 D (.lst []))) ∧ ∀ i m H, W i m H →
      ((Itl K a).stop i H ∧ Qd H) ∨ ((Itl K a).go i H ∧ ∃ Nx : Hp → Prop, (∀ H', Nx H' → ∃ m', m' < m ∧ W (i + 1) m' H') ∧ ∀ x H', (Itl K a).yld i H x H' → g x (wipe σ vs) H' fun σ2 H2 => wipe σ2 vs = wipe σ vs ∧ tt σ2 H2 fun b H3 =>
        if b = true then te σ2 H3 fun y H4 => ∃ acc, H4 D = some (.lst acc) ∧ acc.length < sizeLine ∧ Nx (upd H4 D (.lst (acc ++ [y]))) else Nx H3) := by
  refine lc_list (K := K) (a := a) (xs := l.map V.int) (fun i H' => Same H1 H' ∧ H' D = some (.lst (((l.take i).map f).map V.bl))) ⟨same_upd nD, upd_same⟩ (fun i H' _ h => h.1.seq hl) (fun i x H' hx h => ?_) (fun H' h => ?_)
  · obtain ⟨s1, hD⟩ := h
    obtain ⟨o, ho, rfl⟩ := map_int_at hx
    have hi : i < l.length := (List.getElem?_eq_some_iff.mp ho).1
    refine step o H' (fun y H4 => ∃ acc, H4 D = some (.lst acc) ∧ acc.length < sizeLine ∧ (Same H1 (upd H4 D (.lst (acc ++ [y]))) ∧ (upd H4 D (.lst (acc ++ [y]))) D = some (.lst (((l.take (i + 1)).map f).map V.bl)))) _ (List.mem_of_getElem? ho) s1 ⟨_, hD, ?_, same_mut s1 nD, ?_⟩
    · rw [List.length_map, List.length_map, List.length_take]; exact small9 (by omega)
    · rw [upd_same, List.take_add_one, ho, List.map_append, List.map_append]; rfl
  · obtain ⟨s1, hD⟩ := h
    rw [List.length_map, List.take_length] at hD
    exact after H' s1 hD
/-- [f x y for x, y in zip(l, m)] -/
theorem zc_bools {K : PySem.W.Frag} {a b : Addr} {l m : List Int} {g : TG} {tt : TT} {te : TE} {vs : List Nat} {σ : St} {H1 : Hp} {D : Addr} {Qd : Hp → Prop} (f : Int → Int → Bool) (nD : H1 D = none) (hl : SqL K H1 a (l.map V.int)) (hm : SqL K H1 b (m.map V.int)) (hlen : l.length ≤ 900)
    (step : ∀ (x y : Int) (T : Addr) (H' : Hp) (N : V → Hp → Prop) (M : Hp → Prop), (x, y) ∈ l.zip m → Same H1 H' → H' T = some (.tup [.int x, .int y]) → N (.bl (f x y)) H' → g (.ref T) (wipe σ vs) H' fun σ2 H2 => wipe σ2 vs = wipe σ vs ∧ tt σ2 H2 fun b H3 => if b = true then te σ2 H3 N else M H3)
    (after : ∀ H', Same H1 H' → H' D = some (.lst (((l.zip m).map fun p => f p.1 p.2).map V.bl)) → Qd H') :
    ∃ W : Nat → Nat → Hp → Prop, (∃ m, W 0 m (upd H1 D (.lst []))) ∧ ∀ i m H, W i m H →
      ((Itz K a b).stop i H ∧ Qd H) ∨ ((Itz K a b).go i H ∧ ∃ Nx : Hp → Prop, (∀ H', Nx H' → ∃ m', m' < m ∧ W (i + 1) m' H') ∧ ∀ x H', (Itz K a b).yld i H x H' → g x (wipe σ vs) H' fun σ2 H2 => wipe σ2 vs = wipe σ vs ∧ tt σ2 H2 fun b H3 =>
        if b = true then te σ2 H3 fun y H4 => ∃ acc, H4 D = some (.lst acc) ∧ acc.length < sizeLine ∧ Nx (upd H4 D (.lst (acc ++ [y]))) else Nx H3) := by
  have hz : (l.zip m).length = min (l.map V.int).length (m.map V.int).length := by rw [List.length_zip, List.length_map, List.length_map]
  refine lc_it (walk_zip (K := K) (a := a) (b := b) (xs := l.map V.int) (ys := m.map V.int) (n := (l.zip m).length) hz) (fun i H' => Same H1 H' ∧ H' D = some (.lst ((((l.zip m).take i).map fun p => f p.1 p.2).map V.bl))) ⟨same_upd nD, upd_same⟩ (fun i H' _ h => ⟨h.1.seq hl, h.1.seq hm⟩) (fun i x H2 H' hi h y => ?_) (fun H' h => ?_)
  · obtain ⟨s1, hD⟩ := h
    obtain ⟨T, x1, x2, rfl, nT, rfl, h1, h2⟩ := y
    obtain ⟨u, hu, rfl⟩ := map_int_at h1
    obtain ⟨v, hv, rfl⟩ := map_int_at h2
    have hp : (l.zip m)[i]? = some (u, v) := by rw [List.getElem?_zip_eq_some]; exact ⟨hu, hv⟩
    have sT := same_upd (o := .tup [V.int u, .int v]) nT
    have s2 := s1.trans sT
    have hl9 : i < l.length := (List.getElem?_eq_some_iff.mp hu).1
    refine step u v T _ (fun y H4 => ∃ acc, H4 D = some (.lst acc) ∧ acc.length < sizeLine ∧ (Same H1 (upd H4 D (.lst (acc ++ [y]))) ∧ (upd H4 D (.lst (acc ++ [y]))) D = some (.lst ((((l.zip m).take (i + 1)).map fun p => f p.1 p.2).map V.bl)))) _ (List.mem_of_getElem? hp) s2 upd_same ⟨_, sT _ _ hD, ?_, same_mut s2 nD, ?_⟩
    · rw [List.length_map, List.length_map, List.length_take]; exact small9 (by omega)
    · rw [upd_same, List.take_add_one, hp, List.map_append, List.map_append]; rfl
  · obtain ⟨s1, hD⟩ := h
    rw [List.take_length] at hD
    exact after H' s1 hD
theorem all_map {α : Type} {f : α → Bool} {l : List α} : (l.map f).all id = l.all f := by rw [List.all_map]; rfl
theorem any_map {α : Type} {f : α → Bool} {l : List α} : (l.map f).any id = l.any f := by rw [List.any_map]; rfl
end BT
namespace BT
open PySem PyProof.Rows L2
abbrev sWay : Stmt := top 16
abbrev nWay : List Str := ["graph", "blocks", "block", "other", "one"]
theorem scWay : FnScope nWay ["graph", "blocks"] (defScope sWay) := ⟨rfl, rfl, rfl, by decide +kernel, rfl, by decide +kernel, by decide +kernel⟩
/-- is_way -/
def spWay (K : PySem.W.Frag) (cG : Addr) : Sp := fun vs H Q _ => ∃ (g a : Addr) (e : Int) (dw : Addr) (W : Ways) (l : List Int), vs = [.ref g, .ref a] ∧ GraphAt cG H g e dw W ∧ SqL K H a (l.map V.int) ∧ l.length ≤ 100 ∧
  ∀ (b : Bool) (H' : Hp), Same H H' → (b = true ↔ (∀ x, x ∈ l → x ∈ ks W) ∧ Edges (nx W) l) → Q (.bl b) H'
section
variable {P : Program} {w : World} {K : PySem.W.Frag} {mg : Str → Option Value} {base : Heap} {cG cP cT : Addr}
theorem ok_way (D : Df K mg "is_way" sWay ["graph", "blocks"]) (T : TX K mg cG cP cT) : C8.Cal P w K mg base 1 "is_way" (spWay K cG) [] := by
  refine D.ok scWay (fun vs H Q E h => ?_) (fun f cdv A outer s H vs Q E hr h => ?_)
  · obtain ⟨_, _, _, _, _, _, rfl, _⟩ := h
    rfl
  · obtain ⟨g, a, e, dw, W, l, rfl, hG, hl, hlen, k⟩ := h
    have hu := hu_of hr
    have nd := scWay.nd
    refine ⟨_, pss_cons (ps_if (pt_not (pt_val (pe_callB (cr_all rfl) (by rfl) T.all boot_all (pa_cons (pe_lc (own := [("block", 2)]) (g := gName 2) (te := tOp rDIn (tVar 2) (tFld K (tVar 0) "ways")) rfl nd (pi_list (pv 1)) (blkOk_by (own := [("block", 2)]) (N := nWay) (sc := defScope sWay) (by decide +kernel))
          (fun _ _ _ _ _ => pg_name (i := 2) nd rfl (Or.inl rfl)) (fun _ _ _ _ _ => pts_nil) (fun _ _ _ _ _ => pe_cmpR (op_din hu) (pv 2) (pe_fld (pv 0) rfl) (by rfl))) pa_nil)))) (pss_one (ps_ret pe_bl)) pss_nil)
      (pss_one (ps_ret (pe_callB (cr_all rfl) (by rfl) T.all boot_all (pa_cons (pe_lc (own := [("other", 3), ("one", 4)]) (g := gTup K 2 (gCons (gName 4) (gCons (gName 3) gNil))) (te := tOp (rInI K) (tVar 3) (tDGet (tFld K (tVar 0) "ways") (tVar 4))) rfl nd (pi_zip (by rfl) T.zip (pa_cons (pv 1) (pa_cons (pe_slice sl_list (pv 1) (po_some pe_int) po_none) pa_nil)))
          (blkOk_by (own := [("other", 3), ("one", 4)]) (N := nWay) (sc := defScope sWay) (by decide +kernel))
          (fun _ _ _ _ _ => pg_tup rfl (pgs_cons (pg_name (i := 4) nd rfl (Or.inl rfl)) (pgs_cons (pg_name (i := 3) nd rfl (Or.inl rfl)) pgs_nil))) (fun _ _ _ _ _ => pts_nil) (fun _ _ _ _ _ => pe_cmpR op_inInts (pv 3) (pe_dget hu (pe_fld (pv 0) rfl) (pv 4) (fun _ _ => rfl)) (by rfl))) pa_nil)))), ?_⟩
    obtain ⟨dx, fs, db, hg, fE, fB, fW, hB, hW⟩ := id hG
    refine ⟨.ref a, rfl, a, rfl, ⟨_, hl⟩, fun Dn nD => ?_⟩
    refine lc_bools (fun o => decide (o ∈ ks W)) nD hl (by omega) (fun o H' N M ho s1 hN => ?_) (fun H1 s1 hD => ?_)
    · obtain ⟨r, hr, hrs⟩ := (hW.same s1).rd.isin o
      refine ⟨rfl, .int o, rfl, .ref g, rfl, g, cG, dx, fs, .ref dw, rfl, s1 _ _ hg, T.g.cl, T.nW, fW, dw, r, rfl, hr, ?_⟩
      rw [hrs]
      exact hN
    · refine ⟨Dn, _, rfl, .inl (.inl hD), _, rfl, ?_⟩
      rw [all_map]
      cases hall : l.all (fun o => decide (o ∈ ks W)) with
      | false =>
        refine iteT (k false H1 s1 ⟨fun z => Bool.noConfusion z, fun z => ?_⟩)
        have h9 : l.all (fun o => decide (o ∈ ks W)) = true := List.all_eq_true.mpr fun o ho => decide_eq_true (z.1 o ho)
        rw [hall] at h9
        exact h9
      | true =>
        have hin : ∀ x, x ∈ l → x ∈ ks W := fun x hx => of_decide_eq_true (List.all_eq_true.mp hall x hx)
        refine iteF ?_
        refine ⟨.ref a, rfl, .ref a, rfl, 1, rfl, a, _, rfl, s1.seq hl, fun q nq => ?_⟩
        rw [cut_tail]
        have sq := same_upd (o := .lst ((l.map V.int).drop 1)) nq
        have hq : (upd H1 q (.lst ((l.map V.int).drop 1))) q = some (.lst (l.tail.map V.int)) := by rw [upd_same, List.map_tail, List.drop_one]
        have s2 := s1.trans sq
        generalize upd H1 q (.lst ((l.map V.int).drop 1)) = H2 at hq s2
        refine ⟨a, q, _, _, rfl, s2.seq hl, .inl (.inl hq), fun D2 nD2 => ?_⟩
        refine zc_bools (fun x y => decide (y ∈ nx W x)) nD2 (s2.seq hl) (.inl (.inl hq)) (by omega) (fun x y T2 H' N M hxy s3 hT hN => ?_) (fun H3 s3 hD => ?_)
        · have hx : x ∈ ks W := hin x (List.of_mem_zip hxy).1
          obtain ⟨b, gb, lb⟩ := (hW.same (s2.trans s3)).get hx
          refine ⟨T2, [.int x, .int y], rfl, .inl (.inl hT), rfl, .int x, [.int y], rfl, .int y, [], rfl, rfl, rfl, ?_⟩
          exact ⟨.int y, rfl, .ref g, rfl, g, cG, dx, fs, .ref dw, rfl, s3 _ _ (s2 _ _ hg), T.g.cl, T.nW, fW, .int x, rfl, dw, .ref b, rfl, gb, y, b, nx W x, rfl, rfl, .inl (.inl lb), hN⟩
        · refine ⟨D2, _, rfl, .inl (.inl hD), k _ H3 (s2.trans s3) ?_⟩
          rw [all_map, List.all_eq_true]
          exact ⟨fun z => ⟨hin, fun q hq => of_decide_eq_true (z q hq)⟩, fun z q hq => decide_eq_true (z.2 q hq)⟩
end
end BT
namespace BT
open PySem PyProof.Rows L2
abbrev sTwisted : Stmt := top 17
abbrev nTwisted : List Str := ["graph", "nearest", "pair"]
theorem scTwisted : FnScope nTwisted ["graph"] (defScope sTwisted) := ⟨rfl, rfl, rfl, by decide +kernel, rfl, by decide +kernel, by decide +kernel⟩
/-- the pairs that show a graph twisted -/
def BadAt (H : Hp) (d : Addr) (W : Ways) (e : Int) : Prop := ∃ (xs : List V) (ps : List (Int × Int)), H d = some (.lst xs) ∧ PrL H xs ps ∧ ∀ u v, (u, v) ∈ ps ↔ Bad (nx W) (line W e) e u v
/-- twisted -/
def spTwisted (cG : Addr) : Sp := fun vs H Q _ => ∃ (g : Addr) (e : Int) (dw : Addr) (W : Ways), vs = [.ref g] ∧ GraphAt cG H g e dw W ∧ GOk W e ∧ ∀ H' p, Same H H' → BadAt H' p W e → Q (.ref p) H'
section
variable {P : Program} {w : World} {K : PySem.W.Frag} {mg : Str → Option Value} {base : Heap} {cG cP cT : Addr}
theorem ok_twisted (D : Df K mg "twisted" sTwisted ["graph"]) (T : TX K mg cG cP cT) (cN : C8.Cal P w K mg base 2 "above_by" spNear []) (cB : C8.Cal P w K mg base 2 "backward" spBack []) (cA : C8.Cal P w K mg base 1 "is_above" spAbove []) : C8.Cal P w K mg base 3 "twisted" (spTwisted cG) [] := by
  refine D.ok scTwisted (fun vs H Q E h => ?_) (fun f cdv A outer s H vs Q E hr h => ?_)
  · obtain ⟨_, _, _, _, rfl, _⟩ := h
    rfl
  · obtain ⟨g, e, dw, W, rfl, hG, G, k⟩ := h
    have hu := hu_of hr
    have nd := scTwisted.nd
    refine ⟨_, pss_cons (ps_set (i := 1) nd rfl (.inr rfl) (C8.pe_c cN hr (by decide) (by rfl) (pa_cons (pe_fld (pv 0) rfl) (pa_cons (pe_fld (pv 0) rfl) pa_nil))))
      (pss_one (ps_ret (pe_lc (own := [("pair", 2)]) (g := gName 2) (tt := tNot (tB (tCall spAbove [] C8.E0 (tCons (tOp (rIxT K) (tVar 2) (tC (.int 1))) (tCons (tOp (rIxT K) (tVar 2) (tC (.int 0))) (tCons (tVar 1) tNil)))))) rfl nd (pi_list (C8.pe_c cB hr (by decide) (by rfl) (pa_cons (pe_fld (pv 0) rfl) (pa_cons (pe_fld (pv 0) rfl) pa_nil)))) (blkOk_by (own := [("pair", 2)]) (N := nTwisted) (sc := defScope sTwisted) (by decide +kernel))
          (fun _ _ _ _ _ => pg_name (i := 2) nd rfl (Or.inl rfl)) (fun _ _ _ _ _ => pts_one (pt_not (pt_val (C8.pe_c cA hr (by decide) (by rfl) (pa_cons (pe_ix ix_tup (pv 2) pe_int (fun _ _ => rfl)) (pa_cons (pe_ix ix_tup (pv 2) pe_int (fun _ _ => rfl)) (pa_cons (pv 1) pa_nil))))))) (fun _ _ _ _ _ => pv 2)))), ?_⟩
    obtain ⟨dx, fs, db, hg, fE, fB, fW, hB, hW⟩ := id hG
    refine ⟨.ref g, rfl, g, cG, dx, fs, .int e, rfl, hg, T.g.cl, T.nE, fE, .ref g, rfl, g, cG, dx, fs, .ref dw, rfl, hg, T.g.cl, T.nW, fW, e, dw, W, rfl, hW, G, fun H1 dn s1 n1 hN => ?_⟩
    refine ⟨.ref g, rfl, g, cG, dx, fs, .int e, rfl, s1 _ _ hg, T.g.cl, T.nE, fE, .ref g, rfl, g, cG, dx, fs, .ref dw, rfl, s1 _ _ hg, T.g.cl, T.nW, fW, e, dw, W, rfl, hW.same s1, G, fun H2 db2 s2 n2 hB2 => ?_⟩
    obtain ⟨xs, ps, hbl, hps, hpl, hin⟩ := hB2
    have hN2 := hN.same s2
    refine ⟨db2, rfl, ⟨_, .inl (.inl hbl)⟩, fun Dn nD => ?_⟩
    refine lc_list (K := K) (a := db2) (xs := xs) (fun i H' => Same H2 H' ∧ ∃ (ys : List V) (qs : List (Int × Int)), H' Dn = some (.lst ys) ∧ PrL H' ys qs ∧ qs.length ≤ i ∧ ∀ u v, (u, v) ∈ qs ↔ (u, v) ∈ ps.take i ∧ ¬ Dom (nx W) e v u)
      ⟨same_upd nD, [], [], upd_same, .nil, Nat.le_refl _, fun u v => by simp⟩ (fun i H' _ h => .inl (.inl (h.1 _ _ hbl))) (fun i x H' hx h => ?_) (fun H' h => ?_)
    · obtain ⟨s3, ys, qs, hD, hqs, hql, hq⟩ := h
      obtain ⟨T2, p, hp, rfl, hT0⟩ := hps.get' hx
      have hT := s3 _ _ hT0
      obtain ⟨u, v⟩ := p
      have hul : u ∈ line W e := ((hin u v).mp (List.mem_of_getElem? hp)).1
      have hi : i < 27 := by have := (List.getElem?_eq_some_iff.mp hp).1; omega
      refine ⟨rfl, .ref T2, rfl, T2, [.int u, .int v], 1, .int v, rfl, rfl, .inl (.inl hT), atI_nat (j := 1) rfl, .ref T2, rfl, T2, [.int u, .int v], 0, .int u, rfl, rfl, .inl (.inl hT), atI_nat (j := 0) rfl, .ref dn, rfl, v, u, e, dn, W, rfl, hN2.same s3, hul, fun b hb => ⟨b, rfl, ?_⟩⟩
      cases b with
      | true =>
        refine iteF ⟨s3, ys, qs, hD, hqs, by omega, fun u' v' => ?_⟩
        rw [hq, List.take_add_one, hp, List.mem_append]
        simp only [Option.toList_some, List.mem_singleton, Prod.mk.injEq]
        constructor
        · rintro ⟨z1, z2⟩
          exact ⟨.inl z1, z2⟩
        · rintro ⟨z1 | ⟨z1, z3⟩, z2⟩
          · exact ⟨z1, z2⟩
          · rw [z1, z3] at z2
            exact absurd (hb.mp rfl) z2
      | false =>
        refine iteT ⟨.ref T2, rfl, ys, hD, small9 (by rw [hqs.len]; omega), same_mut s3 nD, _, _, upd_same, (hqs.snoc (p := (u, v)) hT).upd (o := .lst (ys ++ [.ref T2])) hD (fun _ z => by cases z), by rw [List.length_append, List.length_singleton]; omega, fun u' v' => ?_⟩
        rw [List.mem_append, hq, List.take_add_one, hp, List.mem_append]
        simp only [Option.toList_some, List.mem_singleton, Prod.mk.injEq]
        constructor
        · rintro (⟨z1, z2⟩ | ⟨z1, z2⟩)
          · exact ⟨.inl z1, z2⟩
          · refine ⟨.inr ⟨z1, z2⟩, fun z => ?_⟩
            rw [z1, z2] at z
            exact Bool.noConfusion (hb.mpr z)
        · rintro ⟨z1 | ⟨z1, z3⟩, z2⟩
          · exact .inl ⟨z1, z2⟩
          · exact .inr ⟨z1, z3⟩
    · obtain ⟨s3, ys, qs, hD, hqs, hql, hq⟩ := h
      rw [hps.len, List.take_length] at hq
      refine k H' Dn (s1.trans (s2.trans s3)) ⟨ys, qs, hD, hqs, fun u v => ?_⟩
      rw [hq, hin]
      exact ⟨fun z => ⟨z.1.1, z.1.2.1, z.1.2.2, z.2⟩, fun z => ⟨⟨z.ul, z.vs, z.back⟩, z.no⟩⟩
end
end BT
namespace BT
open PySem L2
/-- a dict with keys out of l, by what it holds -/
def KAt (H : Hp) (d : Addr) (l : List Int) (M : Int → Option V) : Prop := ∃ kvs, H d = some (.dK kvs) ∧ (kvs.map Prod.fst).Nodup ∧ (∀ q, q ∈ kvs.map Prod.fst → q ∈ l.map (Sum.inl : Int → Key)) ∧ ∀ b, valV kvs (Sum.inl b : Key) = M b
theorem KAt.same {H H' : Hp} {d : Addr} {l : List Int} {M : Int → Option V} (s : Same H H') (h : KAt H d l M) : KAt H' d l M := by
  obtain ⟨kvs, h1, h2⟩ := h
  exact ⟨kvs, s _ _ h1, h2⟩
theorem KAt.len {H : Hp} {d : Addr} {l : List Int} {M : Int → Option V} (h : KAt H d l M) : ∃ kvs, H d = some (.dK kvs) ∧ kvs.length ≤ l.length ∧ ∀ b, valV kvs (Sum.inl b : Key) = M b := by
  obtain ⟨kvs, h1, h2, h3, h4⟩ := h
  refine ⟨kvs, h1, ?_, h4⟩
  have := nodup_sub_lenG h2 h3
  rw [List.length_map, List.length_map] at this
  exact this
theorem KAt.mp {H : Hp} {d : Addr} {l : List Int} {M : Int → Option V} (hl : l.length ≤ 900) (h : KAt H d l M) : Mp H d M := by
  obtain ⟨kvs, h1, h2, h3⟩ := h.len
  exact ⟨kvs, h1, by omega, h3⟩
theorem KAt.put {H : Hp} {d : Addr} {l : List Int} {M : Int → Option V} {b : Int} {v : V} (hl : l.length ≤ 900) (h : KAt H d l M) (hb : b ∈ l) :
    ∃ o, DPut H d (.int b) v (upd H d o) ∧ KAt (upd H d o) d l (fun c => if c = b then some v else M c) := by
  have hz := h.len
  obtain ⟨kvs, h1, h2, h3, h4⟩ := h
  obtain ⟨kv2, g1, g2, _⟩ := hz
  obtain rfl : kvs = kv2 := by
    rw [h1] at g1
    cases g1
    rfl
  refine ⟨_, DPut.k (k := Sum.inl b) h1 (small9 (by omega)), _, upd_same, put_nd h2, fun q hq => ?_, fun c => ?_⟩
  · rcases put_in hq with z | z
    · exact h3 q z
    · rw [z]; exact List.mem_map.mpr ⟨b, hb, rfl⟩
  · rw [valV_put]
    show _ = (if c = b then some v else M c)
    by_cases e : c = b
    · rw [e, if_pos rfl, if_pos rfl]
    · rw [if_neg (fun z => e (Sum.inl.inj z)), if_neg e]
      exact h4 c
theorem Mp.upd {H : Hp} {d l : Addr} {M : Int → Option V} {o : HO} (h : Mp H d M) (hn : d ≠ l) : Mp (upd H l o) d M := by
  obtain ⟨kvs, h1, h2⟩ := h
  exact ⟨kvs, by rw [upd_ne hn]; exact h1, h2⟩
theorem KAt.upd {H : Hp} {d q : Addr} {l : List Int} {M : Int → Option V} {o : HO} (h : KAt H d l M) (hn : d ≠ q) : KAt (upd H q o) d l M := by
  obtain ⟨kvs, h1, h2⟩ := h
  exact ⟨kvs, by rw [upd_ne hn]; exact h1, h2⟩
end BT
namespace BT
open PySem L2
abbrev sWayTo : Stmt := top 18
abbrev nWayTo : List Str := ["ways", "begin", "ends", "barred", "froms", "waiting", "block", "found", "other"]
theorem scWayTo : FnScope nWayTo ["ways", "begin", "ends", "barred"] (defScope sWayTo) := ⟨rfl, rfl, rfl, by decide +kernel, rfl, by decide +kernel, by decide +kernel⟩
/-- what is barred, a list or a dict's keys -/
def Bar (K : PySem.W.Frag) (H : Hp) (p : Addr) (bl : List Int) : Prop := SqL K H p (bl.map V.int) ∨ ∃ M, Mp H p M ∧ ∀ x, (M x).isSome = decide (x ∈ bl)
theorem Bar.same {K : PySem.W.Frag} {H H' : Hp} (s : Same H H') {p : Addr} {bl : List Int} (h : Bar K H p bl) : Bar K H' p bl := by
  rcases h with h | ⟨M, h1, h2⟩
  · exact .inl (s.seq h)
  · exact .inr ⟨M, h1.same s, h2⟩
/-- way_to -/
def spWayTo (K : PySem.W.Frag) : Sp := fun vs H Q _ => ∃ (dw de db : Addr) (a t e : Int) (W : Ways) (bl : List Int), vs = [.ref dw, .int a, .ref de, .ref db] ∧ WaysAt H dw W ∧ GOk W e ∧ SqL K H de ([t].map V.int) ∧ Bar K H db bl ∧ a ∈ ks W ∧
  (∃ q, Path (nx W) a q t ∧ ∀ x, x ∈ q → x ≠ a → ¬ x ∈ bl) ∧
  ∀ H' p l, Same H H' → H' p = some (.lst (l.map V.int)) → Path (nx W) a l t → l.Nodup → l.length ≤ 9 → (∀ x, x ∈ l → x ≠ a → ¬ x ∈ bl) → Q (.ref p) H'
/-- the dict froms -/
def fromV (F : Int → Option (Option Int)) : Int → Option V := fun b => (F b).map fun y => match y with | none => .non | some u => .int u
theorem fromV_set {F : Int → Option (Option Int)} {o u : Int} : fromV (setF F o u) = fun c => if c = o then some (.int u) else fromV F c := by
  funext c
  unfold fromV setF
  by_cases e : c = o
  · rw [if_pos e, if_pos e]; rfl
  · rw [if_neg e, if_neg e]
theorem bar_or {K : PySem.W.Frag} {H : Hp} {p : Addr} {bl : List Int} {o : Int} {Q : VK} (h : Bar K H p bl) (q : Q (.bl (!decide (o ∈ bl))) H) : rNotInI K (.int o) (.ref p) H Q ∨ rDNotIn (.int o) (.ref p) H Q := by
  rcases h with h | ⟨M, h1, h2⟩
  · exact .inl ⟨o, p, bl, rfl, rfl, h, q⟩
  · refine .inr ⟨p, M o, rfl, h1.get o, ?_⟩
    rw [h2 o]
    exact q
theorem nodup_rev {l : List Int} (h : l.Nodup) : l.reverse.Nodup := by
  unfold List.Nodup at h ⊢
  rw [List.pairwise_reverse]
  exact h.imp fun z y => z y.symm
theorem seq_index0 (n : Nat) : seqIndex? 0 (n + 1) = some 0 := by
  unfold seqIndex?
  simp
section
variable {P : Program} {w : World} {K : PySem.W.Frag} {mg : Str → Option Value} {base : Heap}
theorem ok_wayto (D : Df K mg "way_to" sWayTo ["ways", "begin", "ends", "barred"]) : C8.Cal P w K mg base 1 "way_to" (spWayTo K) [] := by
  refine D.ok scWayTo (fun vs H Q E h => ?_) (fun f cdv A outer s H vs Q E hr h => ?_)
  · obtain ⟨_, _, _, _, _, _, _, _, rfl, _⟩ := h
    rfl
  · obtain ⟨dw, de, db, a, t, e, W, bl, rfl, hW, G, hde, hbar, ha, ⟨q, hq, hqf⟩, k⟩ := h
    have hu := hu_of hr
    have hu4 := hr.units
    have nd := scWayTo.nd
    refine ⟨_, pss_cons (ps_par (i := 4) (j := 5) rfl nd rfl rfl (by decide) rfl rfl (pa_cons (pe_disp (pps_cons (pv 1) pe_non pps_nil) (by rfl) (by rfl) (fun z => by cases z) (by decide)) (pa_cons (pe_lst (pa_cons (pv 1) pa_nil)) pa_nil)) (by rfl))
      (pss_cons (ps_while PassesOwn.never (pt_cmpR (op_neInts hu4) (pv 5) (pe_lst pa_nil) (nomark _))
        (pss_cons (ps_set (i := 6) nd rfl (.inl rfl) (pe_bm PySem.F.plainAttrs_list PySem.F.slot_list_pop PySem.F.type_list_pop mt_popAt (pv 5) (pa_cons pe_int pa_nil)))
        (pss_cons (ps_if (pt_cmpR op_inInts (pv 6) (pv 2) (by rfl))
          (pss_cons (ps_set (i := 7) nd rfl (.inl rfl) (pe_lst pa_nil))
          (pss_cons (ps_while PassesOwn.never (pt_cmpR op_notN (pv 6) pe_non (nomark _))
            (pss_cons (ps_expr (pe_bm PySem.F.plainAttrs_list PySem.F.slot_list_append PySem.F.type_list_append mt_append (pv 7) (pa_cons (pv 6) pa_nil)))
            (pss_one (ps_set (i := 6) nd rfl (.inl rfl) (pe_dget hu (pv 4) (pv 6) (fun _ _ => rfl))))))
          (pss_one (ps_ret (pe_revL (pv 7)))))) pss_nil)
        (pss_one (ps_for PassesOwn.never rfl (pi_list (pe_dget hu (pv 0) (pv 6) (fun _ _ => rfl))) (pg_name (i := 8) nd rfl (.inl rfl))
          (pss_one (ps_if (PW.pt (pw_and (pt_cmpR (op_dnotin hu) (pv 8) (pv 4) (by rfl)) (pw_and1 (pt_cmpR (op_notInInts.or (op_dnotin hu)) (pv 8) (pv 3) (by rfl)))))
            (pss_cons (ps_dput hu (pv 4) (pv 8) (pv 6) rfl)
            (pss_one (ps_expr (pe_bm PySem.F.plainAttrs_list PySem.F.slot_list_append PySem.F.type_list_append mt_append (pv 5) (pa_cons (pv 8) pa_nil))))) pss_nil)))))))
      (pss_one (ps_ret pe_non))), ?_⟩
    -- froms, waiting = {begin: None}, [begin]
    refine fun dm ndm => ⟨.int a, rfl, upd_same, [(Sum.inl a, .non)], rfl, by show 1 ≤ 15; decide, ?_⟩
    refine ⟨.int a, rfl, by show 1 ≤ sizeLine; decide, fun dq ndq => ⟨_, _, rfl, ?_⟩⟩
    have s2 : Same H (upd (upd H dm (.dK [])) dm (.dK (mergeK [] [(Sum.inl a, .non)]))) := same_mut (same_upd ndm) ndm
    have ndq0 := s2.free ndq
    have s3 := s2.trans (same_upd (o := .lst [.int a]) ndq)
    have hm0 : KAt (upd (upd H dm (.dK [])) dm (.dK (mergeK [] [(Sum.inl a, .non)]))) dm (ks W) (fromV fun x => if x = a then some none else none) := by
      refine ⟨[(Sum.inl a, .non)], upd_same, by simp, fun q hq => ?_, fun b => ?_⟩
      · have hq : q = Sum.inl a := by simpa using hq
        rw [hq]; exact List.mem_map.mpr ⟨a, ha, rfl⟩
      · show _ = fromV (fun x => if x = a then some none else none) b
        unfold fromV
        show _ = Option.map (fun y => match y with | none => V.non | some u => .int u) (if b = a then some none else none)
        by_cases eb : b = a
        · rw [eb, if_pos rfl]; exact valV_pos rfl
        · rw [if_neg eb]; exact (valV_neg (fun z => eb (Sum.inl.inj z).symm)).trans rfl
    have hm1 := hm0.same (same_upd (o := .lst [.int a]) ndq)
    have hq1 : (upd (upd (upd H dm (.dK [])) dm (.dK (mergeK [] [(Sum.inl a, .non)]))) dq (.lst [.int a])) dq = some (.lst ([a].map V.int)) := upd_same
    have nmq : dm ≠ dq := by
      obtain ⟨_, z, _⟩ := hm0
      exact ne_of_none z ndq
    generalize upd (upd (upd H dm (.dK [])) dm (.dK (mergeK [] [(Sum.inl a, .non)]))) dq (.lst [.int a]) = H1 at s3 hm1 hq1
    clear hm0 s2 ndq
    have hkl : (ks W).length ≤ 9 := by rw [List.length_map]; exact G.len
    have hb0 : bmu (ks W) (fun x => if x = a then some (none : Option Int) else none) [a] ≤ 10 := by
      unfold bmu
      refine Nat.le_trans (Nat.add_le_add_right (List.length_filter_le _ _) _) ?_
      show (ks W).length + 1 ≤ 10
      omega
    have hwl : ∀ {F : Int → Option (Option Int)} {w : List Int}, bmu (ks W) F w ≤ 10 → w.length ≤ 10 := fun h => by unfold bmu at h; omega
    refine ⟨fun m σ H' => ∃ (F : Int → Option (Option Int)) (w : List Int) (v6 v7 v8 : Option V), σ = [some (.ref dw), some (.int a), some (.ref de), some (.ref db), some (.ref dm), some (.ref dq), v6, v7, v8] ∧ Same H H' ∧
        KAt H' dm (ks W) (fromV F) ∧ H' dq = some (.lst (w.map V.int)) ∧ BF (nx W) (ks W) a (fun x => x = t) (fun x => x ∈ bl) F w ∧ bmu (ks W) F w ≤ 10 ∧ m = bmu (ks W) F w,
      ⟨_, _, _, none, none, none, rfl, s3, hm1, hq1, bf_init ha, hb0, rfl⟩, fun m σ H' hI => ?_⟩
    clear hb0 hm1 hq1 s3 H1
    obtain ⟨F, w, v6, v7, v8, rfl, sm, hm, hq', bf, hbm, rfl⟩ := hI
    refine ⟨.ref dq, rfl, Nat.zero_le _, fun p np => ⟨dq, p, w, [], rfl, rfl, .inl (.inl (same_upd np _ _ hq')), .inl (.inl upd_same), _, rfl, iteN (fun hne => ?_) (fun he => ?_)⟩⟩
    · have sm1 := sm.trans (same_upd (o := .lst []) np)
      have hm1 := hm.same (same_upd (o := .lst []) np)
      have hq1 := same_upd (o := .lst []) np _ _ hq'
      generalize upd H' p (.lst []) = H1 at sm1 hm1 hq1
      clear sm hm hq' np
      cases w with
      | nil => exact absurd rfl hne
      | cons c w =>
      have hmu : bmu (ks W) F (c :: w) = bmu (ks W) F w + 1 := by unfold bmu; rw [List.length_cons]; omega
      refine ⟨fun σ' H2 => ∃ (F' : Int → Option (Option Int)) (w' : List Int) (v6 v7 v8 : Option V), σ' = [some (.ref dw), some (.int a), some (.ref de), some (.ref db), some (.ref dm), some (.ref dq), v6, v7, v8] ∧ Same H H2 ∧
        KAt H2 dm (ks W) (fromV F') ∧ H2 dq = some (.lst (w'.map V.int)) ∧ BF (nx W) (ks W) a (fun x => x = t) (fun x => x ∈ bl) F' w' ∧ bmu (ks W) F' w' ≤ bmu (ks W) F w, fun σ' H2 hN => ?_, ?_⟩
      · obtain ⟨F', w', a1, a2, a3, e1, e2, e3, e4, e5, e6⟩ := hN
        exact ⟨_, by omega, F', w', a1, a2, a3, e1, e2, e3, e4, e5, by omega, rfl⟩
      -- block = waiting.pop(0)
      refine ⟨.ref dq, rfl, .inl ⟨rfl, _, .inl (.inl hq1)⟩, dq, _, 0, 0, .int c, rfl, rfl, hq1, by decide, by decide, ?_, rfl, ?_⟩
      · rw [List.length_map, List.length_cons]
        exact seq_index0 _
      have sm2 : Same H (upd H1 dq (.lst ((List.map V.int (c :: w)).eraseIdx 0))) := same_mut sm1 ndq0
      have hm2 : KAt (upd H1 dq (.lst ((List.map V.int (c :: w)).eraseIdx 0))) dm (ks W) (fromV F) := hm1.upd nmq
      have hq2 : (upd H1 dq (.lst ((List.map V.int (c :: w)).eraseIdx 0))) dq = some (.lst (w.map V.int)) := upd_same
      generalize upd H1 dq (.lst ((List.map V.int (c :: w)).eraseIdx 0)) = H2 at sm2 hm2 hq2
      clear sm1 hm1 hq1
      -- if block in ends
      refine ⟨.int c, rfl, .ref de, rfl, c, de, [t], rfl, rfl, sm2.seq hde, _, rfl, iteD (fun hc => ?_) (fun hc => ?_)⟩
      · have hc : c = t := by simpa using hc
        obtain ⟨yc, hyc⟩ := bf.wt c (by simp)
        obtain ⟨_, p, wy⟩ := bf.way c yc hyc
        subst hc
        -- found = []
        refine ⟨Nat.zero_le _, fun df ndf => ?_⟩
        have sm3 := sm2.trans (same_upd (o := .lst []) ndf)
        have hm3 := hm2.same (same_upd (o := .lst []) ndf)
        have hf3 : (upd H2 df (.lst [])) df = some (.lst (([] : List Int).map V.int)) := upd_same
        have nfm : dm ≠ df := by
          obtain ⟨_, z, _⟩ := hm2
          exact ne_of_none z ndf
        have ndf0 := sm2.free ndf
        generalize upd H2 df (.lst []) = H3 at sm3 hm3 hf3
        clear sm2 hm2 ndf
        have hpl : p.length ≤ 9 := by
          have h1 := nodup_sub_len (l := p) (V := ks W) wy.nd fun x hx => by
            obtain ⟨y, hy⟩ := wy.ch.dom x hx
            exact (bf.way x y hy).1
          omega
        refine ⟨fun m σ H' => ∃ (done rest : List Int) (v8 : Option V), p = done ++ rest ∧ H' df = some (.lst (done.map V.int)) ∧ Same H H' ∧ KAt H' dm (ks W) (fromV F) ∧ m = rest.length ∧
            ((rest = [] ∧ σ = [some (.ref dw), some (.int a), some (.ref de), some (.ref db), some (.ref dm), some (.ref dq), some .non, some (.ref df), v8]) ∨ ∃ b, σ = [some (.ref dw), some (.int a), some (.ref de), some (.ref db), some (.ref dm), some (.ref dq), some (.int b), some (.ref df), v8] ∧ Ch F b rest),
          ⟨_, [], p, v8, rfl, hf3, sm3, hm3, rfl, .inr ⟨c, rfl, wy.ch⟩⟩, fun m σ H' hI => ?_⟩
        clear hf3 sm3 hm3 hq2 H3
        obtain ⟨done, rest, v8, hp, hf, sm, hm, rfl, hcase⟩ := hI
        rcases hcase with ⟨rfl, rfl⟩ | ⟨b, rfl, hch⟩
        · refine ⟨.non, rfl, rfl, _, rfl, iteN (fun z => absurd rfl z) (fun _ => ?_)⟩
          rw [List.append_nil] at hp
          subst hp
          refine ⟨.ref df, rfl, df, _, rfl, .inl (.inl hf), fun q nq => k _ q p.reverse (sm.trans (same_upd nq)) (by rw [upd_same, List.map_reverse]) wy.path (nodup_rev wy.nd) (by rw [List.length_reverse]; exact hpl) fun x hx => wy.free x (List.mem_reverse.mp hx)⟩
        · refine ⟨.int b, rfl, rfl, _, rfl, iteN (fun _ => ?_) (fun z => by cases z)⟩
          refine ⟨fun σ' H1 => ∃ (done' rest' : List Int) (v8 : Option V), p = done' ++ rest' ∧ H1 df = some (.lst (done'.map V.int)) ∧ Same H H1 ∧ KAt H1 dm (ks W) (fromV F) ∧ rest'.length < rest.length ∧
            ((rest' = [] ∧ σ' = [some (.ref dw), some (.int a), some (.ref de), some (.ref db), some (.ref dm), some (.ref dq), some .non, some (.ref df), v8]) ∨ ∃ b, σ' = [some (.ref dw), some (.int a), some (.ref de), some (.ref db), some (.ref dm), some (.ref dq), some (.int b), some (.ref df), v8] ∧ Ch F b rest'), fun σ' H1 hN => ?_, ?_⟩
          · obtain ⟨d', r', v8, e1, e2, e3, e4, e5, e6⟩ := hN
            exact ⟨_, e5, d', r', v8, e1, e2, e3, e4, rfl, e6⟩
          have hdl : done.length ≤ 9 := by rw [hp, List.length_append] at hpl; omega
          refine ⟨.ref df, rfl, .inl ⟨rfl, _, .inl (.inl hf)⟩, .int b, rfl, df, _, _, rfl, rfl, hf, by rw [List.length_map]; exact small9 (by omega), ?_⟩
          have hfa : (upd H' df (.lst (done.map V.int ++ [V.int b]))) df = some (.lst ((done ++ [b]).map V.int)) := by rw [upd_same, List.map_append]; rfl
          have sma : Same H (upd H' df (.lst (done.map V.int ++ [V.int b]))) := same_mut sm ndf0
          have hma : KAt (upd H' df (.lst (done.map V.int ++ [V.int b]))) dm (ks W) (fromV F) := hm.upd nfm
          generalize upd H' df (.lst (done.map V.int ++ [V.int b])) = Ha at hfa sma hma
          have hg := (hma.mp (by omega)).get b
          cases hch with
          | root hr =>
            have : fromV F b = some .non := by unfold fromV; rw [hr]; rfl
            rw [this] at hg
            exact ⟨.ref dm, rfl, .int b, rfl, dm, .non, rfl, hg, done ++ [b], [], v8, by rw [hp, List.append_nil], hfa, sma, hma, by simp, .inl ⟨rfl, rfl⟩⟩
          | @step u _ p' hst hch =>
            have : fromV F b = some (.int u) := by unfold fromV; rw [hst]; rfl
            rw [this] at hg
            exact ⟨.ref dm, rfl, .int b, rfl, dm, .int u, rfl, hg, done ++ [b], p', v8, by rw [hp, List.append_assoc]; rfl, hfa, sma, hma, by simp, .inr ⟨u, rfl, hch⟩⟩
      · have hc : ¬ c = t := fun z => hc (by rw [z]; simp)
        have bi := bf_pop bf hc
        have hck : c ∈ ks W := by
          obtain ⟨y, hy⟩ := bi.cur
          exact (bi.way c y hy).1
        obtain ⟨al, ga, la0⟩ := hW.get hck
        have lal : ∀ {H'}, Same H H' → SqL K H' al ((nx W c).map V.int) := fun s => .inl (.inl (s _ _ la0))
        refine ⟨.ref dw, rfl, .int c, rfl, dw, .ref al, rfl, dget_same sm2 ga, al, rfl, ⟨_, lal sm2⟩, for_list (K := K) (a := al) (xs := (nx W c).map V.int)
          (fun i σ H3 => ∃ (F' : Int → Option (Option Int)) (w' : List Int) (v8 : Option V), σ = [some (.ref dw), some (.int a), some (.ref de), some (.ref db), some (.ref dm), some (.ref dq), some (.int c), v7, v8] ∧ Same H H3 ∧
            KAt H3 dm (ks W) (fromV F') ∧ H3 dq = some (.lst (w'.map V.int)) ∧ BFI (nx W) (ks W) a (fun x => x = t) (fun x => x ∈ bl) F' w' c i ∧ bmu (ks W) F' w' ≤ bmu (ks W) F w)
          ⟨F, w, v8, rfl, sm2, hm2, hq2, bi, Nat.le_refl _⟩ (fun i σ H3 _ ⟨_, _, _, _, s3, _⟩ => lal s3) (fun i x σ H3 hx hI3 => ?_) (fun σ H3 hI3 => ?_)⟩
        · obtain ⟨F', w', v8, rfl, s3, hm3, hq3, b3, hmu3⟩ := hI3
          obtain ⟨o, ho, rfl⟩ := map_int_at hx
          have hok : o ∈ ks W := G.clo c o hck (List.mem_of_getElem? ho)
          have hg := (hm3.mp (by omega)).get o
          have hsk : ((∃ y, F' o = some y) ∨ o ∈ bl) → ∃ (F2 : Int → Option (Option Int)) (w2 : List Int) (w8 : Option V), [some (V.ref dw), some (.int a), some (.ref de), some (.ref db), some (.ref dm), some (.ref dq), some (.int c), v7, some (.int o)] = [some (V.ref dw), some (.int a), some (.ref de), some (.ref db), some (.ref dm), some (.ref dq), some (.int c), v7, w8] ∧ Same H H3 ∧
            KAt H3 dm (ks W) (fromV F2) ∧ H3 dq = some (.lst (w2.map V.int)) ∧ BFI (nx W) (ks W) a (fun x => x = t) (fun x => x ∈ bl) F2 w2 c (i + 1) ∧ bmu (ks W) F2 w2 ≤ bmu (ks W) F w := fun z => ⟨F', w', _, rfl, s3, hm3, hq3, bfi_skip b3 ho z, hmu3⟩
          cases hF : F' o with
          | some y =>
            obtain ⟨v, hv⟩ : ∃ v, fromV F' o = some v := by unfold fromV; rw [hF]; exact ⟨_, rfl⟩
            rw [hv] at hg
            exact ⟨.int o, rfl, .ref dm, rfl, dm, _, rfl, hg, _, rfl, iteF (iteF (hsk (.inl ⟨y, hF⟩)))⟩
          | none =>
            have : fromV F' o = none := by unfold fromV; rw [hF]; rfl
            rw [this] at hg
            refine ⟨.int o, rfl, .ref dm, rfl, dm, _, rfl, hg, _, rfl, iteT ?_⟩
            have hbar3 := hbar.same s3
            refine ⟨.int o, rfl, .ref db, rfl, bar_or hbar3 ⟨_, rfl, iteN (fun hno => ?_) (fun hin => (hsk (.inr hin)))⟩⟩
            obtain ⟨ob, hput, hm4⟩ := hm3.put (v := .int c) (by omega) hok
            refine ⟨.int c, rfl, .ref dm, rfl, .int o, rfl, dm, _, rfl, hput, ?_⟩
            rw [← fromV_set] at hm4
            have hq4 : (upd H3 dm ob) dq = some (.lst (w'.map V.int)) := by rw [upd_ne nmq.symm]; exact hq3
            have s4 : Same H (upd H3 dm ob) := same_mut s3 ndm
            generalize upd H3 dm ob = H4 at hm4 hq4 s4
            have hmu4 : bmu (ks W) (setF F' o c) (w' ++ [o]) ≤ bmu (ks W) F w := Nat.le_trans (bmu_new hok hF) hmu3
            have hw4 := hwl (Nat.le_trans hmu4 (by omega))
            rw [List.length_append, List.length_singleton] at hw4
            refine ⟨.ref dq, rfl, .inl ⟨rfl, _, .inl (.inl hq4)⟩, .int o, rfl, dq, _, _, rfl, rfl, hq4, by rw [List.length_map]; exact small9 (by omega), ?_⟩
            exact ⟨setF F' o c, w' ++ [o], _, rfl, same_mut s4 ndq0, hm4.upd nmq, by rw [upd_same, List.map_append]; rfl, bfi_new b3 ho hok hF hno, hmu4⟩
        · obtain ⟨F', w', v8, rfl, s3, hm3, hq3, b3, hmu3⟩ := hI3
          rw [List.length_map] at b3
          exact ⟨F', w', _, _, _, rfl, s3, hm3, hq3, bfi_end b3, hmu3⟩
    · subst he
      exact absurd (bf_never bf hq hqf rfl) id
end
end BT
namespace BT
open PySem PyProof.Rows L2
abbrev sFirst : Stmt := top 19
abbrev nFirst : List Str := ["way", "ring", "block", "at"]
theorem scFirst : FnScope nFirst ["way", "ring"] (defScope sFirst) := ⟨rfl, rfl, rfl, by decide +kernel, rfl, by decide +kernel, by decide +kernel⟩
/-- first_part -/
def spFirst (K : PySem.W.Frag) : Sp := fun vs H Q _ => ∃ (a b : Addr) (l r : List Int), vs = [.ref a, .ref b] ∧ SqL K H a (l.map V.int) ∧ SqL K H b (r.map V.int) ∧ l.length ≤ 100 ∧ (∃ x, x ∈ l ∧ x ∈ r) ∧
  ∀ H' p (i : Nat) (x : Int), Same H H' → H' p = some (.lst ((l.take (i + 1)).map V.int)) → l[i]? = some x → x ∈ r → (∀ (m : Nat) (y : Int), m < i → l[m]? = some y → y ∉ r) → Q (.ref p) H'
theorem cut_to (xs : List V) (n : Nat) : cutV xs none (some (n : Int)) = xs.take n := by
  unfold cutV
  rw [HT.sIx_none, show HT.sIx xs.length xs.length (some (n : Int)) = min n xs.length from HT.sIx_nat xs.length xs.length n, List.drop_zero, Nat.sub_zero]
  by_cases h : n ≤ xs.length
  · rw [Nat.min_eq_left h]
  · rw [Nat.min_eq_right (by omega), List.take_of_length_le (Nat.le_refl _), List.take_of_length_le (by omega)]
theorem flat_bls (bs : List Bool) : (bs.map V.bl).all flatV = true := by
  rw [List.all_map, List.all_eq_true]
  exact fun _ _ => rfl
section
variable {P : Program} {w : World} {K : PySem.W.Frag} {mg : Str → Option Value} {base : Heap}
theorem ok_first (D : Df K mg "first_part" sFirst ["way", "ring"]) : C8.Cal P w K mg base 1 "first_part" (spFirst K) [] := by
  refine D.ok scFirst (fun vs H Q E h => ?_) (fun f cdv A outer s H vs Q E hr h => ?_)
  · obtain ⟨_, _, _, _, rfl, _⟩ := h
    rfl
  · obtain ⟨a, b, l, r, rfl, hl, hb, hlen, hex, k⟩ := h
    have hu := hu_of hr
    have nd := scFirst.nd
    refine ⟨_, pss_cons (ps_set (i := 3) nd rfl (.inl rfl) (pe_bm PySem.F.plainAttrs_list PySem.F.slot_list_index PySem.F.type_list_index mt_index (pe_lc (own := [("block", 2)]) (g := gName 2) (te := tOp (rInI K) (tVar 2) (tVar 1)) rfl nd (pi_list (pv 0)) (blkOk_by (own := [("block", 2)]) (N := nFirst) (sc := defScope sFirst) (by decide +kernel))
          (fun _ _ _ _ _ => pg_name (i := 2) nd rfl (Or.inl rfl)) (fun _ _ _ _ _ => pts_nil) (fun _ _ _ _ _ => pe_cmpR op_inInts (pv 2) (pv 1) (by rfl))) (pa_cons pe_bl pa_nil)))
      (pss_one (ps_ret (pe_slice sl_list (pv 0) po_none (po_some (pe_op op_add (pv 3) pe_int))))), ?_⟩
    refine ⟨.ref a, rfl, a, rfl, ⟨_, hl⟩, fun Dn nD => ?_⟩
    refine lc_bools (fun o => decide (o ∈ r)) nD hl (by omega) (fun o H' N M ho s1 hN => ?_) (fun H1 s1 hD => ?_)
    · exact ⟨rfl, .int o, rfl, .ref b, rfl, o, b, r, rfl, rfl, s1.seq hb, hN⟩
    · obtain ⟨i, x, hi, hx, hm⟩ := first_at (R := fun x => x ∈ r) hex
      have hD' : SqL K H1 Dn ((l.map fun o => decide (o ∈ r)).map V.bl) := .inl (.inl hD)
      refine ⟨.inl ⟨rfl, _, hD'⟩, Dn, _, .bl true, i, .bl true, rfl, rfl, hD', rfl, flat_bls _, ?_, rfl, fun m z hz hmz => ?_, ?_⟩
      · rw [List.getElem?_map, List.getElem?_map, hi]
        show some (V.bl (decide (x ∈ r))) = _
        rw [decide_eq_true hx]
      · rw [List.getElem?_map, List.getElem?_map] at hmz
        cases hy : l[m]? with
        | none => rw [hy] at hmz; cases hmz
        | some y =>
          rw [hy] at hmz
          have hmz : V.bl (decide (y ∈ r)) = z := Option.some.inj hmz
          rw [decide_eq_false (hm m y hz hy)] at hmz
          rw [← hmz]
          rfl
      · refine ⟨.ref a, rfl, .int ((i : Nat) : Int), rfl, ((i : Nat) : Int), 1, rfl, rfl, ((i : Nat) : Int) + 1, rfl, a, _, rfl, s1.seq hl, fun q nq => ?_⟩
        have e1 : cutV (l.map V.int) none (some ((i : Int) + 1)) = (l.take (i + 1)).map V.int := by
          rw [show ((i : Int) + 1) = ((i + 1 : Nat) : Int) by omega, cut_to, List.map_take]
        exact k _ q i x (s1.trans (same_upd nq)) (by rw [upd_same, e1]) hi hx hm
end
end BT
namespace BT
open PySem PySem.Spec PyProof.Rows L2
/-! ### Twist -/
def TwistAt (cT : Addr) (H : Hp) (p : Addr) (r o t : List Int) : Prop := ∃ dx fs dr d1 d2, H p = some (.ins cT dx fs) ∧ fs.lookup ("ring" : Str) = some (.ref dr) ∧ fs.lookup ("one" : Str) = some (.ref d1) ∧ fs.lookup ("other" : Str) = some (.ref d2) ∧ (fs.lookup ("leads" : Str) = none ∧ fs.lookup ("shows" : Str) = none) ∧
  H dr = some (.lst (r.map V.int)) ∧ H d1 = some (.lst (o.map V.int)) ∧ H d2 = some (.lst (t.map V.int))
theorem TwistAt.same {cT : Addr} {H H' : Hp} (s : Same H H') {p : Addr} {r o t : List Int} (h : TwistAt cT H p r o t) : TwistAt cT H' p r o t := by
  obtain ⟨dx, fs, dr, d1, d2, h1, h2, h3, h4, hN, h5, h6, h7⟩ := h
  exact ⟨dx, fs, dr, d1, d2, s _ _ h1, h2, h3, h4, hN, s _ _ h5, s _ _ h6, s _ _ h7⟩
abbrev sTInit : Stmt := inClass (top 15) 0
theorem scTInit : FnScope ["self", "ring", "one", "other"] ["self", "ring", "one", "other"] (defScope sTInit) := ⟨rfl, rfl, rfl, by decide +kernel, rfl, by decide +kernel, by decide +kernel⟩
def spTInit (K : PySem.W.Frag) (cT : Addr) : Sp := fun vs H Q _ => ∃ (p dx a b c : Addr) (r o t : List Int), vs = [.ref p, .ref a, .ref b, .ref c] ∧ H p = some (.ins cT dx []) ∧ SqL K H a (r.map V.int) ∧ SqL K H b (o.map V.int) ∧ SqL K H c (t.map V.int) ∧
  ∀ H' q, H q = none → (∀ b o, H b = some o → b ≠ p → H' b = some o) → (∀ z H'', z ≠ p → H z ≠ none → (∀ b o, H' b = some o → b ≠ z → H'' b = some o) → TwistAt cT H'' p r o t) → TwistAt cT H' p r o t → Q .non H'
abbrev sTEq : Stmt := inClass (top 15) 1
abbrev sTShows : Stmt := inClass (top 15) 2
abbrev sTLeads : Stmt := inClass (top 15) 3
abbrev sPEq : Stmt := inClass (top 14) 0
abbrev sPShows : Stmt := inClass (top 14) 1
section
variable {P : Program} {w : World} {K : PySem.W.Frag} {mg : Str → Option Value} {base : Heap} {cG cP cT : Addr}
theorem ro_n : ¬ (("ring" : Str) = "one") := by decide +kernel
theorem rt_n : ¬ (("ring" : Str) = "other") := by decide +kernel
theorem ot_n : ¬ (("one" : Str) = "other") := by decide +kernel
theorem sq_keep {H H' : Hp} {p a : Addr} {xs : List V} {o : HO} (hp : H p = some o) (h1 : ∀ xs, o ≠ .lst xs) (h2 : ∀ d u, o ≠ .frz d u) (k : ∀ b o, H b = some o → b ≠ p → H' b = some o) (h : SqL K H a xs) : SqL K H' a xs := by
  rcases h with (h | ⟨u, h⟩) | h
  · exact .inl (.inl (k _ _ h (ne_of h hp (fun z => h1 _ z.symm))))
  · exact .inl (.inr ⟨u, k _ _ h (ne_of h hp (fun z => h2 _ _ z.symm))⟩)
  · exact .inr h
theorem ok_tinit (D : If K mg "Twist" cT "Twist.__init__" sTInit ["self", "ring", "one", "other"]) (T : TX K mg cG cP cT) : C8.Mak P w K mg base 1 "Twist" cT (spTInit K cT) [] := by
  refine D.ok scTInit (fun vs H Q E h => ?_) (fun f cdv A outer s H vs Q E hr h => ?_)
  · obtain ⟨_, _, _, _, _, _, _, _, rfl, _⟩ := h
    rfl
  · obtain ⟨p, dx, a, b, c, r, o, t, rfl, hp, ha, hb, hc, k⟩ := h
    refine ⟨_, pss_cons (ps_fld (pv 0) (pe_callTy call_list_of (by rfl) T.list boot_list (pa_cons (pv 1) pa_nil)) rfl)
      (pss_cons (ps_fld (pv 0) (pe_callTy call_list_of (by rfl) T.list boot_list (pa_cons (pv 2) pa_nil)) rfl)
      (pss_one (ps_fld (pv 0) (pe_callTy call_list_of (by rfl) T.list boot_list (pa_cons (pv 3) pa_nil)) rfl))), ?_⟩
    refine ⟨.ref a, rfl, a, _, rfl, .inl ha, fun d1 n1 => ?_⟩
    have s1 := same_upd (o := .lst (r.map V.int)) n1
    have np1 : p ≠ d1 := ne_of_none hp n1
    refine ⟨.ref p, rfl, p, cT, dx, [], rfl, s1 _ _ hp, T.t.cl, T.nR, by decide, ?_⟩
    have hp1 : (upd (upd H d1 (.lst (r.map V.int))) p (.ins cT dx (putF "ring" (.ref d1) []))) p = some (.ins cT dx (putF "ring" (.ref d1) [])) := upd_same
    have k1 : ∀ b o, H b = some o → b ≠ p → (upd (upd H d1 (.lst (r.map V.int))) p (.ins cT dx (putF "ring" (.ref d1) []))) b = some o := fun b o h hn => by rw [upd_ne hn]; exact s1 _ _ h
    have hd1 : (upd (upd H d1 (.lst (r.map V.int))) p (.ins cT dx (putF "ring" (.ref d1) []))) d1 = some (.lst (r.map V.int)) := by rw [upd_ne np1.symm, upd_same]
    generalize upd (upd H d1 (.lst (r.map V.int))) p (.ins cT dx (putF "ring" (.ref d1) [])) = H1 at hp1 k1 hd1
    refine ⟨.ref b, rfl, b, _, rfl, .inl (sq_keep hp (fun _ z => by cases z) (fun _ _ z => by cases z) k1 hb), fun d2 n2 => ?_⟩
    have s2 := same_upd (o := .lst (o.map V.int)) n2
    have np2 : p ≠ d2 := ne_of_none hp1 n2
    have n12 : d1 ≠ d2 := ne_of_none hd1 n2
    refine ⟨.ref p, rfl, p, cT, dx, _, rfl, s2 _ _ hp1, T.t.cl, T.n1, Nat.lt_of_le_of_lt (putF_le _ _ _) (by decide), ?_⟩
    have hp2 : (upd (upd H1 d2 (.lst (o.map V.int))) p (.ins cT dx (putF "one" (.ref d2) (putF "ring" (.ref d1) [])))) p = some (.ins cT dx (putF "one" (.ref d2) (putF "ring" (.ref d1) []))) := upd_same
    have k2 : ∀ b q, H1 b = some q → b ≠ p → (upd (upd H1 d2 (.lst (o.map V.int))) p (.ins cT dx (putF "one" (.ref d2) (putF "ring" (.ref d1) [])))) b = some q := fun b o h hn => by rw [upd_ne hn]; exact s2 _ _ h
    have hd2 : (upd (upd H1 d2 (.lst (o.map V.int))) p (.ins cT dx (putF "one" (.ref d2) (putF "ring" (.ref d1) [])))) d2 = some (.lst (o.map V.int)) := by rw [upd_ne np2.symm, upd_same]
    have hd12 := k2 _ _ hd1 np1.symm
    generalize upd (upd H1 d2 (.lst (o.map V.int))) p (.ins cT dx (putF "one" (.ref d2) (putF "ring" (.ref d1) []))) = H2 at hp2 k2 hd2 hd12
    have k12 : ∀ b q, H b = some q → b ≠ p → H2 b = some q := fun b q h hn => k2 _ _ (k1 _ _ h hn) hn
    refine ⟨.ref c, rfl, c, _, rfl, .inl (sq_keep hp (fun _ z => by cases z) (fun _ _ z => by cases z) k12 hc), fun d3 n3 => ?_⟩
    have s3 := same_upd (o := .lst (t.map V.int)) n3
    have np3 : p ≠ d3 := ne_of_none hp2 n3
    have n13 : d1 ≠ d3 := ne_of_none hd12 n3
    have n23 : d2 ≠ d3 := ne_of_none hd2 n3
    refine ⟨.ref p, rfl, p, cT, dx, _, rfl, s3 _ _ hp2, T.t.cl, T.n2, Nat.lt_of_le_of_lt (Nat.le_trans (putF_le _ _ _) (Nat.succ_le_succ (putF_le _ _ _))) (by decide), ?_⟩
    have hp3 : (upd (upd H2 d3 (.lst (t.map V.int))) p (.ins cT dx (putF "other" (.ref d3) (putF "one" (.ref d2) (putF "ring" (.ref d1) []))))) p = some (.ins cT dx (putF "other" (.ref d3) (putF "one" (.ref d2) (putF "ring" (.ref d1) [])))) := upd_same
    have k3 : ∀ b q, H2 b = some q → b ≠ p → (upd (upd H2 d3 (.lst (t.map V.int))) p (.ins cT dx (putF "other" (.ref d3) (putF "one" (.ref d2) (putF "ring" (.ref d1) []))))) b = some q := fun b o h hn => by rw [upd_ne hn]; exact s3 _ _ h
    have hd3 : (upd (upd H2 d3 (.lst (t.map V.int))) p (.ins cT dx (putF "other" (.ref d3) (putF "one" (.ref d2) (putF "ring" (.ref d1) []))))) d3 = some (.lst (t.map V.int)) := by rw [upd_ne np3.symm, upd_same]
    have hd13 := k3 _ _ hd12 np1.symm
    have hd23 := k3 _ _ hd2 np2.symm
    generalize upd (upd H2 d3 (.lst (t.map V.int))) p (.ins cT dx (putF "other" (.ref d3) (putF "one" (.ref d2) (putF "ring" (.ref d1) [])))) = H3 at hp3 k3 hd3 hd13 hd23
    have lR : (putF "other" (V.ref d3) (putF "one" (.ref d2) (putF "ring" (.ref d1) []))).lookup ("ring" : Str) = some (.ref d1) := by
      rw [lookup_putF, if_neg rt_n, lookup_putF, if_neg ro_n, lookup_putF, if_pos rfl]
    have l1 : (putF "other" (V.ref d3) (putF "one" (.ref d2) (putF "ring" (.ref d1) []))).lookup ("one" : Str) = some (.ref d2) := by
      rw [lookup_putF, if_neg ot_n, lookup_putF, if_pos rfl]
    have l2 : (putF "other" (V.ref d3) (putF "one" (.ref d2) (putF "ring" (.ref d1) []))).lookup ("other" : Str) = some (.ref d3) := by
      rw [lookup_putF, if_pos rfl]
    have lN : ∀ m : Str, ¬ m = "other" → ¬ m = "one" → ¬ m = "ring" → (putF "other" (V.ref d3) (putF "one" (.ref d2) (putF "ring" (.ref d1) []))).lookup m = none := fun m a1 a2 a3 => by
      rw [lookup_putF, if_neg a1, lookup_putF, if_neg a2, lookup_putF, if_neg a3]; rfl
    have lNs := And.intro (lN "leads" (by decide +kernel) (by decide +kernel) (by decide +kernel)) (lN "shows" (by decide +kernel) (by decide +kernel) (by decide +kernel))
    have kall : ∀ b q, H b = some q → b ≠ p → H3 b = some q := fun b q h hn => k3 _ _ (k12 _ _ h hn) hn
    have f1 : ∀ z, z ≠ p → H z ≠ none → z ≠ d1 := fun z _ hz e => hz (by rw [e]; exact n1)
    refine k H3 d1 n1 kall (fun z H'' hz hn kk => ?_) ⟨dx, _, d1, d2, d3, hp3, lR, l1, l2, lNs, hd13, hd23, hd3⟩
    obtain ⟨q, hq⟩ : ∃ q, H z = some q := by
      cases e : H z with
      | none => exact absurd e hn
      | some q => exact ⟨q, rfl⟩
    have e1 : z ≠ d1 := fun e => hn (by rw [e]; exact n1)
    have e2 : z ≠ d2 := fun e => by
      have := k1 _ _ hq hz
      rw [e, n2] at this; cases this
    have e3 : z ≠ d3 := fun e => by
      have := k12 _ _ hq hz
      rw [e, n3] at this; cases this
    exact ⟨dx, _, d1, d2, d3, kk _ _ hp3 hz.symm, lR, l1, l2, lNs, kk _ _ hd13 e1.symm, kk _ _ hd23 e2.symm, kk _ _ hd3 e3.symm⟩
end
end BT
namespace BT
open PySem PySem.Spec PyProof.Rows L2
theorem pe_nev {X : Cx} {e : Expr} : PE X e (fun _ _ _ => False) := ⟨fun _ _ _ _ _ _ h => h.elim⟩
theorem scEq : FnScope ["self", "other"] ["self", "other"] (defScope sTEq) := ⟨rfl, rfl, rfl, by decide +kernel, rfl, by decide +kernel, by decide +kernel⟩
theorem scPEq : FnScope ["self", "other"] ["self", "other"] (defScope sPEq) := ⟨rfl, rfl, rfl, by decide +kernel, rfl, by decide +kernel, by decide +kernel⟩
/-- Twist.__eq__, of a Plain -/
def spTEq (cP : Addr) : Sp := fun vs H Q _ => ∃ (a b dx : Addr) (fs : List (Str × V)), vs = [.ref a, .ref b] ∧ H b = some (.ins cP dx fs) ∧ Q (.bl false) H
/-- Plain.__eq__, of a Plain -/
def spPEq (cP : Addr) : Sp := fun vs H Q _ => ∃ (a b dx : Addr) (fs : List (Str × V)), vs = [.ref a, .ref b] ∧ H b = some (.ins cP dx fs) ∧ Q (.bl true) H
abbrev nLeads : List Str := ["self", "graph", "way", "block"]
theorem scLeads : FnScope nLeads ["self", "graph", "way"] (defScope sTLeads) := ⟨rfl, rfl, rfl, by decide +kernel, rfl, by decide +kernel, by decide +kernel⟩
def spLeads (K : PySem.W.Frag) (cG cT : Addr) : Sp := fun vs H Q _ => ∃ (p g a : Addr) (e : Int) (dw : Addr) (W : Ways) (r o t l : List Int), vs = [.ref p, .ref g, .ref a] ∧ TwistAt cT H p r o t ∧ GraphAt cG H g e dw W ∧ SqL K H a (l.map V.int) ∧ l.length ≤ 50 ∧
  ∀ (b : Bool) (H' : Hp), Same H H' → (b = true ↔ Leads (ks W) (nx W) e r l) → Q (.bl b) H'
theorem cut_but (xs : List V) : cutV xs none (some (-1)) = xs.dropLast := by
  unfold cutV
  rw [HT.sIx_none]
  have e : HT.sIx xs.length xs.length (some (-1)) = xs.length - 1 := by
    cases h : xs.length with
    | zero => rfl
    | succ n =>
      unfold HT.sIx
      simp
      omega
  rw [e, List.drop_zero, Nat.sub_zero, List.dropLast_eq_take]
section
variable {P : Program} {w : World} {K : PySem.W.Frag} {mg : Str → Option Value} {base : Heap} {cG cP cT : Addr}
theorem ok_teq (D : Mf K cT "__eq__" "Twist.__eq__" sTEq ["self", "other"]) (T : TX K mg cG cP cT) : C8.Met P w K mg base 1 cT "__eq__" (spTEq cP) [] := by
  refine D.ok scEq (fun vs H Q E h => ?_) (fun f cdv A outer s H vs Q E hr h => ?_)
  · obtain ⟨_, _, _, _, rfl, _⟩ := h
    rfl
  · obtain ⟨a, b, dx, fs, rfl, hb, k⟩ := h
    refine ⟨_, pss_one (ps_ret (pe_and (pe_callB call_isi (by rfl) T.isi boot_isinstance (pa_cons (pv 1) (pa_cons (pe_glob (by rfl) T.mgT (v := .ref cT) rfl) pa_nil))) (pe_one pe_nev))), ?_⟩
    exact ⟨.ref b, rfl, .ref b, .ref cT, .ref cP, .ref cT, false, rfl, .own cT, T.p.ty hb, T.pt, false, rfl, iteF k⟩
theorem ok_peq (D : Mf K cP "__eq__" "Plain.__eq__" sPEq ["self", "other"]) (T : TX K mg cG cP cT) : C8.Met P w K mg base 1 cP "__eq__" (spPEq cP) [] := by
  refine D.ok scPEq (fun vs H Q E h => ?_) (fun f cdv A outer s H vs Q E hr h => ?_)
  · obtain ⟨_, _, _, _, rfl, _⟩ := h
    rfl
  · obtain ⟨a, b, dx, fs, rfl, hb, k⟩ := h
    refine ⟨_, pss_one (ps_ret (pe_callB call_isi (by rfl) T.isi boot_isinstance (pa_cons (pv 1) (pa_cons (pe_glob (by rfl) T.mgP (v := .ref cP) rfl) pa_nil)))), ?_⟩
    exact ⟨.ref b, rfl, .ref b, .ref cP, .ref cP, .ref cP, true, rfl, .own cP, T.p.ty hb, T.pp, k⟩
theorem ok_leads (D : Mf K cT "leads" "Twist.leads" sTLeads ["self", "graph", "way"]) (T : TX K mg cG cP cT) (cW : C8.Cal P w K mg base 1 "is_way" (spWay K cG) []) : C8.Met P w K mg base 2 cT "leads" (spLeads K cG cT) [] := by
  refine D.ok scLeads (fun vs H Q E h => ?_) (fun f cdv A outer s H vs Q E hr h => ?_)
  · obtain ⟨_, _, _, _, _, _, _, _, _, _, rfl, _⟩ := h
    rfl
  · obtain ⟨p, g, a, e, dw, W, r, o, t, l, rfl, hT, hG, hl, hlen, k⟩ := h
    have hu := hu_of hr
    have hu4 := hr.units
    have nd := scLeads.nd
    refine ⟨_, pss_cons (ps_if (PW.pt (pw_or (pt_cmpR (op_eqInts hu4) (pv 2) (pe_lst pa_nil) (nomark _)) (pw_or (pt_cmpR op_ne (pe_ix ix_list (pv 2) pe_int (fun _ _ => rfl)) (pe_fld (pv 1) rfl) (by rfl))
          (pw_or1 (pt_not (pt_val (C8.pe_c cW hr (by decide) (by rfl) (pa_cons (pv 1) (pa_cons (pv 2) pa_nil))))))))) (pss_one (ps_ret pe_bl)) pss_nil)
      (pss_one (ps_ret (pe_and (pe_cmpR op_inInts (pe_ix ix_list (pv 2) (pe_un un_neg pe_int) (fun _ _ => rfl)) (pe_fld (pv 0) rfl) (by rfl))
        (pe_one (pe_not (pe_callB (cr_any rfl) (by rfl) T.any boot_any (pa_cons (pe_lc (own := [("block", 3)]) (g := gName 3) (te := tOp (rInI K) (tVar 3) (tFld K (tVar 0) "ring")) rfl nd (pi_list (pe_slice sl_list (pv 2) po_none (po_some (pe_un un_neg pe_int)))) (blkOk_by (own := [("block", 3)]) (N := nLeads) (sc := defScope sTLeads) (by decide +kernel))
          (fun _ _ _ _ _ => pg_name (i := 3) nd rfl (Or.inl rfl)) (fun _ _ _ _ _ => pts_nil) (fun _ _ _ _ _ => pe_cmpR op_inInts (pv 3) (pe_fld (pv 0) rfl) (by rfl))) pa_nil))))))), ?_⟩
    obtain ⟨gx, gs, db, hg, fE, fB, fW, hB, hW⟩ := id hG
    obtain ⟨tx, ts, dr, d1, d2, hp, fR, f1, f2, fN, hr', h1, h2⟩ := id hT
    refine ⟨.ref a, rfl, Nat.zero_le _, fun q nq => ?_⟩
    have s1 := same_upd (o := .lst []) nq
    have hq : (upd H q (.lst [])) q = some (.lst (([] : List Int).map V.int)) := upd_same
    generalize upd H q (.lst []) = H1 at s1 hq
    refine ⟨a, q, l, [], rfl, rfl, s1.seq hl, .inl (.inl hq), _, rfl, iteD (fun he => ?_) (fun hne => ?_)⟩
    · exact k false H1 s1 ⟨fun z => Bool.noConfusion z, fun z => absurd he z.ne⟩
    cases l with
    | nil => exact absurd rfl hne
    | cons x l =>
    refine ⟨.ref a, rfl, a, _, 0, .int x, rfl, rfl, s1.seq hl, atI_nat (j := 0) rfl, .ref g, rfl, g, cG, gx, gs, .int e, rfl, s1 _ _ hg, T.g.cl, T.nE, fE, rfl, _, rfl, iteN (fun hx => ?_) (fun hx => ?_)⟩
    · refine k false H1 s1 ⟨fun z => Bool.noConfusion z, fun z => absurd ?_ hx⟩
      have := z.hd
      rw [List.head?_cons] at this
      rw [Option.some.inj this]
    have hx : x = e := vint.mp hx
    refine ⟨.ref g, rfl, .ref a, rfl, g, a, e, dw, W, x :: l, rfl, hG.same s1, s1.seq hl, by omega, fun b H2 s2 hb => ⟨b, rfl, ?_⟩⟩
    cases b with
    | false =>
      refine iteT (k false H2 (s1.trans s2) ⟨fun z => Bool.noConfusion z, fun z => ?_⟩)
      exact hb.mpr ⟨z.sub, z.ed⟩
    | true =>
      obtain ⟨hsub, hed⟩ := hb.mp rfl
      refine iteF ?_
      have s3 := s1.trans s2
      clear s1 s2 hq nq
      obtain ⟨l0, y, hly⟩ : ∃ l0 y, x :: l = l0 ++ [y] := ⟨_, _, (List.dropLast_concat_getLast (List.cons_ne_nil x l)).symm⟩
      have hat : atI ((x :: l).map V.int) (-1) = some (.int y) := by
        rw [hly, List.map_append]
        exact atI_last _ _
      have hgl : (x :: l).getLast? = some y := by rw [hly, List.getLast?_concat]
      have hdl : (x :: l).dropLast = l0 := by rw [hly]; simp
      refine ⟨.ref a, rfl, 1, rfl, a, _, -1, .int y, rfl, rfl, s3.seq hl, hat, .ref p, rfl, p, cT, tx, ts, .ref dr, rfl, s3 _ _ hp, T.t.cl, T.nR, fR, y, dr, r, rfl, rfl, .inl (.inl (s3 _ _ hr')), decide (y ∈ r), rfl, ?_⟩
      refine iteD (fun hy => ?_) (fun hy => ?_)
      · refine ⟨.ref a, rfl, 1, rfl, -1, rfl, a, _, rfl, s3.seq hl, fun c nc => ?_⟩
        rw [cut_but]
        have s4 := s3.trans (same_upd (o := .lst (((x :: l).map V.int).dropLast)) nc)
        have hc : (upd H2 c (.lst (((x :: l).map V.int).dropLast))) c = some (.lst (l0.map V.int)) := by rw [upd_same, ← List.map_dropLast, hdl]
        generalize upd H2 c (.lst (((x :: l).map V.int).dropLast)) = H4 at s4 hc
        have hl0 : l0.length ≤ 900 := by
          have := congrArg List.length hly
          rw [List.length_append, List.length_singleton] at this
          omega
        refine ⟨c, rfl, ⟨_, .inl (.inl hc)⟩, fun Dn nD => ?_⟩
        refine lc_bools (fun o => decide (o ∈ r)) nD (.inl (.inl hc)) hl0 (fun o' H' N M ho s5 hN => ?_) (fun H5 s5 hD => ?_)
        · exact ⟨rfl, .int o', rfl, .ref p, rfl, p, cT, tx, ts, .ref dr, rfl, s5 _ _ (s4 _ _ hp), T.t.cl, T.nR, fR, o', dr, r, rfl, rfl, .inl (.inl (s5 _ _ (s4 _ _ hr'))), hN⟩
        · refine ⟨Dn, _, rfl, .inl (.inl hD), _, rfl, k _ H5 (s4.trans s5) ?_⟩
          rw [any_map, Bool.not_eq_true', List.any_eq_false]
          constructor
          · intro z
            refine ⟨List.cons_ne_nil _ _, by rw [List.head?_cons, hx], hsub, hed, fun z' hz' => ?_, fun b hb' => ?_⟩
            · rw [hgl] at hz'
              rw [← Option.some.inj hz']; exact hy
            · rw [hdl] at hb'
              have := z b hb'
              simpa using this
          · intro z b hb'
            have := z.free b (by rw [hdl]; exact hb')
            simpa using this
      · refine k false H2 s3 ⟨fun z => Bool.noConfusion z, fun z => absurd (z.last y hgl) hy⟩
end
end BT
namespace BT
open PySem PySem.Spec PyProof.Rows L2
abbrev nShows : List Str := ["self", "graph", "block"]
theorem scShows : FnScope nShows ["self", "graph"] (defScope sTShows) := ⟨rfl, rfl, rfl, by decide +kernel, rfl, by decide +kernel, by decide +kernel⟩
theorem scPShows : FnScope ["self", "graph"] ["self", "graph"] (defScope sPShows) := ⟨rfl, rfl, rfl, by decide +kernel, rfl, by decide +kernel, by decide +kernel⟩
/-- Twist.shows -/
def spShows (cG cT : Addr) : Sp := fun vs H Q _ => ∃ (p g : Addr) (e : Int) (dw : Addr) (W : Ways) (r o t : List Int), vs = [.ref p, .ref g] ∧ TwistAt cT H p r o t ∧ GraphAt cG H g e dw W ∧ GOk W e ∧ r.length ≤ 50 ∧ o.length ≤ 50 ∧ t.length ≤ 50 ∧
  ∀ (b : Bool) (H' : Hp), Same H H' → (b = true ↔ Shows (ks W) (nx W) e r o t) → Q (.bl b) H'
/-- Plain.shows -/
def spPShows (cG : Addr) : Sp := fun vs H Q _ => ∃ (p g : Addr) (e : Int) (dw : Addr) (W : Ways), vs = [.ref p, .ref g] ∧ GraphAt cG H g e dw W ∧ GOk W e ∧
  ∀ (b : Bool) (H' : Hp), Same H H' → (b = true ↔ ∀ u v, ¬ Bad (nx W) (line W e) e u v) → Q (.bl b) H'
theorem count_le {l : List Int} : (∀ b, b ∈ l → ¬ (1 : Nat) < l.count b) ↔ l.Nodup := by
  rw [List.nodup_iff_count]
  constructor
  · intro h b
    by_cases hb : b ∈ l
    · have := h b hb; omega
    · rw [List.count_eq_zero_of_not_mem hb]; omega
  · intro h b _
    have := h b
    omega
section
variable {P : Program} {w : World} {K : PySem.W.Frag} {mg : Str → Option Value} {base : Heap} {cG cP cT : Addr}
theorem ok_pshows (D : Mf K cP "shows" "Plain.shows" sPShows ["self", "graph"]) (T : TX K mg cG cP cT) (cC : C8.Cal P w K mg base 3 "check_graph" (spCheck cG) []) (cT' : C8.Cal P w K mg base 3 "twisted" (spTwisted cG) []) : C8.Met P w K mg base 4 cP "shows" (spPShows cG) [] := by
  refine D.ok scPShows (fun vs H Q E h => ?_) (fun f cdv A outer s H vs Q E hr h => ?_)
  · obtain ⟨_, _, _, _, _, rfl, _⟩ := h
    rfl
  · obtain ⟨p, g, e, dw, W, rfl, hG, G, k⟩ := h
    have hu4 := hr.units
    refine ⟨_, pss_cons (ps_expr (C8.pe_c cC hr (by decide) (by rfl) (pa_cons (pv 1) pa_nil))) (pss_one (ps_ret (pe_cmpR (op_eqPairs hu4) (C8.pe_c cT' hr (by decide) (by rfl) (pa_cons (pv 1) pa_nil)) (pe_lst pa_nil) (nomark _)))), ?_⟩
    refine ⟨.ref g, rfl, g, e, dw, W, rfl, hG, G, fun H1 s1 => ?_⟩
    refine ⟨.ref g, rfl, g, e, dw, W, rfl, hG.same s1, G, fun H2 q s2 hq => ?_⟩
    obtain ⟨xs, ps, hx, hps, hin⟩ := hq
    refine ⟨Nat.zero_le _, fun c nc => ?_⟩
    have s3 := same_upd (o := .lst []) nc
    refine ⟨q, c, xs, ps, rfl, rfl, .inl (.inl (s3 _ _ hx)), hps.same s3, .inl (.inl upd_same), k _ _ (s1.trans (s2.trans s3)) ?_⟩
    rw [decide_eq_true_eq]
    constructor
    · intro z u v hb
      have := (hin u v).mpr hb
      rw [z] at this
      simp at this
    · intro z
      cases ps with
      | nil => rfl
      | cons p r => exact absurd ((hin p.1 p.2).mp (by simp)) (z p.1 p.2)
theorem ok_shows (D : Mf K cT "shows" "Twist.shows" sTShows ["self", "graph"]) (T : TX K mg cG cP cT) (cC : C8.Cal P w K mg base 3 "check_graph" (spCheck cG) []) (cW : C8.Cal P w K mg base 1 "is_way" (spWay K cG) []) (cL : C8.Met P w K mg base 2 cT "leads" (spLeads K cG cT) []) : C8.Met P w K mg base 4 cT "shows" (spShows cG cT) [] := by
  refine D.ok scShows (fun vs H Q E h => ?_) (fun f cdv A outer s H vs Q E hr h => ?_)
  · obtain ⟨_, _, _, _, _, _, _, _, rfl, _⟩ := h
    rfl
  · obtain ⟨p, g, e, dw, W, r, o, t, rfl, hT, hG, G, hrl, hol, htl, k⟩ := h
    have hu := hu_of hr
    have hu4 := hr.units
    have nd := scShows.nd
    refine ⟨_, pss_cons (ps_expr (C8.pe_c cC hr (by decide) (by rfl) (pa_cons (pv 1) pa_nil)))
      (pss_cons (ps_if (PW.pt (pw_or (pt_cmpR (op_eqInts hu4) (pe_fld (pv 0) rfl) (pe_lst pa_nil) (nomark _)) (pw_or1 (pt_not (pt_val (C8.pe_c cW hr (by decide) (by rfl) (pa_cons (pv 1) (pa_cons (pe_op op_cat (pe_fld (pv 0) rfl) (pe_slice sl_list (pe_fld (pv 0) rfl) po_none (po_some pe_int))) pa_nil)))))))) (pss_one (ps_ret pe_bl)) pss_nil)
      (pss_cons (ps_if (pt_val (pe_callB (cr_any rfl) (by rfl) T.any boot_any (pa_cons (pe_lc (own := [("block", 2)]) (g := gName 2) (te := tOp (rI0 fun i j => .bl (decide (j < i))) (tBM K "list" (rCntI K) (tFld K (tVar 0) "ring") (tCons (tVar 2) tNil)) (tC (.int 1))) rfl nd (pi_list (pe_fld (pv 0) rfl)) (blkOk_by (own := [("block", 2)]) (N := nShows) (sc := defScope sTShows) (by decide +kernel))
          (fun _ _ _ _ _ => pg_name (i := 2) nd rfl (Or.inl rfl)) (fun _ _ _ _ _ => pts_nil) (fun _ _ _ _ _ => pe_cmpR op_gt (pe_bm PySem.F.plainAttrs_list PySem.F.slot_list_count PySem.F.type_list_count mt_lcount (pe_fld (pv 0) rfl) (pa_cons (pv 2) pa_nil)) pe_int (nomark _))) pa_nil))) (pss_one (ps_ret pe_bl)) pss_nil)
      (pss_cons (ps_if (PW.pt (pw_or (pt_not (pt_val (C8.pe_mt cL hr (by decide) (pv 0) (pa_cons (pv 1) (pa_cons (pe_fld (pv 0) rfl) pa_nil))))) (pw_or1 (pt_not (pt_val (C8.pe_mt cL hr (by decide) (pv 0) (pa_cons (pv 1) (pa_cons (pe_fld (pv 0) rfl) pa_nil)))))))) (pss_one (ps_ret pe_bl)) pss_nil)
      (pss_one (ps_ret (pe_cmpR op_ne (pe_ix ix_list (pe_fld (pv 0) rfl) (pe_un un_neg pe_int) (fun _ _ => rfl)) (pe_ix ix_list (pe_fld (pv 0) rfl) (pe_un un_neg pe_int) (fun _ _ => rfl)) (by rfl))))))), ?_⟩
    obtain ⟨gx, gs, db, hg, fE, fB, fW, hB, hW⟩ := id hG
    obtain ⟨tx, ts, dr, d1, d2, hp, fR, f1, f2, fN, hr', h1, h2⟩ := id hT
    refine ⟨.ref g, rfl, g, e, dw, W, rfl, hG, G, fun H0 s0 => ?_⟩
    refine ⟨.ref p, rfl, p, cT, tx, ts, .ref dr, rfl, s0 _ _ hp, T.t.cl, T.nR, fR, Nat.zero_le _, fun q nq => ?_⟩
    have s1 := s0.trans (same_upd (o := .lst []) nq)
    have hq : (upd H0 q (.lst [])) q = some (.lst (([] : List Int).map V.int)) := upd_same
    generalize upd H0 q (.lst []) = H1 at s1 hq
    refine ⟨dr, q, r, [], rfl, rfl, .inl (.inl (s1 _ _ hr')), .inl (.inl hq), _, rfl, iteD (fun he => ?_) (fun hne => ?_)⟩
    · exact k false H1 s1 ⟨fun z => Bool.noConfusion z, fun z => absurd he z.ne⟩
    -- is_way(graph, self.ring + self.ring[:1])
    refine ⟨.ref g, rfl, .ref p, rfl, p, cT, tx, ts, .ref dr, rfl, s1 _ _ hp, T.t.cl, T.nR, fR, .ref p, rfl, p, cT, tx, ts, .ref dr, rfl, s1 _ _ hp, T.t.cl, T.nR, fR, 1, rfl, dr, _, rfl, .inl (.inl (s1 _ _ hr')), fun c nc => ?_⟩
    have e1 : cutV (r.map V.int) none (some 1) = (r.take 1).map V.int := by rw [show (1 : Int) = ((1 : Nat) : Int) by rfl, cut_to, List.map_take]
    rw [e1]
    have s2 := s1.trans (same_upd (o := .lst ((r.take 1).map V.int)) nc)
    have hc : (upd H1 c (.lst ((r.take 1).map V.int))) c = some (.lst ((r.take 1).map V.int)) := upd_same
    generalize upd H1 c (.lst ((r.take 1).map V.int)) = H2 at s2 hc
    have hl1 : (r.take 1).length ≤ 1 := by rw [List.length_take]; omega
    refine ⟨dr, c, _, _, rfl, rfl, s2 _ _ hr', hc, ?_, fun d nd2 => ?_⟩
    · rw [List.length_map, List.length_map]
      exact Nat.le_of_lt (small9 (by omega))
    have s3 := s2.trans (same_upd (o := .lst (r.map V.int ++ (r.take 1).map V.int)) nd2)
    have hd : (upd H2 d (.lst (r.map V.int ++ (r.take 1).map V.int))) d = some (.lst ((r ++ r.take 1).map V.int)) := by rw [upd_same, List.map_append]
    generalize upd H2 d (.lst (r.map V.int ++ (r.take 1).map V.int)) = H3 at s3 hd
    refine ⟨g, d, e, dw, W, r ++ r.take 1, rfl, hG.same s3, .inl (.inl hd), by rw [List.length_append]; omega, fun b H4 s4 hb => ⟨b, rfl, ?_⟩⟩
    have s4 := s3.trans s4
    clear s0 s1 s2 s3 hq hc hd nq nc nd2
    cases b with
    | false =>
      refine iteT (k false H4 s4 ⟨fun z => Bool.noConfusion z, fun z => ?_⟩)
      refine hb.mpr ⟨fun x hx => ?_, z.ed⟩
      rcases List.mem_append.mp hx with y | y
      · exact z.sub x y
      · exact z.sub x (List.mem_of_mem_take y)
    | true =>
    obtain ⟨hsub, hed⟩ := hb.mp rfl
    have hsub : ∀ x, x ∈ r → x ∈ ks W := fun x hx => hsub x (List.mem_append_left _ hx)
    refine iteF ?_
    -- any([self.ring.count(block) > 1 ..])
    refine ⟨.ref p, rfl, p, cT, tx, ts, .ref dr, rfl, s4 _ _ hp, T.t.cl, T.nR, fR, dr, rfl, ⟨_, .inl (.inl (s4 _ _ hr'))⟩, fun Dn nD => ?_⟩
    refine lc_bools (fun o => decide ((1 : Int) < (r.count o : Nat))) nD (.inl (.inl (s4 _ _ hr'))) (by omega) (fun o' H' N M ho s5 hN => ?_) (fun H5 s5 hD => ?_)
    · exact ⟨rfl, .ref p, rfl, p, cT, tx, ts, .ref dr, rfl, (s4.trans s5) _ _ hp, T.t.cl, T.nR, fR, .inl ⟨rfl, _, .inl (.inl ((s4.trans s5) _ _ hr'))⟩, .int o', rfl, dr, r, o', rfl, rfl, .inl (.inl ((s4.trans s5) _ _ hr')), _, 1, rfl, rfl, hN⟩
    have s5 := s4.trans s5
    refine ⟨Dn, _, rfl, .inl (.inl hD), _, rfl, ?_⟩
    rw [any_map]
    have hcnt : (r.any (fun o => decide ((1 : Int) < (r.count o : Nat))) = false) ↔ r.Nodup := by
      rw [List.any_eq_false, ← count_le]
      constructor
      · intro z b hb' hlt
        have := z b hb'
        simp at this
        omega
      · intro z b hb'
        have := z b hb'
        simp
        omega
    cases hany : r.any (fun o => decide ((1 : Int) < (r.count o : Nat))) with
    | true =>
      refine iteT (k false H5 s5 ⟨fun z => Bool.noConfusion z, fun z => ?_⟩)
      rw [hcnt.mpr z.nd] at hany
      exact hany
    | false =>
    have hnd := hcnt.mp hany
    refine iteF ?_
    clear hD nD
    refine ⟨.ref p, rfl, p, tx, ts, rfl, s5 _ _ hp, fN.1, .ref g, rfl, .ref p, rfl, p, cT, tx, ts, .ref d1, rfl, s5 _ _ hp, T.t.cl, T.n1, f1, p, g, d1, e, dw, W, r, o, t, o, rfl, hT.same s5, hG.same s5, .inl (.inl (s5 _ _ h1)), hol, fun b1 H6 s6 hb1 => ⟨b1, rfl, ?_⟩⟩
    have s6 := s5.trans s6
    cases b1 with
    | false => exact iteT (iteT (k false H6 s6 ⟨fun z => Bool.noConfusion z, fun z => hb1.mpr z.l1⟩))
    | true =>
    refine iteF ?_
    refine ⟨.ref p, rfl, p, tx, ts, rfl, s6 _ _ hp, fN.1, .ref g, rfl, .ref p, rfl, p, cT, tx, ts, .ref d2, rfl, s6 _ _ hp, T.t.cl, T.n2, f2, p, g, d2, e, dw, W, r, o, t, t, rfl, hT.same s6, hG.same s6, .inl (.inl (s6 _ _ h2)), htl, fun b2 H7 s7 hb2 => ⟨b2, rfl, ?_⟩⟩
    have s7 := s6.trans s7
    cases b2 with
    | false => exact iteT (k false H7 s7 ⟨fun z => Bool.noConfusion z, fun z => hb2.mpr z.l2⟩)
    | true =>
    refine iteF ?_
    have l1 := hb1.mp rfl
    have l2 := hb2.mp rfl
    obtain ⟨o0, y, hoy⟩ : ∃ l0 y, o = l0 ++ [y] := ⟨_, _, (List.dropLast_concat_getLast l1.ne).symm⟩
    obtain ⟨t0, z, htz⟩ : ∃ l0 y, t = l0 ++ [y] := ⟨_, _, (List.dropLast_concat_getLast l2.ne).symm⟩
    have hao : atI (o.map V.int) (-1) = some (.int y) := by
      rw [hoy, List.map_append]
      exact atI_last _ _
    have hat : atI (t.map V.int) (-1) = some (.int z) := by
      rw [htz, List.map_append]
      exact atI_last _ _
    refine ⟨.ref p, rfl, p, cT, tx, ts, .ref d1, rfl, s7 _ _ hp, T.t.cl, T.n1, f1, 1, rfl, d1, _, -1, .int y, rfl, rfl, .inl (.inl (s7 _ _ h1)), hao, .ref p, rfl, p, cT, tx, ts, .ref d2, rfl, s7 _ _ hp, T.t.cl, T.n2, f2, 1, rfl, d2, _, -1, .int z, rfl, rfl, .inl (.inl (s7 _ _ h2)), hat, rfl, k _ H7 s7 ?_⟩
    have e2 : o.getLast? = some y := by rw [hoy, List.getLast?_concat]
    have e3 : t.getLast? = some z := by rw [htz, List.getLast?_concat]
    constructor
    · intro hyz
      refine ⟨hne, hsub, hed, hnd, l1, l2, ?_⟩
      rw [e2, e3]
      intro h9
      rw [Option.some.inj h9] at hyz
      simp at hyz
    · intro S
      have h9 := S.diff
      rw [e2, e3] at h9
      have h8 : ¬ V.int y = V.int z := fun h => h9 (by rw [V.int.inj h])
      rw [decide_eq_false h8]
      rfl
end
end BT
namespace BT
open PySem PySem.Spec PyProof.Rows L2
abbrev sJudged : Stmt := top 20
abbrev nJudged : List Str := ["graph", "some", "last", "head", "line", "ahead", "block", "ring", "one", "other"]
theorem scJudged : FnScope nJudged ["graph"] (defScope sJudged) := ⟨rfl, rfl, rfl, by decide +kernel, rfl, by decide +kernel, by decide +kernel⟩
/-- judged -/
def spJudged (cG cP cT : Addr) : Sp := fun vs H Q _ => ∃ (g : Addr) (e : Int) (dw : Addr) (W : Ways), vs = [.ref g] ∧ GraphAt cG H g e dw W ∧ GOk W e ∧
  (∀ H' p dx, Same H H' → H' p = some (.ins cP dx []) → (∀ u v, ¬ Bad (nx W) (line W e) e u v) → Q (.ref p) H') ∧
  (∀ H' p r o t, Same H H' → TwistAt cT H' p r o t → (∀ z H'', H z ≠ none → (∀ b o, H' b = some o → b ≠ z → H'' b = some o) → TwistAt cT H'' p r o t) → Shows (ks W) (nx W) e r o t → r.length ≤ 9 → o.length ≤ 9 → t.length ≤ 9 → (∃ u v, Bad (nx W) (line W e) e u v) → Q (.ref p) H')
section
variable {P : Program} {w : World} {K : PySem.W.Frag} {mg : Str → Option Value} {base : Heap} {cG cP cT : Addr}
theorem ok_judged (D : Df K mg "judged" sJudged ["graph"]) (T : TX K mg cG cP cT) (MP : MkP K cP) (cC : C8.Cal P w K mg base 3 "check_graph" (spCheck cG) []) (cB : C8.Cal P w K mg base 3 "twisted" (spTwisted cG) []) (cO : C8.Cal P w K mg base 1 "order_by" spOrder [])
    (cW : C8.Cal P w K mg base 1 "way_to" (spWayTo K) []) (cF : C8.Cal P w K mg base 1 "first_part" (spFirst K) []) (cM : C8.Mak P w K mg base 1 "Twist" cT (spTInit K cT) []) : C8.Cal P w K mg base 4 "judged" (spJudged cG cP cT) [] := by
  refine D.ok scJudged (fun vs H Q E h => ?_) (fun f cdv A outer s H vs Q E hr h => ?_)
  · obtain ⟨_, _, _, _, rfl, _⟩ := h
    rfl
  · obtain ⟨g, e, dw, W, rfl, hG, G, kP, kT⟩ := h
    have hu := hu_of hr
    have hu4 := hr.units
    have nd := scJudged.nd
    refine ⟨_, pss_cons (ps_expr (C8.pe_c cC hr (by decide) (by rfl) (pa_cons (pv 0) pa_nil)))
      (pss_cons (ps_set (i := 1) nd rfl (.inl rfl) (C8.pe_c cB hr (by decide) (by rfl) (pa_cons (pv 0) pa_nil)))
      (pss_cons (ps_if (pt_cmpR (op_eqPairs hu4) (pv 1) (pe_lst pa_nil) (nomark _)) (pss_one (ps_ret (pe_plain MP (by rfl) T.mgP))) pss_nil)
      (pss_cons (ps_asg (pe_ix ix_list (pv 1) pe_int (fun _ _ => rfl)) (pg_tup rfl (pgs_cons (pg_name (i := 2) nd rfl (.inl rfl)) (pgs_cons (pg_name (i := 3) nd rfl (.inl rfl)) pgs_nil))))
      (pss_cons (ps_set (i := 4) nd rfl (.inl rfl) (C8.pe_c cO hr (by decide) (by rfl) (pa_cons (pe_fld (pv 0) rfl) (pa_cons (pe_fld (pv 0) rfl) pa_nil))))
      (C8.pss_cut (ps_setDc (i := 5) (own := [("block", 6)]) (g := gName 6) rfl nd rfl rfl (sw_dict rfl rfl rfl (by decide +kernel)) (pi_list (pe_slice sl_list (pv 4) po_none (po_some (pe_bm PySem.F.plainAttrs_list PySem.F.slot_list_index PySem.F.type_list_index mt_index (pv 4) (pa_cons (pv 3) pa_nil))))) (blkOk_by (own := [("block", 6)]) (N := nJudged) (sc := defScope sJudged) (by decide +kernel))
          (fun _ _ _ _ _ => pg_name (i := 6) nd rfl (Or.inl rfl)) (fun _ _ _ _ _ => pts_nil) (fun _ _ _ _ _ => pv 6) (fun _ _ _ _ _ => pe_bl))
      (pss_cons (ps_set (i := 7) nd rfl (.inl rfl) (C8.pe_c cW hr (by decide) (by rfl) (pa_cons (pe_fld (pv 0) rfl) (pa_cons (pv 3) (pa_cons (pe_lst (pa_cons (pv 2) pa_nil)) (pa_cons (pv 5) pa_nil))))))
      (pss_cons (ps_set (i := 8) nd rfl (.inl rfl) (C8.pe_c cF hr (by decide) (by rfl) (pa_cons (C8.pe_c cW hr (by decide) (by rfl) (pa_cons (pe_fld (pv 0) rfl) (pa_cons (pe_fld (pv 0) rfl) (pa_cons (pe_lst (pa_cons (pv 2) pa_nil)) (pa_cons (pe_lst (pa_cons (pv 3) pa_nil)) pa_nil))))) (pa_cons (pv 7) pa_nil))))
      (pss_cons (ps_set (i := 9) nd rfl (.inl rfl) (C8.pe_c cW hr (by decide) (by rfl) (pa_cons (pe_fld (pv 0) rfl) (pa_cons (pe_fld (pv 0) rfl) (pa_cons (pe_lst (pa_cons (pv 3) pa_nil)) (pa_cons (pe_slice sl_list (pv 7) (po_some pe_int) po_none) pa_nil))))))
      (pss_one (ps_ret (C8.pe_mk cM hr (by decide) (by rfl) (pa_cons (pv 7) (pa_cons (pv 8) (pa_cons (pv 9) pa_nil)))))))))))))), ?_⟩
    obtain ⟨gx, gs, db, hg, fE, fB, fW, hB, hW⟩ := id hG
    refine ⟨.ref g, rfl, g, e, dw, W, rfl, hG, G, fun H0 s0 => ?_⟩
    refine ⟨.ref g, rfl, g, e, dw, W, rfl, hG.same s0, G, fun H1 ds s1 hsome => ?_⟩
    have s1 := s0.trans s1
    obtain ⟨xs, ps, hx, hps, hin⟩ := hsome
    refine ⟨.ref ds, rfl, Nat.zero_le _, fun q nq => ?_⟩
    have s2 := s1.trans (same_upd (o := .lst []) nq)
    have hx2 := same_upd (o := .lst []) nq _ _ hx
    have hps2 := hps.same (same_upd (o := .lst []) nq)
    have hq2 : (upd H1 q (.lst [])) q = some (.lst []) := upd_same
    generalize upd H1 q (.lst []) = H2 at s2 hx2 hps2 hq2
    clear hx hps s0 s1 nq
    refine ⟨ds, q, xs, ps, rfl, rfl, .inl (.inl hx2), hps2, .inl (.inl hq2), _, rfl, iteD (fun he => ?_) (fun hne => ?_)⟩
    · subst he
      refine fun x dx nx' ndx ne' => kP _ x dx (s2.trans ((same_upd ndx).trans (same_upd ?_))) upd_same fun u v hb => by
        have := (hin u v).mpr hb
        simp at this
      rw [upd_ne ne'.symm]
      exact nx'
    cases ps with
    | nil => exact absurd rfl hne
    | cons p0 pr =>
    obtain ⟨last, head⟩ := p0
    have hbad : Bad (nx W) (line W e) e last head := (hin last head).mp (by simp)
    obtain ⟨T0, hT0, hTt⟩ := hps2.get (i := 0) (p := (last, head)) rfl
    refine ⟨.ref ds, rfl, ds, xs, 0, .ref T0, rfl, rfl, .inl (.inl hx2), atI_nat (j := 0) hT0, T0, [.int last, .int head], rfl, .inl (.inl hTt), rfl, .int last, [.int head], rfl, .int head, [], rfl, rfl, ?_⟩
    -- line
    refine ⟨.ref g, rfl, g, cG, gx, gs, .int e, rfl, s2 _ _ hg, T.g.cl, T.nE, fE, .ref g, rfl, g, cG, gx, gs, .ref dw, rfl, s2 _ _ hg, T.g.cl, T.nW, fW, e, dw, W, rfl, hW.same s2, G, fun H3 dl s3 n3 hl => ?_⟩
    have s3 := s2.trans s3
    clear hx2 hps2 hq2 hT0 hTt s2
    have O := G.ord
    have hhl : head ∈ line W e := hbad.head_in O
    have hlastl : last ∈ line W e := hbad.ul
    have hlen : (line W e).length ≤ 9 := by rw [G.line_len]; exact G.len
    have ih := index_parts hhl
    -- ahead
    refine ⟨fun σ' H' => ∃ da, σ' = [some (.ref g), some (.ref ds), some (.int last), some (.int head), some (.ref dl), some (.ref da), none, none, none, none] ∧ Same H3 H' ∧ Bar K H' da ((line W e).take ((line W e).idxOf head)), ?_, fun σ' H4 hM => ?_⟩
    · have hl' : SqL K H3 dl ((line W e).map V.int) := .inl (.inl hl)
      refine ⟨.ref dl, rfl, .ref dl, rfl, .inl ⟨rfl, _, hl'⟩, .int head, rfl, dl, _, .int head, _, .int head, rfl, rfl, hl', rfl, flat_ints _, ih.1, ih.2.1, ih.2.2, (((line W e).idxOf head : Nat) : Int), rfl, dl, _, rfl, hl', fun c nc => ?_⟩
      rw [cut_to, ← List.map_take]
      have s4 := same_upd (o := .lst (((line W e).take ((line W e).idxOf head)).map V.int)) nc
      have hc : (upd H3 c (.lst (((line W e).take ((line W e).idxOf head)).map V.int))) c = some (.lst (((line W e).take ((line W e).idxOf head)).map V.int)) := upd_same
      generalize upd H3 c (.lst (((line W e).take ((line W e).idxOf head)).map V.int)) = H4 at s4 hc
      have hbl : ((line W e).take ((line W e).idxOf head)).length ≤ 9 := by rw [List.length_take]; omega
      generalize (line W e).take ((line W e).idxOf head) = bl at hc hbl
      refine ⟨c, rfl, ⟨_, .inl (.inl hc)⟩, fun Dn nD => ?_⟩
      refine dc_it (walk_list (K := K) (a := c) (xs := bl.map V.int)) (fun i H' => Same H4 H' ∧ ∃ kv, H' Dn = some (.dK kv) ∧ kv.length ≤ i ∧ ∀ b, valV kv (Sum.inl b : Key) = if b ∈ bl.take i then some (.bl true) else none) ?_ ?_ ?_ ?_
      · exact ⟨same_upd nD, [], upd_same, Nat.le_refl _, fun b => by rw [List.take_zero, if_neg List.not_mem_nil]; rfl⟩
      · rintro i H' _ ⟨s5, _⟩
        exact .inl (.inl (s5 _ _ hc))
      · rintro i x H5 H6 hi ⟨s5, kv, hD, hk, hv⟩ ⟨rfl, hx⟩
        obtain ⟨b, hb, rfl⟩ := map_int_at hx
        rw [List.length_map] at hi
        refine ⟨rfl, .int b, rfl, kv, Sum.inl b, rfl, hD, small9 (by omega), same_mut s5 nD, _, upd_same, ?_, fun c => ?_⟩
        · have := length_putK kv (Sum.inl b) (V.bl true)
          omega
        · rw [valV_put, List.take_add_one, hb]
          by_cases ec : c = b
          · rw [ec, if_pos rfl, if_pos (by simp)]
          · rw [if_neg (fun z => ec (Sum.inl.inj z)), hv c]
            have : c ∈ bl.take i ++ (some b).toList ↔ c ∈ bl.take i := by simp [ec]
            simp only [this]
      · rintro H5 ⟨s5, kv, hD, hk, hv⟩
        rw [List.length_map] at hk hv
        rw [List.take_length] at hv
        refine ⟨Dn, rfl, s4.trans s5, .inr ⟨_, ⟨kv, hD, by omega, hv⟩, fun x => ?_⟩⟩
        show (if x ∈ bl then some (V.bl true) else none).isSome = decide (x ∈ bl)
        by_cases hxb : x ∈ bl
        · rw [if_pos hxb, decide_eq_true hxb]; rfl
        · rw [if_neg hxb, decide_eq_false hxb]; rfl
    obtain ⟨da, rfl, s4, hbar⟩ := hM
    have s4 := s3.trans s4
    clear hl s3 n3
    -- ring
    refine ⟨.ref g, rfl, g, cG, gx, gs, .ref dw, rfl, s4 _ _ hg, T.g.cl, T.nW, fW, .int head, rfl, .int last, rfl, by show 1 ≤ sizeLine; decide, fun c1 nc1 => ⟨.ref da, rfl, ?_⟩⟩
    have s5 := s4.trans (same_upd (o := .lst [.int last]) nc1)
    have hbar5 := hbar.same (same_upd (o := .lst [.int last]) nc1)
    have hc1 : (upd H4 c1 (.lst [.int last])) c1 = some (.lst ([last].map V.int)) := upd_same
    generalize upd H4 c1 (.lst [.int last]) = H5 at s5 hbar5 hc1
    clear hbar s4 nc1
    refine ⟨dw, c1, da, head, last, e, W, _, rfl, hW.same s5, G, .inl (.inl hc1), hbar5, G.mem.mp hhl, ex_ring O hbad, fun H6 pr6 ring s6 hr6 hpr hnr hlr hfr => ?_⟩
    have s6 := s5.trans s6
    clear hbar5 hc1 s5
    -- one
    refine ⟨.ref g, rfl, g, cG, gx, gs, .ref dw, rfl, s6 _ _ hg, T.g.cl, T.nW, fW, .ref g, rfl, g, cG, gx, gs, .int e, rfl, s6 _ _ hg, T.g.cl, T.nE, fE, .int last, rfl, by show 1 ≤ sizeLine; decide, fun c2 nc2 => ⟨.int head, rfl, by show 1 ≤ sizeLine; decide, fun c3 nc3 => ?_⟩⟩
    have sA := same_upd (o := .lst [.int last]) nc2
    have sB := same_upd (o := .lst [.int head]) nc3
    have s7 := s6.trans (sA.trans sB)
    have hr7 := sB _ _ (sA _ _ hr6)
    have hc2 : (upd (upd H6 c2 (.lst [.int last])) c3 (.lst [.int head])) c2 = some (.lst ([last].map V.int)) := sB _ _ upd_same
    have hc3 : (upd (upd H6 c2 (.lst [.int last])) c3 (.lst [.int head])) c3 = some (.lst ([head].map V.int)) := upd_same
    generalize upd (upd H6 c2 (.lst [.int last])) c3 (.lst [.int head]) = H7 at s7 hr7 hc2 hc3
    clear s6 hr6 nc2 nc3 sA sB
    obtain ⟨q1, hq1, hf1⟩ := ex_one hbad
    refine ⟨dw, c2, c3, e, last, e, W, [head], rfl, hW.same s7, G, .inl (.inl hc2), .inl (.inl (.inl hc3)), G.ent, ⟨q1, hq1, fun x hx hn => by have := hf1 x hx hn; simpa using this⟩, fun H8 p8 one s8 h8 hpo hno hlo hfo => ?_⟩
    have hr8 := s8 _ _ hr7
    have s8 := s7.trans s8
    clear s7 hr7 hc2 hc3
    have hfo : ∀ x, x ∈ one → x ≠ e → ¬ x = head := fun x hx hn => by have := hfo x hx hn; simpa using this
    refine ⟨.ref pr6, rfl, p8, pr6, one, ring, rfl, .inl (.inl h8), .inl (.inl hr8), by omega, ⟨last, hpo.mem_end, hpr.mem_end⟩, fun H9 p9 i x s9 h9 hi hx hm => ?_⟩
    have hr9 := s9 _ _ hr8
    have s9 := s8.trans s9
    clear s8 hr8 h8
    -- other
    refine ⟨.ref g, rfl, g, cG, gx, gs, .ref dw, rfl, s9 _ _ hg, T.g.cl, T.nW, fW, .ref g, rfl, g, cG, gx, gs, .int e, rfl, s9 _ _ hg, T.g.cl, T.nE, fE, .int head, rfl, by show 1 ≤ sizeLine; decide, fun c4 nc4 => ?_⟩
    have sA := same_upd (o := .lst [.int head]) nc4
    have s10 := s9.trans sA
    have hr10 := sA _ _ hr9
    have h10 := sA _ _ h9
    have hc4 : (upd H9 c4 (.lst [.int head])) c4 = some (.lst ([head].map V.int)) := upd_same
    generalize upd H9 c4 (.lst [.int head]) = H10 at s10 hr10 h10 hc4
    clear s9 hr9 h9 nc4 sA
    refine ⟨.ref pr6, rfl, 1, rfl, pr6, _, rfl, .inl (.inl hr10), fun c5 nc5 => ?_⟩
    rw [cut_tail, ← List.map_drop, List.drop_one]
    have sA := same_upd (o := .lst (ring.tail.map V.int)) nc5
    have s11 := s10.trans sA
    have hr11 := sA _ _ hr10
    have h11 := sA _ _ h10
    have hc4' := sA _ _ hc4
    have hc5 : (upd H10 c5 (.lst (ring.tail.map V.int))) c5 = some (.lst (ring.tail.map V.int)) := upd_same
    generalize upd H10 c5 (.lst (ring.tail.map V.int)) = H11 at s11 hr11 h11 hc4' hc5
    clear s10 hr10 h10 nc5 sA hc4
    refine ⟨dw, c4, c5, e, head, e, W, ring.tail, rfl, hW.same s11, G, .inl (.inl hc4'), .inl (.inl (.inl hc5)), G.ent, ex_other O hbad hpr hnr hfr, fun H12 p12 other s12 h12 hpt hnt hlt hft => ?_⟩
    have hr12 := s12 _ _ hr11
    have hp12 := s12 _ _ h11
    have s12 := s11.trans s12
    clear s11 hr11 h11 hc4' hc5
    have hshow : Shows (ks W) (nx W) e ring (one.take (i + 1)) other := twist_ok O hbad hpr hnr hfr hpo hfo hi hx hm hpt hnt hft
    refine ⟨.ref pr6, rfl, .ref p9, rfl, .ref p12, rfl, fun x' dx' nx' ndx ne' => ?_⟩
    have sA : Same H12 (upd (upd H12 dx' (.own x')) x' (.ins cT dx' [])) := (same_upd ndx).trans (same_upd (by rw [upd_ne ne'.symm]; exact nx'))
    refine ⟨x', dx', pr6, p9, p12, ring, one.take (i + 1), other, rfl, upd_same, .inl (.inl (sA _ _ hr12)), .inl (.inl (sA _ _ hp12)), .inl (.inl (sA _ _ h12)), fun H13 _ _ k13 st htw => ⟨rfl, ?_⟩⟩
    refine kT H13 x' ring (one.take (i + 1)) other (fun b o hb => ?_) htw (fun z H'' hz kk => ?_) hshow (by omega) (by rw [List.length_take]; omega) (by omega) ⟨last, head, hbad⟩
    · have hb12 := s12 _ _ hb
      exact k13 _ _ (sA _ _ hb12) (ne_of_none hb12 nx')
    · obtain ⟨u, hu⟩ : ∃ u, H z = some u := by
        cases e9 : H z with
        | none => exact absurd e9 hz
        | some u => exact ⟨u, rfl⟩
      have hz12 := s12 _ _ hu
      exact st z H'' (ne_of_none hz12 nx') (by rw [sA _ _ hz12]; exact fun z => by cases z) kk
end
end BT
namespace BT
open PySem PyProof.Rows L2
structure TB (mg : Str → Option Value) : Prop where
  int : mg "int" = none
  abs : mg "abs" = none
  sum : mg "sum" = none
  range : mg "range" = none
  enumerate : mg "enumerate" = none
  dict : mg "dict" = none
  sorted : mg "sorted" = none
  set : mg "set" = none
abbrev sDraw : Stmt := top 22
abbrev nDraw : List Str := ["_law_cell", "_law_k", "_law_many", "_law_primes"]
theorem scDraw : FnScope nDraw ["_law_cell", "_law_k", "_law_many"] (defScope sDraw) := ⟨rfl, rfl, rfl, by decide +kernel, rfl, by decide +kernel, by decide +kernel⟩
/-- _law_draw -/
def spDraw : Sp := fun vs H Q _ => ∃ c k m : Int, vs = [.int c, .int k, .int m] ∧ 0 < m ∧ ∀ (z : Int) (H' : Hp), Same H H' → 0 ≤ z → z < m → Q (.int z) H'
def P16 : List Int := [1000003, 1000033, 1000037, 1000039, 1000081, 1000099, 1000117, 1000121, 1000133, 1000151, 1000159, 1000171, 1000183, 1000187, 1000193, 1000199]
theorem p16_at {j : Nat} (h : j < 16) : ∃ p, P16[j]? = some p ∧ 0 < p := by
  have hj : j < P16.length := h
  refine ⟨P16[j], List.getElem?_eq_getElem hj, ?_⟩
  have : P16.all (fun p => decide (0 < p)) = true := by decide
  exact of_decide_eq_true (List.all_eq_true.mp this _ (List.getElem_mem hj))
section
variable {P : Program} {w : World} {K : PySem.W.Frag} {mg : Str → Option Value} {base : Heap}
theorem ok_draw (D : Df K mg "_law_draw" sDraw ["_law_cell", "_law_k", "_law_many"]) (T : TB mg) : C8.Cal P w K mg base 1 "_law_draw" spDraw [] := by
  refine D.ok scDraw (fun vs H Q E h => ?_) (fun f cdv A outer s H vs Q E hr h => ?_)
  · obtain ⟨_, _, _, rfl, _⟩ := h
    rfl
  · obtain ⟨c, k, m, rfl, hm, q⟩ := h
    have nd := scDraw.nd
    refine ⟨_, pss_cons (ps_set (i := 3) nd rfl (.inl rfl) (pe_tup (pa_cons pe_int (pa_cons pe_int (pa_cons pe_int (pa_cons pe_int (pa_cons pe_int (pa_cons pe_int (pa_cons pe_int (pa_cons pe_int (pa_cons pe_int (pa_cons pe_int (pa_cons pe_int (pa_cons pe_int (pa_cons pe_int (pa_cons pe_int (pa_cons pe_int (pa_cons pe_int pa_nil))))))))))))))))))
      (pss_one (ps_ret (pe_op op_mod (pe_callTy call_int1 (by rfl) T.int PyProof.Rows.boot_int (pa_cons (pe_op op_mod (pe_callTy call_int1 (by rfl) T.int PyProof.Rows.boot_int (pa_cons (pe_op op_add (pe_op op_mul (pv 0) pe_int) (pe_op op_mul (pv 1) pe_int)) pa_nil))
          (pe_ix ix_tup (pv 3) (pe_op op_mod (pe_callTy call_int1 (by rfl) T.int PyProof.Rows.boot_int (pa_cons (pv 1) pa_nil)) pe_int) (fun _ _ => rfl))) pa_nil)) (pv 2)))), ?_⟩
    refine ⟨by show 16 ≤ sizeLine; decide, fun T0 nT => ?_⟩
    have s1 := same_upd (o := .tup (P16.map V.int)) nT
    have hT : (upd H T0 (.tup (P16.map V.int))) T0 = some (.tup (P16.map V.int)) := upd_same
    obtain ⟨j, hj⟩ : ∃ j : Nat, k % 16 = j := ⟨(k % 16).toNat, by omega⟩
    obtain ⟨p, hp, hp0⟩ := p16_at (j := j) (by omega)
    refine ⟨.int c, rfl, c, 48271, rfl, rfl, .inr ⟨by decide, by decide⟩, .int k, rfl, k, 69621, rfl, rfl, .inr ⟨by decide, by decide⟩, _, _, rfl, rfl, .inl ⟨_, rfl, ?_⟩⟩
    refine ⟨.ref T0, rfl, .int k, rfl, .inl ⟨k, rfl, k, 16, rfl, rfl, (by show (0 : Int) < 16; decide), ?_⟩⟩
    refine ⟨T0, P16.map V.int, k % 16, .int p, rfl, rfl, .inl (.inl hT), ?_, ?_⟩
    · rw [hj]
      exact atI_nat (by rw [List.getElem?_map, hp]; rfl)
    refine ⟨_, p, rfl, rfl, hp0, .inl ⟨_, rfl, .int m, rfl, _, m, rfl, rfl, hm, q _ _ s1 (Int.emod_nonneg _ (by omega)) (Int.emod_lt_of_pos _ hm)⟩⟩
end
end BT
namespace BT
open PySem PyProof.Rows L2
abbrev sCellAt : Stmt := top 23
abbrev sDigits : Stmt := top 24
abbrev nDigits : List Str := ["_law_script", "_law_at", "_law_many", "_law_base", "_law_cell", "_law_found", "_law_left", "_law_turn", "_law_blend", "_law_more"]
theorem scCellAt : FnScope ["_law_script", "_law_k"] ["_law_script", "_law_k"] (defScope sCellAt) := ⟨rfl, rfl, rfl, by decide +kernel, rfl, by decide +kernel, by decide +kernel⟩
theorem scDigits : FnScope nDigits ["_law_script", "_law_at", "_law_many", "_law_base"] (defScope sDigits) := ⟨rfl, rfl, rfl, by decide +kernel, rfl, by decide +kernel, by decide +kernel⟩
/-- _law_cell_at -/
def spCellAt (K : PySem.W.Frag) : Sp := fun vs H Q _ => ∃ (a : Addr) (ns : List Int) (k : Nat), vs = [.ref a, .int (k : Int)] ∧ SqL K H a (ns.map V.int) ∧ ∀ (z : Int) (H' : Hp), Same H H' → 0 ≤ z → Q (.int z) H'
/-- _law_digits -/
def spDigits (K : PySem.W.Frag) : Sp := fun vs H Q _ => ∃ (a : Addr) (ns : List Int) (k n : Nat) (b : Int), vs = [.ref a, .int (k : Int), .int (n : Int), .int b] ∧ SqL K H a (ns.map V.int) ∧ 0 < b ∧ b < 1073741824 ∧ n ≤ 200 ∧
  ∀ (p : Addr) (zs : List Int) (H' : Hp), Same H H' → H p = none → H' p = some (.lst (zs.map V.int)) → zs.length = n → Q (.ref p) H'
section
variable {P : Program} {w : World} {K : PySem.W.Frag} {mg : Str → Option Value} {base : Heap}
theorem ok_cellat (D : Df K mg "_law_cell_at" sCellAt ["_law_script", "_law_k"]) (T : TB mg) (mLen : mg "len" = none) (cD : C8.Cal P w K mg base 1 "_law_draw" spDraw []) : C8.Cal P w K mg base 2 "_law_cell_at" (spCellAt K) [] := by
  refine D.ok scCellAt (fun vs H Q E h => ?_) (fun f cdv A outer s H vs Q E hr h => ?_)
  · obtain ⟨_, _, _, rfl, _⟩ := h
    rfl
  · obtain ⟨a, ns, k, rfl, hl, q⟩ := h
    have nd := scCellAt.nd
    refine ⟨_, pss_cons (ps_if (pt_cmpR op_lt (pv 1) (pe_callB call_len_seq (by rfl) mLen PySem.boot_len (pa_cons (pv 0) pa_nil)) (nomark _)) (pss_one (ps_ret (pe_callB call_abs (by rfl) T.abs boot_abs (pa_cons (pe_ix ix_list (pv 0) (pv 1) (fun _ _ => rfl)) pa_nil)))) pss_nil)
      (pss_one (ps_ret (C8.pe_c cD hr (by decide) (by rfl) (pa_cons (pe_op op_add (pe_callB call_abs (by rfl) T.abs boot_abs (pa_cons (pe_callB (cr_sum rfl) (by rfl) T.sum boot_sum (pa_cons (pv 0) pa_nil)) pa_nil)) (pe_op op_mul pe_int (pv 1))) (pa_cons (pv 1) (pa_cons pe_int pa_nil)))))), ?_⟩
    refine ⟨.int (k : Nat), rfl, .ref a, rfl, a, _, rfl, .inl hl, _, _, rfl, rfl, _, rfl, iteD (fun hlt => ?_) (fun hge => ?_)⟩
    · rw [List.length_map] at hlt
      have hk : k < ns.length := by omega
      refine ⟨.ref a, rfl, .int (k : Nat), rfl, a, _, (k : Nat), .int ns[k], rfl, rfl, hl, atI_nat (by rw [List.getElem?_map, List.getElem?_eq_getElem hk]; rfl), _, rfl, q _ _ (Same.refl H) ?_⟩
      split <;> omega
    · refine ⟨.ref a, rfl, a, ns, rfl, hl, _, rfl, .int (k : Nat), rfl, 7919, (k : Nat), rfl, rfl, .inl ⟨by decide, by decide⟩, _, _, rfl, rfl, .int (k : Nat), rfl, _, _, 999983, rfl, by decide, fun z H' s1 h0 _ => q z H' s1 h0⟩
theorem ok_digits (D : Df K mg "_law_digits" sDigits ["_law_script", "_law_at", "_law_many", "_law_base"]) (T : TB mg) (cC : C8.Cal P w K mg base 2 "_law_cell_at" (spCellAt K) []) (cD : C8.Cal P w K mg base 1 "_law_draw" spDraw []) : C8.Cal P w K mg base 3 "_law_digits" (spDigits K) [] := by
  refine D.ok scDigits (fun vs H Q E h => ?_) (fun f cdv A outer s H vs Q E hr h => ?_)
  · obtain ⟨_, _, _, _, _, rfl, _⟩ := h
    rfl
  · obtain ⟨a, ns, k, n, b, rfl, hl, hb0, hb1, hn, q⟩ := h
    have nd := scDigits.nd
    refine ⟨_, pss_cons (ps_par (i := 4) (j := 5) rfl nd rfl rfl (by decide) rfl rfl (pa_cons (C8.pe_c cC hr (by decide) (by rfl) (pa_cons (pv 0) (pa_cons (pv 1) pa_nil))) (pa_cons (pe_lst pa_nil) pa_nil)) (by rfl))
      (pss_cons (ps_set (i := 6) nd rfl (.inl rfl) (pe_op op_sub (pv 4) (pe_op op_pow pe_int pe_int)))
      (pss_cons (ps_for PassesOwn.never rfl (pi_range1 (by rfl) T.range (pa_cons (pv 2) pa_nil)) (pg_name (i := 7) nd rfl (.inl rfl))
        (pss_one (ps_if (pt_cmpR op_ge (pv 4) (pe_op op_pow pe_int pe_int) (by rfl))
          (pss_cons (ps_expr (pe_bm PySem.F.plainAttrs_list PySem.F.slot_list_append PySem.F.type_list_append mt_append (pv 5) (pa_cons (pe_op op_mod (pv 6) (pv 3)) pa_nil)))
          (pss_one (ps_set (i := 6) nd rfl (.inl rfl) (pe_op op_fdiv (pv 6) (pv 3)))))
          (pss_cons (ps_set (i := 8) nd rfl (.inl rfl) (C8.pe_c cD hr (by decide) (by rfl) (pa_cons (pe_op op_mul (pe_op op_add (pv 4) (pe_op op_mul pe_int (pv 7))) (pe_op op_add (pe_op op_add (pv 4) (pe_op op_mul pe_int (pv 7))) pe_int)) (pa_cons (pe_op op_add (pe_op op_mod (pv 7) pe_int) pe_int) (pa_cons pe_int pa_nil)))))
          (pss_cons (ps_set (i := 9) nd rfl (.inl rfl) (C8.pe_c cD hr (by decide) (by rfl) (pa_cons (pe_op op_add (pe_op op_mul (pe_op op_add (pv 4) (pe_op op_mul pe_int (pv 7))) (pe_op op_add (pv 4) pe_int)) (pe_op op_mul pe_int (pv 7))) (pa_cons (pe_op op_add (pe_op op_mod (pv 7) pe_int) pe_int) (pa_cons pe_int pa_nil)))))
          (pss_one (ps_expr (pe_bm PySem.F.plainAttrs_list PySem.F.slot_list_append PySem.F.type_list_append mt_append (pv 5) (pa_cons (pe_op op_mod (pe_callTy call_int1 (by rfl) T.int PyProof.Rows.boot_int (pa_cons (pe_op op_add (pe_op op_mul (pv 8) pe_int) (pv 9)) pa_nil)) (pv 3)) pa_nil)))))))))
      (pss_one (ps_ret (pv 5))))), ?_⟩
    have e18 : (10 : Int) ^ ((18 : Int).toNat) = 1000000000000000000 := by decide
    refine ⟨.ref a, rfl, .int (k : Nat), rfl, a, ns, k, rfl, hl, fun c H1 s1 hc => ?_⟩
    refine ⟨Nat.zero_le _, fun df ndf => ⟨_, _, rfl, ?_⟩⟩
    have s2 := s1.trans (same_upd (o := .lst []) ndf)
    have hf2 : (upd H1 df (.lst [])) df = some (.lst (([] : List Int).map V.int)) := upd_same
    have ndf0 := s1.free ndf
    generalize upd H1 df (.lst []) = H2 at s2 hf2
    refine ⟨.int c, rfl, 10, 18, rfl, rfl, ⟨by decide, by decide, by decide⟩, _, _, rfl, rfl, ?_⟩
    refine ⟨.int (n : Nat), rfl, _, rfl, ?_, ?_, for_range (n := n) (fun i σ H' => ∃ (left : Int) (zs : List Int) (v7 v8 v9 : Option V), σ = [some (.ref a), some (.int (k : Nat)), some (.int (n : Nat)), some (.int b), some (.int c), some (.ref df), some (.int left), v7, v8, v9] ∧ Same H H' ∧ H' df = some (.lst (zs.map V.int)) ∧ zs.length = i)
      ⟨_, [], none, none, none, rfl, s2, hf2, rfl⟩ (fun i σ H' hi hI => ?_) (fun σ H' hI => ?_)⟩
    · show -(4611686018427387904 : Int) ≤ _
      omega
    · show _ < (4611686018427387904 : Int)
      omega
    · obtain ⟨left, zs, v7, v8, v9, rfl, sm, hf, hzl⟩ := hI
      refine ⟨.int c, rfl, 10, 18, rfl, rfl, ⟨by decide, by decide, by decide⟩, c, _, rfl, rfl, _, rfl, iteD (fun hge => ?_) (fun hlt => ?_)⟩
      · refine ⟨.ref df, rfl, .inl ⟨rfl, _, .inl (.inl hf)⟩, .int left, rfl, .int b, rfl, left, b, rfl, rfl, hb0, df, _, _, rfl, rfl, hf, by rw [List.length_map]; exact small9 (by omega), ?_⟩
        refine ⟨.int left, rfl, .int b, rfl, left, b, rfl, rfl, ⟨hb0, hb1⟩, left / b, zs ++ [left % b], _, _, _, rfl, same_mut sm ndf0, by rw [upd_same, List.map_append]; rfl, by rw [List.length_append, List.length_singleton]; omega⟩
      · rw [e18] at hlt
        have hc18 : c < 1000000000000000000 := by omega
        have e0 : (0 : Int) + (i : Int) = (i : Nat) := by omega
        have hi2 : (i : Int) < 200 := by omega
        have b64 : (2 : Int) ^ 64 = 18446744073709551616 := by decide
        rw [e0]
        refine ⟨.int c, rfl, .int (i : Nat), rfl, 977, (i : Nat), rfl, rfl, .inl ⟨by decide, by decide⟩, c, _, rfl, rfl, .int c, rfl, .int (i : Nat), rfl, 31, (i : Nat), rfl, rfl, .inl ⟨by decide, by decide⟩, c, _, rfl, rfl, _, 5, rfl, rfl, _, _, rfl, rfl, .inl ⟨by rw [b64]; omega, by rw [b64]; omega⟩, ?_⟩
        refine ⟨.int (i : Nat), rfl, (i : Nat), 9, rfl, rfl, (by show (0 : Int) < 9; decide), _, 1, rfl, rfl, _, _, 999983, rfl, by decide, fun bl H3 s3 _ _ => ?_⟩
        refine ⟨.int c, rfl, .int (i : Nat), rfl, 31, (i : Nat), rfl, rfl, .inl ⟨by decide, by decide⟩, c, _, rfl, rfl, .int c, rfl, c, 7, rfl, rfl, _, _, rfl, rfl, .inl ⟨by rw [b64]; omega, by rw [b64]; omega⟩, .int (i : Nat), rfl, 977, (i : Nat), rfl, rfl, .inl ⟨by decide, by decide⟩, _, _, rfl, rfl, ?_⟩
        refine ⟨.int (i : Nat), rfl, (i : Nat), 7, rfl, rfl, (by show (0 : Int) < 7; decide), _, 2, rfl, rfl, _, _, 1000003, rfl, by decide, fun mo H4 s4 _ _ => ?_⟩
        have s34 := s3.trans s4
        have hf4 := s34 _ _ hf
        refine ⟨.ref df, rfl, .inl ⟨rfl, _, .inl (.inl hf4)⟩, .int bl, rfl, bl, 1000003, rfl, rfl, .inr ⟨by decide, by decide⟩, .int mo, rfl, _, mo, rfl, rfl, .inl ⟨_, rfl, .int b, rfl, _, b, rfl, rfl, hb0, df, _, _, rfl, rfl, hf4, by rw [List.length_map]; exact small9 (by omega), ?_⟩⟩
        exact ⟨left, zs ++ [_], _, _, _, rfl, same_mut (sm.trans s34) ndf0, by rw [upd_same, List.map_append]; rfl, by rw [List.length_append, List.length_singleton]; omega⟩
    · obtain ⟨left, zs, v7, v8, v9, rfl, sm, hf, hzl⟩ := hI
      exact ⟨.ref df, rfl, q df zs H' sm ndf0 hf hzl⟩
end
end BT
namespace BT
open PySem PyProof.Rows L2
/-! ### the draws: a list that is used up -/
def DrawsAt (H : Hp) (d : Addr) : Prop := ∃ zs : List Int, H d = some (.lst (zs.map V.int)) ∧ zs.length ≤ 900
/-- nothing but d is changed -/
def Kp (d : Addr) (H H' : Hp) : Prop := ∀ b o, H b = some o → b ≠ d → H' b = some o
theorem Kp.refl (d : Addr) (H : Hp) : Kp d H H := fun _ _ h _ => h
theorem Kp.trans {d : Addr} {H H1 H2 : Hp} (a : Kp d H H1) (b : Kp d H1 H2) : Kp d H H2 := fun c o h n => b c o (a c o h n) n
theorem Kp.of {d : Addr} {H H' : Hp} (s : Same H H') : Kp d H H' := fun b o h _ => s b o h
theorem Kp.mut {d : Addr} {H H' : Hp} {o : HO} (k : Kp d H H') : Kp d H (upd H' d o) := fun b u h n => by rw [upd_ne n]; exact k b u h n
theorem Kp.fresh {d p : Addr} {H H' : Hp} {o : HO} (k : Kp d H H') (h : H p = none) : Kp d H (upd H' p o) := fun b u hb n => by
  rw [upd_ne (ne_of_none hb h)]
  exact k b u hb n
theorem DrawsAt.same {H H' : Hp} {d : Addr} (s : Same H H') (h : DrawsAt H d) : DrawsAt H' d := by
  obtain ⟨zs, h1, h2⟩ := h
  exact ⟨zs, s _ _ h1, h2⟩
theorem DrawsAt.upd {H : Hp} {d p : Addr} {o : HO} (h : DrawsAt H d) (hn : p ≠ d) : DrawsAt (upd H p o) d := by
  obtain ⟨zs, h1, h2⟩ := h
  exact ⟨zs, by rw [upd_ne hn.symm]; exact h1, h2⟩
theorem DrawsAt.ne {H : Hp} {d p : Addr} (h : DrawsAt H d) (hn : H p = none) : p ≠ d := by
  obtain ⟨zs, h1, h2⟩ := h
  exact (ne_of_none h1 hn).symm
theorem Kp.free {d p : Addr} {H H' : Hp} (k : Kp d H H') (h : DrawsAt H' d) (hn : H' p = none) : H p = none := by
  cases e : H p with
  | none => rfl
  | some o =>
    have := k p o e (h.ne hn)
    rw [hn] at this
    cases this
abbrev sTake : Stmt := top 25
theorem scTake : FnScope ["_law_draws", "_law_many"] ["_law_draws", "_law_many"] (defScope sTake) := ⟨rfl, rfl, rfl, by decide +kernel, rfl, by decide +kernel, by decide +kernel⟩
/-- _law_take -/
def spTake : Sp := fun vs H Q _ => ∃ (d : Addr) (m : Int), vs = [.ref d, .int m] ∧ 0 < m ∧ DrawsAt H d ∧ ∀ (z : Int) (H' : Hp), Kp d H H' → DrawsAt H' d → 0 ≤ z → z < m → Q (.int z) H'
abbrev sPool : Stmt := top 26
abbrev nPool : List Str := ["_law_script", "_law_bases", "_law_found", "_law_at", "_law_base"]
theorem scPool : FnScope nPool ["_law_script", "_law_bases"] (defScope sPool) := ⟨rfl, rfl, rfl, by decide +kernel, rfl, by decide +kernel, by decide +kernel⟩
/-- _law_pool -/
def spPool (K : PySem.W.Frag) : Sp := fun vs H Q _ => ∃ (a t : Addr) (ns : List Int), vs = [.ref a, .ref t] ∧ SqL K H a (ns.map V.int) ∧ SqT K H t (([1000003, 999983] : List Int).map V.int) ∧
  ∀ (p : Addr) (H' : Hp), Same H H' → H p = none → DrawsAt H' p → Q (.ref p) H'
section
variable {P : Program} {w : World} {K : PySem.W.Frag} {mg : Str → Option Value} {base : Heap}
theorem ok_take (D : Df K mg "_law_take" sTake ["_law_draws", "_law_many"]) (T : TB mg) : C8.Cal P w K mg base 1 "_law_take" spTake [] := by
  refine D.ok scTake (fun vs H Q E h => ?_) (fun f cdv A outer s H vs Q E hr h => ?_)
  · obtain ⟨_, _, rfl, _⟩ := h
    rfl
  · obtain ⟨d, m, rfl, hm, hd, q⟩ := h
    have hu4 := hr.units
    refine ⟨_, pss_one (ps_ret (pe_ifExp (pt_cmpR (op_neInts hu4) (pv 0) (pe_lst pa_nil) (nomark _)) (pe_op op_mod (pe_callTy call_int1 (by rfl) T.int PyProof.Rows.boot_int (pa_cons (pe_bm PySem.F.plainAttrs_list PySem.F.slot_list_pop PySem.F.type_list_pop mt_popAt (pv 0) (pa_cons pe_int pa_nil)) pa_nil)) (pv 1)) pe_int)), ?_⟩
    obtain ⟨zs, hz, hl⟩ := id hd
    refine ⟨.ref d, rfl, Nat.zero_le _, fun c nc => ?_⟩
    have s1 := same_upd (o := .lst []) nc
    have hz1 := s1 _ _ hz
    refine ⟨d, c, zs, [], rfl, rfl, .inl (.inl hz1), .inl (.inl upd_same), _, rfl, iteN (fun hne => ?_) (fun he => ?_)⟩
    · cases zs with
      | nil => exact absurd rfl hne
      | cons z zs =>
        refine ⟨.ref d, rfl, .inl ⟨rfl, _, .inl (.inl hz1)⟩, d, _, 0, 0, .int z, rfl, rfl, hz1, by decide, by decide, ?_, rfl, .inl ⟨z, rfl, .int m, rfl, z, m, rfl, rfl, hm, ?_⟩⟩
        · rw [List.length_map, List.length_cons]
          exact seq_index0 _
        · rw [List.length_cons] at hl
          exact q _ _ (Kp.of s1).mut ⟨zs, upd_same, by omega⟩ (Int.emod_nonneg _ (by omega)) (Int.emod_lt_of_pos _ hm)
    · exact q 0 _ (Kp.of s1) (hd.same s1) (Int.le_refl _) hm
theorem ok_pool (D : Df K mg "_law_pool" sPool ["_law_script", "_law_bases"]) (T : TB mg) (cD : C8.Cal P w K mg base 3 "_law_digits" (spDigits K) []) : C8.Cal P w K mg base 4 "_law_pool" (spPool K) [] := by
  refine D.ok scPool (fun vs H Q E h => ?_) (fun f cdv A outer s H vs Q E hr h => ?_)
  · obtain ⟨_, _, _, rfl, _⟩ := h
    rfl
  · obtain ⟨a, t, ns, rfl, hl, ht, q⟩ := h
    have nd := scPool.nd
    refine ⟨_, pss_cons (ps_set (i := 2) nd rfl (.inl rfl) (pe_lst pa_nil))
      (pss_cons (ps_for PassesOwn.never rfl (pi_enumT (by rfl) T.enumerate (pa_cons (pv 1) pa_nil)) (pg_tup rfl (pgs_cons (pg_name (i := 3) nd rfl (.inl rfl)) (pgs_cons (pg_name (i := 4) nd rfl (.inl rfl)) pgs_nil)))
        (pss_one (ps_set (i := 2) nd rfl (.inl rfl) (pe_op op_cat (pv 2) (C8.pe_c cD hr (by decide) (by rfl) (pa_cons (pv 0) (pa_cons (pv 3) (pa_cons pe_int (pa_cons (pv 4) pa_nil)))))))))
      (pss_one (ps_ret (pv 2)))), ?_⟩
    refine ⟨Nat.zero_le _, fun d0 nd0 => ?_⟩
    have s0 := same_upd (o := .lst []) nd0
    have h0 : (upd H d0 (.lst [])) d0 = some (.lst (([] : List Int).map V.int)) := upd_same
    generalize upd H d0 (.lst []) = H0 at s0 h0
    refine ⟨.ref t, rfl, t, _, rfl, ht.ext s0, for_it (walk_enumT (K := K) (a := t) (xs := ([1000003, 999983] : List Int).map V.int)) (fun i σ H' => ∃ (d : Addr) (zs : List Int) (v3 v4 : Option V), σ = [some (.ref a), some (.ref t), some (.ref d), v3, v4] ∧ Same H H' ∧ H d = none ∧ H' d = some (.lst (zs.map V.int)) ∧ zs.length = 120 * i)
      ⟨d0, [], none, none, rfl, s0, nd0, h0, rfl⟩ (fun i σ H' _ ⟨_, _, _, _, _, s1, _⟩ => ht.ext s1) (fun i x σ H1 H2 hi hI y => ?_) (fun σ H' hI => ?_)⟩
    · obtain ⟨d, zs, v3, v4, rfl, s1, nd, hd, hzl⟩ := hI
      obtain ⟨T2, x1, x2, rfl, nT, rfl, h1, h2⟩ := y
      obtain rfl : V.int (i : Nat) = x1 := Option.some.inj h1
      obtain ⟨b, hb, rfl⟩ := map_int_at h2
      have hi : i < 2 := hi
      have hb2 : 0 < b ∧ b < 1073741824 := by
        have : ([1000003, 999983] : List Int).all (fun p => decide (0 < p ∧ p < 1073741824)) = true := by decide
        exact of_decide_eq_true (List.all_eq_true.mp this _ (List.mem_of_getElem? hb))
      have sT := same_upd (o := .tup [V.int (i : Nat), .int b]) nT
      refine ⟨T2, [.int (i : Nat), .int b], rfl, .inl (.inl upd_same), rfl, .int (i : Nat), [.int b], rfl, .int b, [], rfl, rfl, ?_⟩
      have s2 := s1.trans sT
      have hd2 := sT _ _ hd
      generalize upd H1 T2 (.tup [V.int (i : Nat), .int b]) = H2 at s2 hd2
      refine ⟨.ref d, rfl, .ref a, rfl, .int (i : Nat), rfl, .int b, rfl, a, ns, i, 120, b, rfl, s2.seq hl, hb2.1, hb2.2, by decide, fun p ys H3 s3 np hp hyl => ?_⟩
      refine ⟨d, p, _, _, rfl, rfl, s3 _ _ hd2, hp, ?_, fun c nc => ?_⟩
      · rw [List.length_map, List.length_map]
        exact Nat.le_of_lt (small9 (by omega))
      · have s4 := (s2.trans s3)
        exact ⟨c, zs ++ ys, _, _, rfl, s4.trans (same_upd nc), s4.free nc, by rw [upd_same, List.map_append], by rw [List.length_append]; omega⟩
    · obtain ⟨d, zs, v3, v4, rfl, s1, nd, hd, hzl⟩ := hI
      have hzl : zs.length = 120 * 2 := hzl
      exact ⟨.ref d, rfl, q d H' s1 nd ⟨zs, hd, by omega⟩⟩
end
end BT
namespace BT
open PySem PySem.Spec PyProof.Rows L2
theorem look_relabel {f : Str × NameKind → Str × NameKind} (h1 : ∀ p, (f p).1 = p.1) (h2 : ∀ p, (f p).2 = p.2 ∨ (p.2 = .free ∧ (f p).2 = .cell)) : ∀ {names : List (Str × NameKind)} {x : Str} {k : NameKind}, names.lookup x = some k → (names.map f).lookup x = some k ∨ (k = .free ∧ (names.map f).lookup x = some .cell)
  | [], x, k, h => by simp at h
  | (n, k0) :: r, x, k, h => by
    have e : ∃ k1, f (n, k0) = (n, k1) := ⟨(f (n, k0)).2, Prod.ext (h1 (n, k0)) rfl⟩
    obtain ⟨k1, e⟩ := e
    have h3 := h2 (n, k0)
    rw [e] at h3
    have h3 : k1 = k0 ∨ (k0 = .free ∧ k1 = .cell) := h3
    rw [List.map_cons, e]
    rw [List.lookup_cons] at h ⊢
    cases hb : (x == n) with
    | true =>
      rw [hb] at h
      have h : k0 = k := Option.some.inj h
      rcases h3 with z | ⟨z1, z2⟩
      · exact .inl (by rw [z, h])
      · exact .inr ⟨by rw [← h, z1], by rw [z2]⟩
    | false =>
      rw [hb] at h
      exact look_relabel h1 h2 h
/-- a comprehension within a comprehension -/
theorem blkOk_in {N : List Str} {sc scope : Scope} {env : Env} {own : List (Str × Nat)} (h : blkC N sc scope own = true) : BlkOk N (relabel sc env) scope own := by
  have b := blkOk_by h
  refine ⟨b.kind, b.uniq, b.ix, fun y hy e => ?_, b.own⟩
  have key : ∀ {k}, sc.names.lookup y.1 = some k → (k = .cell ∨ k = .free) → (relabel sc env).names.lookup y.1 = some .cell ∨ (relabel sc env).names.lookup y.1 = some .free := fun {k} hk hk2 => by
    have := look_relabel (f := fun p => if (p.2 == NameKind.free && env.scope.kind == .function && env.kindOf p.1 == some .cell) = true then (p.1, NameKind.cell) else (p.1, p.2)) (fun p => by
      show (if _ then _ else _ : Str × NameKind).1 = _
      split <;> rfl) (fun p => by
      show (if _ then _ else _ : Str × NameKind).2 = _ ∨ _ ∧ (if _ then _ else _ : Str × NameKind).2 = _
      split
      · rename_i z
        simp only [Bool.and_eq_true, beq_iff_eq] at z
        exact .inr ⟨z.1.1, rfl⟩
      · exact .inl rfl) hk
    rcases this with z | ⟨z1, z2⟩
    · rcases hk2 with y1 | y1
      · rw [y1] at z; exact .inl z
      · rw [y1] at z; exact .inr z
    · exact .inl z2
  rcases b.free y hy e with z | z
  · exact key z (.inl rfl)
  · exact key z (.inr rfl)
/-! ### dict([(k, v), ..]) -/
def KX (ex : List Addr) (H H' : Hp) : Prop := ∀ b o, H b = some o → b ∉ ex → H' b = some o
theorem KX.of {ex : List Addr} {H H' : Hp} (s : Same H H') : KX ex H H' := fun b o h _ => s b o h
theorem KX.kp {ex : List Addr} {d : Addr} {H H' : Hp} (s : Kp d H H') (h : d ∈ ex) : KX ex H H' := fun b o hb hn => s b o hb (fun z => hn (by rw [z]; exact h))
theorem KX.mut {ex : List Addr} {d : Addr} {H : Hp} {o : HO} (h : d ∈ ex) : KX ex H (upd H d o) := fun b u hb hn => by
  rw [upd_ne (fun z => hn (by rw [z]; exact h))]; exact hb
abbrev Tups (ex : List Addr) (H : Hp) : List V → List (Key × V) → Prop := Paired fun v kv => ∃ T, v = .ref T ∧ T ∉ ex ∧ H T = some (.tup [kV kv.1, kv.2])
abbrev WPx (ex : List Addr) (H : Hp) : List (Key × V) → Ways → Prop := Paired fun kv p => kv.1 = Sum.inl p.1 ∧ ∃ a, kv.2 = .ref a ∧ a ∉ ex ∧ H a = some (.lst (p.2.map V.int))
theorem Tups.kx {ex : List Addr} {H H' : Hp} (k : KX ex H H') {xs : List V} {kvs : List (Key × V)} (h : Tups ex H xs kvs) : Tups ex H' xs kvs := by
  induction h with
  | nil => exact .nil
  | cons h t ih =>
    obtain ⟨T, h1, h2, h3⟩ := h
    exact .cons ⟨T, h1, h2, k _ _ h3 h2⟩ ih
theorem WPx.kx {ex : List Addr} {H H' : Hp} (k : KX ex H H') {kvs : List (Key × V)} {W : Ways} (h : WPx ex H kvs W) : WPx ex H' kvs W := by
  induction h with
  | nil => exact .nil
  | cons h t ih =>
    obtain ⟨h1, a, h2, h3, h4⟩ := h
    exact .cons ⟨h1, a, h2, h3, k _ _ h4 h3⟩ ih
theorem WPx.wp {ex : List Addr} {H : Hp} {kvs : List (Key × V)} {W : Ways} (h : WPx ex H kvs W) : WP H kvs W := by
  induction h with
  | nil => exact .nil
  | cons h t ih =>
    obtain ⟨h1, a, h2, _, h4⟩ := h
    exact .cons ⟨h1, a, h2, h4⟩ ih
theorem WPx.of {ex : List Addr} {H : Hp} {kvs : List (Key × V)} {W : Ways} (h : WP H kvs W) (hn : ∀ x, x ∈ ex → ∀ ys, H x ≠ some (.lst ys)) : WPx ex H kvs W := by
  induction h with
  | nil => exact .nil
  | cons h t ih =>
    obtain ⟨h1, a, h2, h4⟩ := h
    exact .cons ⟨h1, a, h2, fun z => hn a z _ h4, h4⟩ ih
theorem Tups.snoc {ex : List Addr} {H : Hp} {xs : List V} {kvs : List (Key × V)} (h : Tups ex H xs kvs) {kv : Key × V} {T : Addr} (h1 : T ∉ ex) (h2 : H T = some (.tup [kV kv.1, kv.2])) : Tups ex H (xs ++ [.ref T]) (kvs ++ [kv]) := by
  induction h with
  | nil => exact .cons ⟨T, rfl, h1, h2⟩ .nil
  | cons h t ih => exact .cons h ih
theorem WPx.snoc {ex : List Addr} {H : Hp} {kvs : List (Key × V)} {W : Ways} (h : WPx ex H kvs W) {p : Int × List Int} {a : Addr} (h1 : a ∉ ex) (h2 : H a = some (.lst (p.2.map V.int))) : WPx ex H (kvs ++ [(Sum.inl p.1, .ref a)]) (W ++ [p]) := by
  induction h with
  | nil => exact .cons ⟨rfl, a, rfl, h1, h2⟩ .nil
  | cons h t ih => exact .cons h ih
theorem Tups.dict {K : PySem.W.Frag} {ex : List Addr} {H : Hp} {xs : List V} {kvs : List (Key × V)} (h : Tups ex H xs kvs) : ∃ ps, xs = ps.map V.ref ∧ Paired (fun p kv => SqT K H p [kV kv.1, kv.2]) ps kvs := by
  induction h with
  | nil => exact ⟨[], rfl, .nil⟩
  | cons h t ih =>
    obtain ⟨T, h1, h2, h3⟩ := h
    obtain ⟨ps, e, p⟩ := ih
    exact ⟨T :: ps, by rw [h1, e]; rfl, .cons (.inl (.inl h3)) p⟩
theorem merge_app : ∀ {kvs acc : List (Key × V)}, ((acc ++ kvs).map Prod.fst).Nodup → mergeK acc kvs = acc ++ kvs
  | [], acc, _ => by rw [List.append_nil]; rfl
  | (k, v) :: r, acc, h => by
    have e : mergeK acc ((k, v) :: r) = mergeK (putK acc k v) r := rfl
    have hn : valV acc k = none := by
      cases z : valV acc k with
      | none => rfl
      | some y =>
        rw [List.map_append, List.map_cons] at h
        have h3 := (List.nodup_append.mp h).2.2
        exact absurd rfl (h3 k (valV_in z) k (List.mem_cons_self ..))
    rw [e, putK_new v hn, merge_app (by rw [List.append_assoc]; exact h), List.append_assoc]
    rfl
theorem merge_nd {kvs : List (Key × V)} (h : (kvs.map Prod.fst).Nodup) : mergeK [] kvs = kvs := merge_app (acc := []) h
theorem sorted_unique : ∀ {l m : List Int}, l.Perm m → l.Pairwise (· ≤ ·) → m.Pairwise (· ≤ ·) → l = m
  | [], m, h, _, _ => (List.nil_perm.mp h).symm
  | a :: l, [], h, _, _ => absurd (List.perm_nil.mp h) (List.cons_ne_nil _ _)
  | a :: l, b :: m, h, h1, h2 => by
    obtain ⟨a1, a2⟩ := List.pairwise_cons.mp h1
    obtain ⟨b1, b2⟩ := List.pairwise_cons.mp h2
    have e : a = b := by
      have ha : a ∈ b :: m := h.subset (List.mem_cons_self ..)
      have hb : b ∈ a :: l := h.symm.subset (List.mem_cons_self ..)
      rcases List.mem_cons.mp ha with z | z
      · exact z
      · rcases List.mem_cons.mp hb with y | y
        · exact y.symm
        · have := b1 a z
          have := a1 b y
          omega
    subst e
    rw [sorted_unique h.cons_inv a2 b2]
/-! ### the graph under its names -/
theorem nodup_map_on {N : Int → Int} : ∀ {l : List Int}, l.Nodup → (∀ x, x ∈ l → ∀ y, y ∈ l → N x = N y → x = y) → (l.map N).Nodup
  | [], _, _ => List.nodup_nil
  | a :: l, h, hi => by
    obtain ⟨h1, h2⟩ := List.nodup_cons.mp h
    rw [List.map_cons]
    refine List.nodup_cons.mpr ⟨fun z => ?_, nodup_map_on h2 fun x hx y hy => hi x (List.mem_cons_of_mem _ hx) y (List.mem_cons_of_mem _ hy)⟩
    obtain ⟨y, hy, e⟩ := List.mem_map.mp z
    have := hi a (List.mem_cons_self ..) y (List.mem_cons_of_mem _ hy) e.symm
    rw [this] at h1
    exact h1 hy
theorem path_map {s s' : Int → List Int} {N : Int → Int} {S : Int → Prop} (clo : ∀ x o, S x → o ∈ s x → S o) (hs : ∀ x o, S x → o ∈ s x → N o ∈ s' (N x)) {a b : Int} {p : List Int} (h : Path s a p b) (ha : S a) : Path s' (N a) (p.map N) (N b) := by
  induction h with
  | one a => exact .one (N a)
  | cons ho h ih => exact .cons (hs _ _ ha ho) (ih (clo _ _ ha ho))
theorem named_ok {s : Int → List Int} {fl srt : List Int} {N : Int → Int} {told : Ways} (nd : fl.Nodup) (h0 : (0 : Int) ∈ fl) (clo : ∀ x o, x ∈ fl → o ∈ s x → o ∈ fl) (reach : ∀ x, x ∈ fl → ∃ p, Path s 0 p x) (len : fl.length ≤ 9) (deg : ∀ x, x ∈ fl → (s x).length ≤ 3)
    (inj : ∀ x, x ∈ fl → ∀ y, y ∈ fl → N x = N y → x = y) (ht : told = fl.map fun x => (N x, (s x).map N)) (hs : srt.Perm (fl.map N)) :
    GOk (srt.map fun p => (p, nx told p)) (N 0) ∧ ks (srt.map fun p => (p, nx told p)) = srt := by
  have hndN := nodup_map_on nd inj
  have hksT : ks told = fl.map N := by rw [ht, ks, List.map_map]; rfl
  have hT : ∀ x, x ∈ fl → nx told (N x) = (s x).map N := fun x hx => by
    obtain ⟨i, hi⟩ := List.getElem?_of_mem hx
    have : told[i]? = some (N x, (s x).map N) := by rw [ht, List.getElem?_map, hi]; rfl
    exact nx_at (p := (N x, (s x).map N)) (by rw [hksT]; exact hndN) this
  have hks : ks (srt.map fun p => (p, nx told p)) = srt := by
    rw [ks, List.map_map]
    show srt.map id = srt
    rw [List.map_id]
  have hnds : srt.Nodup := hs.nodup_iff.mpr hndN
  have hW : ∀ u, u ∈ srt → nx (srt.map fun p => (p, nx told p)) u = nx told u := fun u hu => by
    obtain ⟨i, hi⟩ := List.getElem?_of_mem hu
    exact nx_at (p := (u, nx told u)) (by rw [hks]; exact hnds) (by rw [List.getElem?_map, hi]; rfl)
  have hmem : ∀ u, u ∈ srt ↔ ∃ x, x ∈ fl ∧ N x = u := fun u => by rw [hs.mem_iff, List.mem_map]
  have hN : ∀ x, x ∈ fl → N x ∈ srt := fun x hx => (hmem _).mpr ⟨x, hx, rfl⟩
  have hWN : ∀ x, x ∈ fl → nx (srt.map fun p => (p, nx told p)) (N x) = (s x).map N := fun x hx => by rw [hW _ (hN x hx), hT x hx]
  refine ⟨⟨by rw [hks]; exact hnds, by rw [hks]; exact hN 0 h0, fun u v hu hv => ?_, fun u hu => ?_, ?_, fun u => ?_⟩, hks⟩
  · rw [hks] at hu ⊢
    obtain ⟨x, hx, rfl⟩ := (hmem u).mp hu
    rw [hWN x hx] at hv
    obtain ⟨o, ho, rfl⟩ := List.mem_map.mp hv
    exact hN o (clo x o hx ho)
  · rw [hks] at hu
    obtain ⟨x, hx, rfl⟩ := (hmem u).mp hu
    obtain ⟨p, hp⟩ := reach x hx
    exact ⟨p.map N, path_map (S := fun x => x ∈ fl) clo (fun x o hx ho => by rw [hWN x hx]; exact List.mem_map.mpr ⟨o, ho, rfl⟩) hp h0⟩
  · have := hs.length_eq
    rw [List.length_map] at this ⊢
    omega
  · by_cases hu : u ∈ srt
    · obtain ⟨x, hx, rfl⟩ := (hmem u).mp hu
      rw [hWN x hx, List.length_map]
      exact deg x hx
    · rw [nx_out (by rw [hks]; exact hu)]
      exact Nat.zero_le _
end BT
namespace BT
open PySem L2
theorem ite_yes {b : Bool} {A B : Prop} (e : b = true) (h : A) : if b = true then A else B := by rw [if_pos e]; exact h
theorem ite_no {b : Bool} {A B : Prop} (e : b = false) (h : B) : if b = true then A else B := by rw [e]; exact iteF h
theorem ne_of_none' {H : Hp} {a b : Addr} {o : HO} (h1 : H a = some o) (h2 : H b = none) : b ≠ a := (ne_of_none h1 h2).symm
/-- a dict of lists of ints, all but the list at d -/
def WaysN (d : Addr) (H : Hp) (a : Addr) (W : Ways) : Prop := ∃ kvs, H a = some (.dK kvs) ∧ WPx [d] H kvs W
theorem WaysN.at {d : Addr} {H : Hp} {a : Addr} {W : Ways} (h : WaysN d H a W) : WaysAt H a W := by
  obtain ⟨kvs, h1, h2⟩ := h
  exact ⟨kvs, h1, h2.wp⟩
theorem DrawsAt.neK {H : Hp} {d a : Addr} {kvs : List (Key × V)} (h : DrawsAt H d) (ha : H a = some (.dK kvs)) : a ≠ d := by
  obtain ⟨zs, h1, _⟩ := h
  exact ne_of ha h1 (fun z => by cases z)
theorem WaysN.kp {d : Addr} {H H' : Hp} {a : Addr} {W : Ways} (k : Kp d H H') (hd : DrawsAt H d) (h : WaysN d H a W) : WaysN d H' a W := by
  obtain ⟨kvs, h1, h2⟩ := h
  exact ⟨kvs, k _ _ h1 (hd.neK h1), h2.kx (KX.kp k (by simp))⟩
theorem WaysN.same {d : Addr} {H H' : Hp} {a : Addr} {W : Ways} (s : Same H H') (h : WaysN d H a W) : WaysN d H' a W := by
  obtain ⟨kvs, h1, h2⟩ := h
  exact ⟨kvs, s _ _ h1, h2.kx (KX.of s)⟩
theorem WPx.less {d c : Addr} {H : Hp} {kvs : List (Key × V)} {W : Ways} (h : WPx [d, c] H kvs W) : WPx [d] H kvs W := by
  induction h with
  | nil => exact .nil
  | cons h t ih =>
    obtain ⟨h1, a, h2, h3, h4⟩ := h
    exact .cons ⟨h1, a, h2, fun z => h3 (List.mem_cons.mpr (.inl (by simpa using z))), h4⟩ ih
theorem nx_mem {W : Ways} {x : Int} : nx W x = [] ∨ ∃ p, p ∈ W ∧ nx W x = p.2 := by
  by_cases h : x ∈ ks W
  · unfold nx
    cases e : W.lookup x with
    | none => exact .inl rfl
    | some l => exact .inr ⟨(x, l), (by
        clear h
        induction W with
        | nil => simp at e
        | cons q r ih =>
          rw [List.lookup_cons] at e
          obtain ⟨k, v⟩ := q
          cases hb : (x == k) with
          | true =>
            rw [hb] at e
            have : v = l := Option.some.inj e
            rw [this, show x = k by simpa using hb]
            exact List.mem_cons_self ..
          | false =>
            rw [hb] at e
            exact List.mem_cons_of_mem _ (ih e)), rfl⟩
  · exact .inl (nx_out h)
theorem WPx.get {ex : List Addr} {H : Hp} {kvs : List (Key × V)} {W : Ways} (h : WPx ex H kvs W) {b : Int} (hb : b ∈ ks W) : ∃ a, valV kvs (Sum.inl b : Key) = some (.ref a) ∧ a ∉ ex ∧ H a = some (.lst ((nx W b).map V.int)) := by
  induction h with
  | nil => simp at hb
  | @cons kv p kvs W h t ih =>
    obtain ⟨h1, a, h2, hx, h3⟩ := h
    obtain ⟨k, os⟩ := p
    obtain ⟨k0, v0⟩ := kv
    have h1 : k0 = Sum.inl k := h1
    have h2 : v0 = .ref a := h2
    subst h1 h2
    by_cases e : k = b
    · subst e
      refine ⟨a, valV_pos rfl, hx, ?_⟩
      have : nx ((k, os) :: W) k = os := by simp [nx]
      rw [this]; exact h3
    · have e1 : valV ((Sum.inl k, V.ref a) :: kvs) (Sum.inl b : Key) = valV kvs (Sum.inl b) := valV_neg (fun z => e (Sum.inl.inj z))
      have e2 : nx ((k, os) :: W) b = nx W b := by
        unfold nx
        rw [List.lookup_cons]
        have : (b == k) = false := by simp; exact fun z => e z.symm
        rw [this]
      rw [e1, e2]
      refine ih ?_
      rw [ks, List.map_cons, List.mem_cons] at hb
      exact hb.elim (fun y => absurd y.symm e) id
/-- what a list of blocks leads to -/
def outs (s : Int → List Int) (fl : List Int) : Ways := fl.map fun x => (x, s x)
theorem outs_ks {s : Int → List Int} {fl : List Int} : ks (outs s fl) = fl := by
  unfold outs
  rw [ks, List.map_map]
  show fl.map id = fl
  rw [List.map_id]
theorem outs_snoc {s : Int → List Int} {fl : List Int} {x : Int} : outs s (fl ++ [x]) = outs s fl ++ [(x, s x)] := by
  unfold outs
  rw [List.map_append]; rfl
theorem outs_nx {s : Int → List Int} {fl : List Int} (nd : fl.Nodup) {x : Int} (h : x ∈ fl) : nx (outs s fl) x = s x := by
  obtain ⟨i, hi⟩ := List.getElem?_of_mem h
  exact nx_at (p := (x, s x)) (by rw [outs_ks]; exact nd) (by unfold outs; rw [List.getElem?_map, hi]; rfl)
def C5 : List Int := [1, 2, 0, 2, 3]
theorem c5_at {z : Int} (h0 : 0 ≤ z) (h5 : z < 5) : ∃ (j c : Nat), z = (j : Nat) ∧ C5[j]? = some (c : Int) ∧ c ≤ 3 := by
  obtain ⟨j, rfl⟩ : ∃ j : Nat, z = j := ⟨z.toNat, by omega⟩
  have hj : j < 5 := by omega
  refine ⟨j, (C5.getD j 0).toNat, rfl, ?_⟩
  match j, hj with
  | 0, _ => exact ⟨rfl, by decide⟩
  | 1, _ => exact ⟨rfl, by decide⟩
  | 2, _ => exact ⟨rfl, by decide⟩
  | 3, _ => exact ⟨rfl, by decide⟩
  | 4, _ => exact ⟨rfl, by decide⟩
theorem rng_lo (n : Nat) : -(2 ^ 62) ≤ (n : Int) := by
  show -(4611686018427387904 : Int) ≤ _
  omega
theorem rng_hi {n : Nat} (h : n ≤ 1000) : (n : Int) < 2 ^ 62 := by
  show _ < (4611686018427387904 : Int)
  omega
theorem rng_x {i : Nat} {x : V} (h : x = V.int (0 + (i : Int))) : x = V.int (i : Nat) := by rw [h, Int.zero_add]
/-- 0, 1, .. as ints -/
def rgI (n : Nat) : List Int := (List.range n).map fun i => ((i : Nat) : Int)
theorem rgI_succ (n : Nat) : rgI (n + 1) = rgI n ++ [(n : Int)] := by
  unfold rgI
  rw [List.range_succ, List.map_append]
  rfl
theorem rgI_mem {n : Nat} {x : Int} : x ∈ rgI n ↔ 0 ≤ x ∧ x < n := by
  unfold rgI
  rw [List.mem_map]
  constructor
  · rintro ⟨i, hi, rfl⟩
    have := List.mem_range.mp hi
    omega
  · rintro ⟨h0, h1⟩
    exact ⟨x.toNat, List.mem_range.mpr (by omega), by omega⟩
theorem rgI_len (n : Nat) : (rgI n).length = n := by
  unfold rgI
  rw [List.length_map, List.length_range]
theorem rgI_at {n i : Nat} (h : i < n) : (rgI n)[i]? = some (i : Int) := by
  unfold rgI
  rw [List.getElem?_map, List.getElem?_range h]
  rfl
theorem rgI_nd : ∀ n : Nat, (rgI n).Nodup
  | 0 => by unfold rgI; simp
  | n + 1 => by
    rw [rgI_succ]
    refine List.nodup_append.mpr ⟨rgI_nd n, by simp, fun y hy z hz e => ?_⟩
    have hz : z = n := by simpa using hz
    have := (rgI_mem.mp hy).2
    omega
theorem filter_ne {l : List Int} {m : Nat} (h : ∀ o, o ∈ l → o ∈ rgI m) : l.filter (fun o => decide (o ≠ (-1 : Int))) = l := by
  rw [List.filter_eq_self]
  intro o ho
  have := (rgI_mem.mp (h o ho)).1
  exact decide_eq_true (by omega)
/-- [f i for i in range(n)] -/
theorem lc_rng {n : Nat} {g : TG} {tt : TT} {te : TE} {vs : List Nat} {σ : St} {H1 : Hp} {D : Addr} {Qd : Hp → Prop} (f : Nat → Int) (nD : H1 D = none) (hn : n ≤ 900)
    (step : ∀ (i : Nat) (H' : Hp) (N : V → Hp → Prop) (M : Hp → Prop), i < n → Same H1 H' → N (.int (f i)) H' → g (.int (i : Nat)) (wipe σ vs) H' fun σ2 H2 => wipe σ2 vs = wipe σ vs ∧ tt σ2 H2 fun b H3 => if b = true then te σ2 H3 N else M H3)
    (after : ∀ H', Same H1 H' → H' D = some (.lst (((List.range n).map f).map V.int)) → Qd H') :
    ∃ W : Nat → Nat → Hp → Prop, (∃ m, W 0 m (upd H1 D (.lst []))) ∧ ∀ i m H, W i m H →
      ((Itr 0 n).stop i H ∧ Qd H) ∨ ((Itr 0 n).go i H ∧ ∃ Nx : Hp → Prop, (∀ H', Nx H' → ∃ m', m' < m ∧ W (i + 1) m' H') ∧ ∀ x H', (Itr 0 n).yld i H x H' → g x (wipe σ vs) H' fun σ2 H2 => wipe σ2 vs = wipe σ vs ∧ tt σ2 H2 fun b H3 =>
        if b = true then te σ2 H3 fun y H4 => ∃ acc, H4 D = some (.lst acc) ∧ acc.length < sizeLine ∧ Nx (upd H4 D (.lst (acc ++ [y]))) else Nx H3) := by
  refine lc_it (walk_range (lo := 0) (n := n)) (fun i H' => Same H1 H' ∧ H' D = some (.lst (((List.range i).map f).map V.int))) ⟨same_upd nD, upd_same⟩ (fun _ _ _ _ => True.intro) (fun i x H2' H2 hi h y => ?_) (fun H' h => ?_)
  · obtain ⟨s1, hD⟩ := h
    obtain ⟨rfl, hxe⟩ := y
    obtain rfl : x = V.int (i : Nat) := rng_x hxe
    refine step i H2 (fun y H4 => ∃ acc, H4 D = some (.lst acc) ∧ acc.length < sizeLine ∧ (Same H1 (upd H4 D (.lst (acc ++ [y]))) ∧ (upd H4 D (.lst (acc ++ [y]))) D = some (.lst (((List.range (i + 1)).map f).map V.int)))) _ hi s1 ⟨_, hD, ?_, same_mut s1 nD, ?_⟩
    · rw [List.length_map, List.length_map, List.length_range]; exact small9 (by omega)
    · rw [upd_same, List.range_succ, List.map_append, List.map_append]; rfl
  · exact after H' h.1 h.2
theorem nodup_inc {f : Nat → Int} : ∀ {n : Nat}, (∀ i j, i < j → j < n → f i < f j) → ((List.range n).map f).Nodup
  | 0, _ => by simp
  | n + 1, h => by
    rw [List.range_succ, List.map_append]
    refine List.nodup_append.mpr ⟨nodup_inc fun i j hij hj => h i j hij (by omega), by simp, fun y hy z hz e => ?_⟩
    obtain ⟨i, hi, rfl⟩ := List.mem_map.mp hy
    have hz : z = f n := by simpa using hz
    have := h i n (List.mem_range.mp hi) (by omega)
    omega
theorem WPx.lock {ex : List Addr} {H : Hp} {d : Addr} {u x : HO} (hd : H d = some u) (hu : ∀ xs, u ≠ .lst xs) {kvs : List (Key × V)} {W : Ways} (h : WPx ex H kvs W) : WPx ex (upd H d x) kvs W := by
  induction h with
  | nil => exact .nil
  | cons h t ih =>
    obtain ⟨h1, a, h2, hx, h3⟩ := h
    refine .cons ⟨h1, a, h2, hx, ?_⟩ ih
    rw [upd_ne (ne_of h3 hd (fun z => hu _ z.symm))]
    exact h3
theorem valV_named {N : Int → Int} {x : Int} : ∀ {fl : List Int}, x ∈ fl → valV (fl.map fun x => ((Sum.inl x : Key), V.int (N x))) (Sum.inl x : Key) = some (.int (N x))
  | [], h => by simp at h
  | y :: r, h => by
    by_cases e : y = x
    · subst e
      exact valV_pos rfl
    · have : x ∈ r := (List.mem_cons.mp h).resolve_left fun z => e z.symm
      exact (valV_neg (p := ((Sum.inl y : Key), V.int (N y))) (fun z => e (Sum.inl.inj z))).trans (valV_named this)
theorem nin2 {a b c : Addr} (h1 : a ≠ b) (h2 : a ≠ c) : a ∉ [b, c] := fun hm => by
  rcases List.mem_cons.mp hm with y | y
  · exact h1 y
  · exact h2 (by simpa using y)
end BT
namespace BT
open PySem PySem.Spec PyProof.Rows L2
abbrev sLGraph : Stmt := top 27
abbrev nLG : List Str := ["_law_draws", "_law_most", "_law_many", "_law_ways", "_law_found", "_law_line", "_law_one", "_law_names", "_law_places", "_law_blocks", "_law_told", "_law_at", "_law_turn", "_law_place", "_law_other"]
theorem scLG : FnScope nLG ["_law_draws", "_law_most"] (defScope sLGraph) := ⟨rfl, rfl, rfl, by decide +kernel, rfl, by decide +kernel, by decide +kernel⟩
def valOf : Stmt → Expr | .Assign _ v _ => v | .Return (some v) _ => v | _ => .Constant .none 0 ⟨0, 0, 0, 0⟩
def arg0 : Expr → Expr | .Call _ (a :: _) _ _ => a | e => e
def lcScope : Expr → Scope | .ListComp _ _ sc _ => sc | _ => defScope sLGraph
/-- the scope of the comprehension within dict(..) of the i-th statement -/
def scI (i : Nat) : Scope := lcScope (arg0 (valOf ((defBody sLGraph).getD i (.Pass ⟨0, 0, 0, 0⟩))))
section
variable {P : Program} {w : World} {K : PySem.W.Frag} {mg : Str → Option Value} {base : Heap}
def teWays (K : PySem.W.Frag) : TE := tTup (tCons (tVar 11) (tCons (tLc (iRng1 (tCons (tOp (rIxT K) (tTup (tCons (tC (.int 1)) (tCons (tC (.int 2)) (tCons (tC (.int 0)) (tCons (tC (.int 2)) (tCons (tC (.int 3)) tNil)))))) (tCall spTake [] C8.E0 (tCons (tVar 0) (tCons (tC (.int 5)) tNil)))) tNil)) (gName 12) tYes
  (tCall spTake [] C8.E0 (tCons (tVar 0) (tCons (tVar 2) tNil))) [12]) tNil))
/-- _law_graph -/
def spLGraph : Sp := fun vs H Q _ => ∃ d : Addr, vs = [.ref d, .int 9] ∧ DrawsAt H d ∧ ∀ (T db dw : Addr) (e : Int) (B W : Ways) (H' : Hp), Kp d H H' → DrawsAt H' d → H T = none → H' T = some (.tup [.int e, .ref db, .ref dw]) → WaysN d H' db B → WaysN d H' dw W → ks B = ks W → GOk W e → Q (.ref T) H'
theorem ok_lgraph (D : Df K mg "_law_graph" sLGraph ["_law_draws", "_law_most"]) (T : TB mg) (cT : C8.Cal P w K mg base 1 "_law_take" spTake []) : C8.Cal P w K mg base 2 "_law_graph" spLGraph [] := by
  refine D.ok scLG (fun vs H Q E h => ?_) (fun f cdv A outer s H vs Q E hr h => ?_)
  · obtain ⟨_, rfl, _⟩ := h
    rfl
  · obtain ⟨d, rfl, hd, k⟩ := h
    have hu := hu_of hr
    have hu4 := hr.units
    have nd := scLG.nd
    refine ⟨_, (C8.pss_cut (ps_set (i := 2) nd rfl (.inr rfl) (pe_op op_add pe_int (C8.pe_c cT hr (by decide) (by rfl) (pa_cons (pv 0) (pa_cons (pv 1) pa_nil)))))
      (C8.pss_cut (ps_set (i := 3) nd rfl (.inl rfl) (pe_callTy (call_dictP rfl) (by rfl) T.dict PyProof.Rows.boot_dict (pa_cons (pe_lc (own := [("_law_at", 11)]) (g := gName 11) (te := teWays K) rfl nd (pi_range1 (by rfl) T.range (pa_cons (pv 2) pa_nil)) (blkOk_by (own := [("_law_at", 11)]) (N := nLG) (sc := defScope sLGraph) (by decide +kernel))
          (fun _ _ _ _ _ => pg_name (i := 11) nd rfl (Or.inl rfl)) (fun _ _ _ _ _ => pts_nil) (fun _ _ _ _ _ => pe_tup (pa_cons (pv 11) (pa_cons (pe_lc (own := [("_law_turn", 12)]) (g := gName 12) rfl nd (pi_range1 (by rfl) T.range (pa_cons (pe_ix ix_tup (pe_tup (pa_cons pe_int (pa_cons pe_int (pa_cons pe_int (pa_cons pe_int (pa_cons pe_int pa_nil)))))) (C8.pe_c cT hr (by decide) (by rfl) (pa_cons (pv 0) (pa_cons pe_int pa_nil))) (fun _ _ => rfl)) pa_nil)) (blkOk_in (own := [("_law_turn", 12)]) (N := nLG) (sc := scI 1) (by decide +kernel))
          (fun _ _ _ _ _ => pg_name (i := 12) nd rfl (Or.inl rfl)) (fun _ _ _ _ _ => pts_nil) (fun _ _ _ _ _ => (C8.pe_c cT hr (by decide) (by rfl) (pa_cons (pv 0) (pa_cons (pv 2) pa_nil))))) pa_nil)))) pa_nil)))
      (C8.pss_cut (ps_asg (pe_tup (pa_cons pe_dnewK (pa_cons (pe_lst (pa_cons pe_int pa_nil)) pa_nil))) (pg_tup rfl (pgs_cons (pg_name (i := 4) nd rfl (.inr rfl)) (pgs_cons (pg_name (i := 5) nd rfl (.inl rfl)) pgs_nil))))
      (C8.pss_cut (ps_while PassesOwn.never (pt_cmpR (op_neInts hu4) (pv 5) (pe_lst pa_nil) (nomark _))
        (pss_cons (ps_set (i := 6) nd rfl (.inl rfl) (pe_bm0 PySem.F.plainAttrs_list PySem.F.slot_list_pop PySem.F.type_list_pop mt_pop (pv 5)))
        (pss_one (ps_if (pt_cmp (pc_dnotin hu (pv 6) (pv 4)))
          (pss_cons (ps_dput hu (pv 4) (pv 6) (pe_dget hu (pv 3) (pv 6) (fun _ _ => rfl)) rfl)
          (pss_one (ps_set (i := 5) nd rfl (.inl rfl) (pe_op op_cat (pv 5) (pe_dget hu (pv 3) (pv 6) (fun _ _ => rfl)))))) pss_nil))))
      (C8.pss_cut (ps_set (i := 7) nd rfl (.inr rfl) (pe_lc (own := [("_law_at", 11)]) (g := gName 11) rfl nd (pi_range1 (by rfl) T.range (pa_cons (pv 2) pa_nil)) (blkOk_by (own := [("_law_at", 11)]) (N := nLG) (sc := defScope sLGraph) (by decide +kernel))
          (fun _ _ _ _ _ => pg_name (i := 11) nd rfl (Or.inl rfl)) (fun _ _ _ _ _ => pts_nil) (fun _ _ _ _ _ => pe_op op_add (pe_op op_mod (pe_op op_add (pe_op op_mul pe_int (pv 11)) pe_int) (pe_op op_add (pe_op op_mul (pv 2) pe_int) pe_int)) (pe_op op_mul pe_int (pv 11)))))
      (C8.pss_cut (ps_set (i := 7) nd rfl (.inr rfl) (pe_ifExp (pt_cmpR op_eq (C8.pe_c cT hr (by decide) (by rfl) (pa_cons (pv 0) (pa_cons pe_int pa_nil))) pe_int (nomark _)) (pe_lc (own := [("_law_at", 11)]) (g := gName 11) rfl nd (pi_range1 (by rfl) T.range (pa_cons (pv 2) pa_nil)) (blkOk_by (own := [("_law_at", 11)]) (N := nLG) (sc := defScope sLGraph) (by decide +kernel))
          (fun _ _ _ _ _ => pg_name (i := 11) nd rfl (Or.inl rfl)) (fun _ _ _ _ _ => pts_nil) (fun _ _ _ _ _ => pe_op op_add (pe_op op_mul pe_int (pv 11)) (pe_op op_mod (pe_op op_mul (pv 11) (pv 11)) pe_int))) (pe_revL (pv 7))))
      (C8.pss_cut (ps_lock (ps_set (i := 8) nd rfl (.inr rfl) (pe_callTy (call_dictP rfl) (by rfl) T.dict PyProof.Rows.boot_dict (pa_cons (pe_lc (own := [("_law_one", 6)]) (g := gName 6) (te := tTup (tCons (tVar 6) (tCons (tOp (rIxL K) (tVar 7) (tVar 6)) tNil))) rfl nd (pi_keys (pv 4)) (blkOk_by (own := [("_law_one", 6)]) (N := nLG) (sc := defScope sLGraph) (by decide +kernel))
          (fun _ _ _ _ _ => pg_name (i := 6) nd rfl (Or.inl rfl)) (fun _ _ _ _ _ => pts_nil) (fun _ _ _ _ _ => pe_tup (pa_cons (pv 6) (pa_cons (pe_ix ix_list (pv 7) (pv 6) (fun _ _ => rfl)) pa_nil)))) pa_nil))))
      (C8.pss_cut (ps_set (i := 9) nd rfl (.inl rfl) (pe_callTy (call_dictP rfl) (by rfl) T.dict PyProof.Rows.boot_dict (pa_cons (pe_lc (own := [("_law_place", 13)]) (g := gName 13) rfl nd (pi_list (pe_sortedVals rfl (by rfl) T.sorted (pv 8))) (blkOk_by (own := [("_law_place", 13)]) (N := nLG) (sc := defScope sLGraph) (by decide +kernel))
          (fun _ _ _ _ _ => pg_name (i := 13) nd rfl (Or.inl rfl)) (fun _ _ _ _ _ => pts_nil) (fun _ _ _ _ _ => pe_tup (pa_cons (pv 13) (pa_cons (pe_lst (pa_cons (pv 13) pa_nil)) pa_nil)))) pa_nil)))
      (C8.pss_cut (ps_lock (ps_set (i := 10) nd rfl (.inr rfl) (pe_callTy (call_dictP rfl) (by rfl) T.dict PyProof.Rows.boot_dict (pa_cons (pe_lc (own := [("_law_one", 6)]) (g := gName 6) (te := tTup (tCons (tDGet (tVar 8) (tVar 6)) (tCons (tLc (iList K (tDGet (tVar 4) (tVar 6))) (gName 14) tYes (tDGet (tVar 8) (tVar 14)) [14]) tNil))) rfl nd (pi_keys (pv 4)) (blkOk_by (own := [("_law_one", 6)]) (N := nLG) (sc := defScope sLGraph) (by decide +kernel))
          (fun _ _ _ _ _ => pg_name (i := 6) nd rfl (Or.inl rfl)) (fun _ _ _ _ _ => pts_nil) (fun _ _ _ _ _ => pe_tup (pa_cons (pe_dget hu (pv 8) (pv 6) (fun _ _ => rfl)) (pa_cons (pe_lc (own := [("_law_other", 14)]) (g := gName 14) rfl nd (pi_list (pe_dget hu (pv 4) (pv 6) (fun _ _ => rfl))) (blkOk_in (own := [("_law_other", 14)]) (N := nLG) (sc := scI 8) (by decide +kernel))
          (fun _ _ _ _ _ => pg_name (i := 14) nd rfl (Or.inl rfl)) (fun _ _ _ _ _ => pts_nil) (fun _ _ _ _ _ => pe_dget hu (pv 8) (pv 14) (fun _ _ => rfl))) pa_nil)))) pa_nil))))
      (pss_one (ps_ret (pe_tup (pa_cons (pe_dget hu (pv 8) pe_int (fun _ _ => rfl)) (pa_cons (pv 9) (pa_cons (pe_callTy (call_dictP rfl) (by rfl) T.dict PyProof.Rows.boot_dict (pa_cons (pe_lc (own := [("_law_place", 13)]) (g := gName 13) rfl nd (pi_list (pe_callB (call_sortedDI rfl) (by rfl) T.sorted PyProof.Rows.boot_sorted (pa_cons (pv 10) pa_nil))) (blkOk_by (own := [("_law_place", 13)]) (N := nLG) (sc := defScope sLGraph) (by decide +kernel))
          (fun _ _ _ _ _ => pg_name (i := 13) nd rfl (Or.inl rfl)) (fun _ _ _ _ _ => pts_nil) (fun _ _ _ _ _ => pe_tup (pa_cons (pv 13) (pa_cons (pe_dget hu (pv 10) (pv 13) (fun _ _ => rfl)) pa_nil)))) pa_nil)) pa_nil))))))))))))))), ?_⟩
    -- many
    refine ⟨fun σ' H' => ∃ m : Nat, σ' = [some (.ref d), some (.int 9), some (.int (m : Nat)), none, none, none, none, none, none, none, none, none, none, none, none] ∧ Kp d H H' ∧ DrawsAt H' d ∧ 1 ≤ m ∧ m ≤ 9, ?_, fun σ' H1 hM => ?_⟩
    · refine ⟨.ref d, rfl, .int 9, rfl, d, 9, rfl, by decide, hd, fun z H' k1 hd1 h0 h1 => ⟨1, z, rfl, rfl, (1 + z).toNat, ?_, k1, hd1, by omega, by omega⟩⟩
      have : ((1 + z).toNat : Int) = 1 + z := by omega
      rw [this]
      rfl
    obtain ⟨m, rfl, k1, hd1, hm1, hm9⟩ := hM
    -- ways
    refine ⟨fun σ' H' => ∃ (dw : Addr) (W0 : Ways), σ' = [some (.ref d), some (.int 9), some (.int (m : Nat)), some (.ref dw), none, none, none, none, none, none, none, none, none, none, none] ∧ Kp d H H' ∧ DrawsAt H' d ∧ H dw = none ∧ WaysN d H' dw W0 ∧ ks W0 = rgI m ∧
        (∀ x, (nx W0 x).length ≤ 3 ∧ ∀ o, o ∈ nx W0 x → o ∈ rgI m), ?_, fun σ' H2 hM => ?_⟩
    · refine ⟨.int (m : Nat), rfl, _, rfl, rng_lo m, rng_hi (by omega), fun Dn nD => ?_⟩
      have nDd := hd1.ne nD
      refine lc_it (walk_range (lo := 0) (n := m)) (fun i H' => Kp d H1 H' ∧ DrawsAt H' d ∧ ∃ (xs : List V) (kvs : List (Key × V)) (W0 : Ways), H' Dn = some (.lst xs) ∧ Tups [d, Dn] H' xs kvs ∧ WPx [d, Dn] H' kvs W0 ∧ ks W0 = rgI i ∧ ∀ p, p ∈ W0 → p.2.length ≤ 3 ∧ ∀ o, o ∈ p.2 → o ∈ rgI m) ?_ ?_ ?_ ?_
      · exact ⟨Kp.of (same_upd nD), hd1.same (same_upd nD), [], [], [], upd_same, .nil, .nil, rfl, fun p hp => by simp at hp⟩
      · exact fun _ _ _ _ => True.intro
      · rintro i x H2' H2 hi ⟨k2, hd2, xs, kvs, W0, hDn, htu, hwp, hks, hall⟩ ⟨rfl, hxe⟩
        obtain rfl : x = V.int (i : Nat) := rng_x hxe
        refine ⟨rfl, .int (i : Nat), rfl, by show 5 ≤ sizeLine; decide, fun T5 nT5 => ?_⟩
        have hT5 : (upd H2 T5 (.tup (C5.map V.int))) T5 = some (.tup (C5.map V.int)) := upd_same
        have sT5 := same_upd (o := .tup (C5.map V.int)) nT5
        have nT5d := hd2.ne nT5
        refine ⟨.ref d, rfl, d, 5, rfl, by decide, hd2.same sT5, fun z H3 k3 hd3 h0 h5 => ?_⟩
        obtain ⟨j, c, rfl, hc, hc3⟩ := c5_at h0 h5
        have hT53 : H3 T5 = some (.tup (C5.map V.int)) := k3 _ _ hT5 nT5d
        have kA : Kp d H2 H3 := (Kp.of sT5).trans k3
        refine ⟨T5, C5.map V.int, (j : Nat), .int (c : Nat), rfl, rfl, .inl (.inl hT53), atI_nat (by rw [List.getElem?_map, hc]; rfl), (c : Nat), rfl, rng_lo c, rng_hi (by omega), fun D2 nD2 => ?_⟩
        have nD2d := hd3.ne nD2
        refine lc_it (walk_range (lo := 0) (n := c)) (fun j H' => Kp d H3 H' ∧ DrawsAt H' d ∧ ∃ zs : List Int, H' D2 = some (.lst (zs.map V.int)) ∧ zs.length = j ∧ ∀ o, o ∈ zs → o ∈ rgI m) ?_ ?_ ?_ ?_
        · exact ⟨Kp.of (same_upd nD2), hd3.same (same_upd nD2), [], upd_same, rfl, fun p hp => by simp at hp⟩
        · exact fun _ _ _ _ => True.intro
        · rintro j2 x H4' H4 hj ⟨k4, hd4, zs, hz, hzl, hzr⟩ ⟨rfl, rfl⟩
          refine ⟨rfl, .ref d, rfl, .int (m : Nat), rfl, d, (m : Nat), rfl, by omega, hd4, fun z H5 k5 hd5 h0 h1 => ?_⟩
          refine ⟨_, k5 _ _ hz nD2d, by rw [List.length_map]; exact small9 (by omega), ((k4.trans k5).fresh nD2), hd5.upd nD2d, zs ++ [z], by rw [upd_same, List.map_append]; rfl, by rw [List.length_append, List.length_singleton]; omega, fun o ho => ?_⟩
          rcases List.mem_append.mp ho with y | y
          · exact hzr o y
          · have y : o = z := by simpa using y
            rw [y]; exact rgI_mem.mpr ⟨h0, h1⟩
        · rintro H4 ⟨k4, hd4, zs, hz, hzl, hzr⟩
          refine ⟨by show 2 ≤ sizeLine; decide, fun T6 nT6 => ?_⟩
          have kB := kA.trans k4
          have sT6 := same_upd (o := .tup [V.int (i : Nat), .ref D2]) nT6
          have nT6d := hd4.ne nT6
          have hDn4 := kB _ _ hDn nDd
          have hxl : xs.length = i := by
            have h1 := Paired.length htu
            have h2 := hwp.wp.len
            have h3 := congrArg List.length hks
            rw [List.length_map, rgI_len] at h3
            omega
          have nT6n : T6 ≠ Dn := (ne_of_none hDn4 nT6).symm
          have hDn3 := kA _ _ hDn nDd
          have nD2n : D2 ≠ Dn := (ne_of_none hDn3 nD2).symm
          have hxT : ∀ {b : Addr}, b ≠ d → b ≠ Dn → b ∉ [d, Dn] := fun h1 h2 hm => by
            rcases List.mem_cons.mp hm with y | y
            · exact h1 y
            · exact h2 (by simpa using y)
          have kx : KX [d, Dn] H2 (upd (upd H4 T6 (.tup [V.int (i : Nat), .ref D2])) Dn (.lst (xs ++ [.ref T6]))) := fun b o hb hn => by
            have hbn : b ≠ Dn := fun y => hn (by rw [y]; simp)
            have hbd : b ≠ d := fun y => hn (by rw [y]; simp)
            rw [upd_ne hbn]
            exact sT6 _ _ (kB _ _ hb hbd)
          refine ⟨xs, sT6 _ _ hDn4, small9 (by omega), (((k2.trans kB).trans (Kp.of sT6)).fresh nD), (hd4.same sT6).upd nDd.symm.symm, xs ++ [.ref T6], kvs ++ [(Sum.inl (i : Int), .ref D2)], W0 ++ [((i : Int), zs)], upd_same, ?_, ?_, ?_, fun p hp => ?_⟩
          · exact (htu.kx kx).snoc (kv := (Sum.inl (i : Int), V.ref D2)) (hxT nT6d nT6n) (by rw [upd_ne nT6n, upd_same]; rfl)
          · exact (hwp.kx kx).snoc (p := ((i : Int), zs)) (hxT nD2d nD2n) (by rw [upd_ne nD2n]; exact sT6 _ _ hz)
          · rw [ks, List.map_append, rgI_succ, ← hks]; rfl
          · rcases List.mem_append.mp hp with y | y
            · exact hall p y
            · have y : p = ((i : Int), zs) := by simpa using y
              rw [y]; exact ⟨by show zs.length ≤ 3; omega, hzr⟩
      · rintro H2 ⟨k2, hd2, xs, kvs, W0, hDn, htu, hwp, hks, hall⟩
        obtain ⟨ps, rfl, hps⟩ := htu.dict (K := K)
        have hkn : (kvs.map Prod.fst).Nodup := by
          rw [hwp.wp.keys, hks]
          unfold List.Nodup
          rw [List.pairwise_map]
          exact (rgI_nd m).imp fun h z => h (Sum.inl.inj z)
        refine ⟨Dn, ps, kvs, rfl, .inl (.inl hDn), hps, fun p np => ?_⟩
        rw [merge_nd hkn]
        have k12 := k1.trans k2
        refine ⟨p, W0, rfl, k12.trans (Kp.of (same_upd np)), hd2.same (same_upd np), k12.free hd2 np, ⟨kvs, upd_same, (hwp.less).kx (KX.of (same_upd np))⟩, hks, fun x => ?_⟩
        rcases nx_mem (W := W0) (x := x) with y | ⟨p, hp, y⟩
        · rw [y]; exact ⟨Nat.zero_le _, fun o ho => by simp at ho⟩
        · rw [y]; exact hall p hp
    obtain ⟨dw, W0, rfl, k2, hd2, ndw, hW, hks, hnx⟩ := hM
    clear k1 hd1 H1
    have hV : ∀ u v, u ∈ rgI m → v ∈ nx W0 u → v ∈ rgI m := fun u v _ hv => (hnx u).2 v hv
    have h0m : (0 : Int) ∈ rgI m := rgI_mem.mpr ⟨by omega, by omega⟩
    obtain ⟨kw0, hdw, hwp⟩ := id hW
    have ndwd : dw ≠ d := hd2.neK hdw
    -- found, line
    refine ⟨fun σ' H' => ∃ df dl : Addr, σ' = [some (.ref d), some (.int 9), some (.int (m : Nat)), some (.ref dw), some (.ref df), some (.ref dl), none, none, none, none, none, none, none, none, none] ∧ Kp d H2 H' ∧ DrawsAt H' d ∧ H2 df = none ∧ H2 dl = none ∧ df ≠ dl ∧
        H' df = some (.dK []) ∧ H' dl = some (.lst (([0] : List Int).map V.int)), ?_, fun σ' H3 hM => ?_⟩
    · refine fun df ndf => ⟨by show 1 ≤ sizeLine; decide, fun dl ndl => ⟨by show 2 ≤ sizeLine; decide, fun T nT => ?_⟩⟩
      have s1 := same_upd (o := .dK []) ndf
      have s2 := s1.trans (same_upd (o := .lst [.int 0]) ndl)
      have s3 := s2.trans (same_upd (o := .tup [.ref df, .ref dl]) nT)
      have h1 : (upd (upd H2 df (.dK [])) dl (.lst [.int 0])) df = some (.dK []) := same_upd ndl _ _ upd_same
      have h2 : (upd (upd H2 df (.dK [])) dl (.lst [.int 0])) dl = some (.lst [.int 0]) := upd_same
      have ndl' := s1.free ndl
      refine ⟨T, [.ref df, .ref dl], rfl, .inl (.inl upd_same), rfl, .ref df, [.ref dl], rfl, .ref dl, [], rfl, rfl, df, dl, rfl, Kp.of s3, hd2.same s3, ndf, ndl', (ne_of_none upd_same ndl), same_upd nT _ _ h1, same_upd nT _ _ h2⟩
    obtain ⟨df, dl0, rfl, k3, hd3, ndf, ndl0, nfl0, hdf3, hdl3⟩ := hM
    -- while line != []
    have ndfd : df ≠ d := hd2.ne ndf
    refine ⟨fun σ' H' => ∃ (fl : List Int) (kf : List (Key × V)) (v5 v6 : Option V), σ' = [some (.ref d), some (.int 9), some (.int (m : Nat)), some (.ref dw), some (.ref df), v5, v6, none, none, none, none, none, none, none, none] ∧ Kp d H2 H' ∧ DrawsAt H' d ∧
        H' df = some (.dK kf) ∧ WPx [d] H2 kf (outs (nx W0) fl) ∧ CB (nx W0) (rgI m) 0 (-1) fl [], ?_, fun σ' H4 hM => ?_⟩
    · have c0 := cb_init (s := nx W0) (x0 := -1) h0m
      rw [if_pos (by decide)] at c0
      have cm0 : cmu 3 (rgI m) [] [0] ≤ 100 := by
        unfold cmu
        have := List.length_filter_le (fun v => decide (v ∉ ([] : List Int))) (rgI m)
        rw [rgI_len] at this
        simp only [List.length_singleton]
        omega
      refine ⟨fun mm σ H' => ∃ (dl : Addr) (fl ln : List Int) (kf : List (Key × V)) (v6 : Option V), σ = [some (.ref d), some (.int 9), some (.int (m : Nat)), some (.ref dw), some (.ref df), some (.ref dl), v6, none, none, none, none, none, none, none, none] ∧ Kp d H2 H' ∧ DrawsAt H' d ∧ H2 dl = none ∧ dl ≠ df ∧
          H' df = some (.dK kf) ∧ WPx [d] H2 kf (outs (nx W0) fl) ∧ H' dl = some (.lst (ln.map V.int)) ∧ CB (nx W0) (rgI m) 0 (-1) fl ln ∧ mm = cmu 3 (rgI m) fl ln ∧ mm ≤ 100,
        ⟨_, dl0, [], [0], [], none, rfl, k3, hd3, ndl0, nfl0.symm, hdf3, .nil, hdl3, c0, rfl, cm0⟩, fun mm σ H' hI => ?_⟩
      clear k3 hd3 ndl0 nfl0 hdf3 hdl3 H3
      obtain ⟨dl, fl, ln, kf, v6, rfl, k3, hd3, ndl, nfl, hdf, hkf, hdl, c, rfl, hmm⟩ := hI
      have hln : ln.length ≤ 100 := by unfold cmu at hmm; omega
      have hfl : fl.length ≤ 9 := by
        have := nodup_sub_len c.nd fun x hx => c.sub x (.inl hx)
        rw [rgI_len] at this
        omega
      have hkl := hkf.wp.len
      have hol : (outs (nx W0) fl).length = fl.length := by unfold outs; rw [List.length_map]
      refine ⟨.ref dl, rfl, Nat.zero_le _, fun p np => ⟨dl, p, ln, [], rfl, rfl, .inl (.inl (same_upd np _ _ hdl)), .inl (.inl upd_same), _, rfl, iteN (fun hne => ?_) (fun he => ?_)⟩⟩
      · have s1 := same_upd (o := .lst []) np
        have k4 := k3.trans (Kp.of s1)
        have hd4 := hd3.same s1
        have hdf4 := s1 _ _ hdf
        have hdl4 := s1 _ _ hdl
        generalize upd H' p (.lst []) = H4 at k4 hd4 hdf4 hdl4
        clear s1 k3 hd3 hdf hdl np
        obtain ⟨l1, x, rfl⟩ : ∃ l1 x, ln = l1 ++ [x] := ⟨ln.dropLast, ln.getLast hne, (List.dropLast_concat_getLast hne).symm⟩
        rw [List.map_append, List.map_singleton] at hdl4
        have hxk : x ∈ rgI m := c.sub x (.inr (by simp))
        refine ⟨fun σ' H5 => ∃ (dl : Addr) (fl' ln' : List Int) (kf : List (Key × V)) (v6 : Option V), σ' = [some (.ref d), some (.int 9), some (.int (m : Nat)), some (.ref dw), some (.ref df), some (.ref dl), v6, none, none, none, none, none, none, none, none] ∧ Kp d H2 H5 ∧ DrawsAt H5 d ∧ H2 dl = none ∧ dl ≠ df ∧
          H5 df = some (.dK kf) ∧ WPx [d] H2 kf (outs (nx W0) fl') ∧ H5 dl = some (.lst (ln'.map V.int)) ∧ CB (nx W0) (rgI m) 0 (-1) fl' ln' ∧ cmu 3 (rgI m) fl' ln' < cmu 3 (rgI m) fl (l1 ++ [x]), fun σ' H5 hN => ?_, ?_⟩
        · obtain ⟨a1, a2, a3, a4, a5, b1, b2, b3, b4, b5, b6, b7, b8, b9, b10⟩ := hN
          exact ⟨_, b10, a1, a2, a3, a4, a5, b1, b2, b3, b4, b5, b6, b7, b8, b9, rfl, by omega⟩
        refine ⟨.ref dl, rfl, .inl ⟨rfl, _, .inl (.inl hdl4)⟩, dl, _, .int x, rfl, rfl, hdl4, get_last, ?_⟩
        rw [drop_last]
        have ndld : dl ≠ d := hd2.ne ndl
        have k5 : Kp d H2 (upd H4 dl (.lst (l1.map V.int))) := k4.fresh ndl
        have hd5 : DrawsAt (upd H4 dl (.lst (l1.map V.int))) d := hd4.upd ndld
        have hdf5 : (upd H4 dl (.lst (l1.map V.int))) df = some (.dK kf) := by rw [upd_ne nfl.symm]; exact hdf4
        have hdl5 : (upd H4 dl (.lst (l1.map V.int))) dl = some (.lst (l1.map V.int)) := upd_same
        generalize upd H4 dl (.lst (l1.map V.int)) = H5 at k5 hd5 hdf5 hdl5
        clear k4 hd4 hdf4 hdl4
        obtain ⟨a, hva, haex, ha⟩ := hwp.get (b := x) (by rw [hks]; exact hxk)
        have had : a ≠ d := fun z => haex (by rw [z]; simp)
        have hgw : ∀ {H'}, Kp d H2 H' → DGet H' dw (.int x) (some (.ref a)) := fun kk => by rw [← hva]; exact DGet.k (k := Sum.inl x) (kk _ _ hdw ndwd)
        by_cases hx : x ∈ fl
        · obtain ⟨ax, hvx, _, _⟩ := hkf.get (b := x) (by rw [outs_ks]; exact hx)
          refine ⟨.int x, rfl, .ref df, rfl, df, _, rfl, DGet.k (k := Sum.inl x) hdf5, _, rfl, ?_⟩
          have e1 : (!(valV kf (Sum.inl x : Key)).isSome) = false := by rw [hvx]; rfl
          refine ite_no e1 ?_
          exact ⟨dl, fl, l1, kf, _, rfl, k5, hd5, ndl, nfl, hdf5, hkf, hdl5, cb_old c hx, cmu_old⟩
        · have hvn : valV kf (Sum.inl x : Key) = none := hkf.wp.val_none (by rw [outs_ks]; exact hx)
          refine ⟨.int x, rfl, .ref df, rfl, df, _, rfl, DGet.k (k := Sum.inl x) hdf5, _, rfl, ?_⟩
          have e1 : (!(valV kf (Sum.inl x : Key)).isSome) = true := by rw [hvn]; rfl
          refine ite_yes e1 ?_
          refine ⟨.ref dw, rfl, .int x, rfl, dw, .ref a, rfl, hgw k5, .ref df, rfl, .int x, rfl, df, _, rfl, DPut.k (k := Sum.inl x) hdf5 (small9 (by omega)), ?_⟩
          rw [putK_new _ hvn]
          have k6 : Kp d H2 (upd H5 df (.dK (kf ++ [(Sum.inl x, .ref a)]))) := k5.fresh ndf
          have hd6 : DrawsAt (upd H5 df (.dK (kf ++ [(Sum.inl x, .ref a)]))) d := hd5.upd ndfd
          have hdf6 : (upd H5 df (.dK (kf ++ [(Sum.inl x, .ref a)]))) df = some (.dK (kf ++ [(Sum.inl x, .ref a)])) := upd_same
          have hdl6 : (upd H5 df (.dK (kf ++ [(Sum.inl x, .ref a)]))) dl = some (.lst (l1.map V.int)) := by rw [upd_ne nfl]; exact hdl5
          generalize upd H5 df (.dK (kf ++ [(Sum.inl x, .ref a)])) = H6 at k6 hd6 hdf6 hdl6
          have hxl := (hnx x).1
          rw [List.length_append, List.length_singleton] at hln
          refine ⟨.ref dl, rfl, .ref dw, rfl, .int x, rfl, dw, .ref a, rfl, hgw k6, dl, a, _, _, rfl, rfl, hdl6, k6 _ _ ha had, ?_, fun q nq => ?_⟩
          · rw [List.length_map, List.length_map]
            exact Nat.le_of_lt (small9 (by omega))
          · have sq := same_upd (o := .lst (l1.map V.int ++ (nx W0 x).map V.int)) nq
            have cn := cb_new hV c hx
            rw [filter_ne (hnx x).2] at cn
            refine ⟨q, fl ++ [x], l1 ++ nx W0 x, _, _, rfl, k6.trans (Kp.of sq), hd6.same sq, k6.free hd6 nq, (ne_of_none hdf6 nq).symm, sq _ _ hdf6, ?_, by rw [upd_same, List.map_append], cn, cmu_new hxk hx hxl⟩
            rw [outs_snoc]
            exact hkf.snoc (p := (x, nx W0 x)) haex ha
      · subst he
        have s1 := same_upd (o := .lst []) np
        exact ⟨fl, kf, _, _, rfl, k3.trans (Kp.of s1), hd3.same s1, s1 _ _ hdf, hkf, c⟩
    obtain ⟨fl, kf, v5, v6, rfl, k4, hd4, hdf4, hkf, c⟩ := hM
    clear k3 hd3 ndl0 nfl0 hdf3 hdl3 H3
    -- names
    refine ⟨fun σ' H' => ∃ (dn : Addr) (nm : List Int), σ' = [some (.ref d), some (.int 9), some (.int (m : Nat)), some (.ref dw), some (.ref df), v5, v6, some (.ref dn), none, none, none, none, none, none, none] ∧ Kp d H2 H' ∧ DrawsAt H' d ∧
        H' df = some (.dK kf) ∧ H' dn = some (.lst (nm.map V.int)) ∧ nm.length = m ∧ nm.Nodup ∧ dn ≠ d, ?_, fun σ' H5 hM => ?_⟩
    · refine ⟨.int (m : Nat), rfl, _, rfl, rng_lo m, rng_hi (by omega), fun Dn nD => ?_⟩
      refine lc_rng (n := m) (fun i => (7 * (i : Int) + 5) % ((m : Int) * 7 + 1) + 7 * (i : Int)) nD (by omega) (fun i H' N M hi s1 hN => ?_) (fun H' s1 hD => ?_)
      · exact ⟨rfl, .int (i : Nat), rfl, 7, (i : Nat), rfl, rfl, .inl ⟨by decide, by decide⟩, _, 5, rfl, rfl, .int (m : Nat), rfl, (m : Nat), 7, rfl, rfl, .inr ⟨by decide, by decide⟩, _, 1, rfl, rfl, _, _, rfl, rfl, (by show (0 : Int) < (m : Int) * 7 + 1; omega), .int (i : Nat), rfl, 7, (i : Nat), rfl, rfl, .inl ⟨by decide, by decide⟩, _, _, rfl, rfl, hN⟩
      · refine ⟨Dn, _, rfl, k4.trans (Kp.of s1), hd4.same s1, s1 _ _ hdf4, hD, by rw [List.length_map, List.length_range], nodup_inc fun i j hij hj => ?_, hd4.ne nD⟩
        have e1 : (7 * (i : Int) + 5) % ((m : Int) * 7 + 1) = 7 * (i : Int) + 5 := Int.emod_eq_of_lt (by omega) (by omega)
        have e2 : (7 * (j : Int) + 5) % ((m : Int) * 7 + 1) = 7 * (j : Int) + 5 := Int.emod_eq_of_lt (by omega) (by omega)
        rw [e1, e2]
        omega
    obtain ⟨dn0, nm0, rfl, k5, hd5, hdf5, hdn0, hnl0, hnn0, hdn0d⟩ := hM
    clear k4 hd4 hdf4 H4
    refine ⟨fun σ' H' => ∃ (dn : Addr) (nm : List Int), σ' = [some (.ref d), some (.int 9), some (.int (m : Nat)), some (.ref dw), some (.ref df), v5, v6, some (.ref dn), none, none, none, none, none, none, none] ∧ Kp d H2 H' ∧ DrawsAt H' d ∧
        H' df = some (.dK kf) ∧ H' dn = some (.lst (nm.map V.int)) ∧ nm.length = m ∧ nm.Nodup, ?_, fun σ' H6 hM => ?_⟩
    · refine ⟨.ref d, rfl, d, 2, rfl, by decide, hd5, fun z H6 k6 hd6 h0 h2 => ⟨rfl, _, rfl, iteD (fun heq => ?_) (fun hne => ?_)⟩⟩
      · refine ⟨.int (m : Nat), rfl, _, rfl, rng_lo m, rng_hi (by omega), fun Dn nD => ?_⟩
        refine lc_rng (n := m) (fun i => 10 * (i : Int) + (i : Int) * (i : Int) % 7) nD (by omega) (fun i H' N M hi s1 hN => ?_) (fun H' s1 hD => ?_)
        · have b64 : (2 : Int) ^ 64 = 18446744073709551616 := by decide
          exact ⟨rfl, .int (i : Nat), rfl, 10, (i : Nat), rfl, rfl, .inl ⟨by decide, by decide⟩, .int (i : Nat), rfl, .int (i : Nat), rfl, (i : Nat), (i : Nat), rfl, rfl, .inl ⟨by rw [b64]; omega, by rw [b64]; omega⟩, _, 7, rfl, rfl, (by show (0 : Int) < 7; decide), _, _, rfl, rfl, hN⟩
        · refine ⟨Dn, _, rfl, (k5.trans k6).trans (Kp.of s1), hd6.same s1, s1 _ _ (k6 _ _ hdf5 ndfd), hD, by rw [List.length_map, List.length_range], nodup_inc fun i j hij hj => ?_⟩
          have h1 := Int.emod_nonneg ((i : Int) * (i : Int)) (show (7 : Int) ≠ 0 by decide)
          have h2 := Int.emod_lt_of_pos ((i : Int) * (i : Int)) (show (0 : Int) < 7 by decide)
          have h3 := Int.emod_nonneg ((j : Int) * (j : Int)) (show (7 : Int) ≠ 0 by decide)
          omega
      · refine ⟨.ref dn0, rfl, dn0, _, rfl, .inl (.inl (k6 _ _ hdn0 hdn0d)), fun q nq => ?_⟩
        have sq := same_upd (o := .lst (nm0.map V.int).reverse) nq
        exact ⟨q, nm0.reverse, rfl, (k5.trans k6).trans (Kp.of sq), hd6.same sq, sq _ _ (k6 _ _ hdf5 ndfd), by rw [upd_same, List.map_reverse], by rw [List.length_reverse]; exact hnl0, nodup_rev hnn0⟩
    obtain ⟨dn, nm, rfl, k6, hd6, hdf6, hdn, hnl, hnn⟩ := hM
    clear k5 hd5 hdf5 hdn0 hnl0 hnn0 hdn0d H5
    -- places
    have hflm : ∀ x, x ∈ fl → x ∈ rgI m := fun x hx => c.sub x (.inl hx)
    have hfl9 : fl.length ≤ 9 := by
      have := nodup_sub_len c.nd hflm
      rw [rgI_len] at this
      omega
    have hkf_len : kf.length = fl.length := by rw [hkf.wp.len]; unfold outs; rw [List.length_map]
    have hNx : ∀ x, x ∈ fl → ∃ j : Nat, x = (j : Nat) ∧ j < m ∧ nm[j]? = some ((nm[x.toNat]?).getD 0) := fun x hx => by
      obtain ⟨h0, h1⟩ := rgI_mem.mp (hflm x hx)
      refine ⟨x.toNat, by omega, by omega, ?_⟩
      have : x.toNat < nm.length := by omega
      rw [List.getElem?_eq_getElem this]; rfl
    have hinj : ∀ x, x ∈ fl → ∀ y, y ∈ fl → (nm[x.toNat]?).getD 0 = (nm[y.toNat]?).getD 0 → x = y := fun x hx y hy e => by
      obtain ⟨i, h1, h2, h3⟩ := hNx x hx
      obtain ⟨j, g1, g2, g3⟩ := hNx y hy
      rw [e] at h3
      have := nd_ix hnn h3 g3
      rw [h1, g1, this]
    generalize hN : (fun x : Int => (nm[x.toNat]?).getD 0) = N at hNx hinj
    have hNx : ∀ x, x ∈ fl → ∃ j : Nat, x = (j : Nat) ∧ j < m ∧ nm[j]? = some (N x) := fun x hx => by rw [← hN]; exact hNx x hx
    have hinj : ∀ x, x ∈ fl → ∀ y, y ∈ fl → N x = N y → x = y := fun x hx y hy e => by rw [← hN] at e; exact hinj x hx y hy e
    have hkeys : kf.map Prod.fst = fl.map Sum.inl := by rw [hkf.wp.keys, outs_ks]
    have hkat : ∀ {i : Nat} {key : Key} {v : V}, kf[i]? = some (key, v) → ∃ x, fl[i]? = some x ∧ key = Sum.inl x := fun {i key v} h => by
      have h1 : (kf.map Prod.fst)[i]? = some key := by rw [List.getElem?_map, h]; rfl
      rw [hkeys, List.getElem?_map] at h1
      cases e : fl[i]? with
      | none => rw [e] at h1; cases h1
      | some x => rw [e] at h1; exact ⟨x, rfl, (Option.some.inj h1).symm⟩
    refine ⟨fun σ' H' => ∃ (dp : Addr) (v6 : Option V), σ' = [some (.ref d), some (.int 9), some (.int (m : Nat)), some (.ref dw), some (.ref df), v5, v6, some (.ref dn), some (.ref dp), none, none, none, none, none, none] ∧ Kp d H2 H' ∧ DrawsAt H' d ∧
        H' df = some (.dK kf) ∧ H' dp = some (.dK (fl.map fun x => (Sum.inl x, .int (N x)))) ∧ dp ≠ df, ?_, fun σ' H7 hM => ?_⟩
    · refine ⟨df, .dK kf, hdf6, True.intro, fun od => ?_⟩
      refine ⟨.ref df, rfl, df, od, rfl, .inl ⟨kf, upd_same, fun Dn nD => ?_⟩⟩
      obtain ⟨nD0, nDf⟩ := lock_free nD
      refine lc_it walk_keys (fun i H' => Same (upd H6 df (.frz od (.dK kf))) H' ∧ ∃ xs, H' Dn = some (.lst xs) ∧ Tups [Dn] H' xs ((fl.take i).map fun x => (Sum.inl x, .int (N x)))) ?_ ?_ ?_ ?_
      · exact ⟨same_upd nD, [], upd_same, .nil⟩
      · rintro i H' _ ⟨s2, _⟩
        exact s2 _ _ upd_same
      · rintro i x H7 H8 hi ⟨s2, xs, hDn, htu⟩ ⟨rfl, key, v, hkv, rfl⟩
        obtain ⟨x, hx, rfl⟩ := hkat hkv
        have hxf : x ∈ fl := List.mem_of_getElem? hx
        obtain ⟨j, hxj, hjm, hj⟩ := hNx x hxf
        have hndf : dn ≠ df := ne_of hdn hdf6 (fun z => by cases z)
        have hdn7 : H8 dn = some (.lst (nm.map V.int)) := s2 _ _ (by rw [upd_ne hndf]; exact hdn)
        refine ⟨rfl, .int x, rfl, .ref dn, rfl, .int x, rfl, dn, _, x, .int (N x), rfl, rfl, .inl (.inl hdn7), ?_, by show 2 ≤ sizeLine; decide, fun T2 nT => ?_⟩
        · rw [hxj]
          exact atI_nat (by rw [List.getElem?_map, hj, hxj]; rfl)
        have sT := same_upd (o := .tup [V.int x, .int (N x)]) nT
        have hDn2 := sT _ _ hDn
        have hxl := Paired.length htu
        rw [List.length_map, List.length_take] at hxl
        have nTn : T2 ≠ Dn := (ne_of_none hDn nT).symm
        refine ⟨xs, hDn2, small9 (by omega), same_mut (s2.trans sT) nD, xs ++ [.ref T2], upd_same, ?_⟩
        rw [List.take_add_one, hx, List.map_append]
        have kx : KX [Dn] H8 (upd (upd H8 T2 (.tup [V.int x, .int (N x)])) Dn (.lst (xs ++ [.ref T2]))) := fun b o hb hn => by
          have hbn : b ≠ Dn := fun y => hn (by rw [y]; simp)
          rw [upd_ne hbn]
          exact sT _ _ hb
        exact (htu.kx kx).snoc (kv := (Sum.inl x, V.int (N x))) (by simpa using nTn) (by rw [upd_ne nTn, upd_same]; rfl)
      · rintro H7 ⟨s2, xs, hDn, htu⟩
        rw [hkf_len, List.take_length] at htu
        obtain ⟨ps, rfl, hps⟩ := htu.dict (K := K)
        have hkn : (((fl.map fun x => ((Sum.inl x : Key), V.int (N x)))).map Prod.fst).Nodup := by
          rw [List.map_map]
          unfold List.Nodup
          rw [List.pairwise_map]
          exact c.nd.imp fun h z => h (Sum.inl.inj z)
        refine ⟨Dn, ps, _, rfl, .inl (.inl hDn), hps, fun p np => ?_⟩
        rw [merge_nd hkn]
        have sp := same_upd (o := .dK (fl.map fun x => ((Sum.inl x : Key), V.int (N x)))) np
        have s3 := s2.trans sp
        have hp8 : (upd H7 p (.dK (fl.map fun x => ((Sum.inl x : Key), V.int (N x))))) p = some (.dK (fl.map fun x => ((Sum.inl x : Key), V.int (N x)))) := upd_same
        have npf : p ≠ df := ne_of_none' (s2 _ _ upd_same) np
        generalize upd H7 p (.dK (fl.map fun x => ((Sum.inl x : Key), V.int (N x)))) = H8 at s3 hp8
        have su : Same H6 (upd H8 df (.dK kf)) := same_unlock hdf6 s3
        exact ⟨s3 _ _ upd_same, p, _, rfl, k6.trans (Kp.of su), hd6.same su, upd_same, by rw [upd_ne npf]; exact hp8, npf⟩
    obtain ⟨dp, v6', rfl, k7, hd7, hdf7, hdp, npf⟩ := hM
    clear k6 hd6 hdf6 hdn H6
    have hgp : ∀ {H' : Hp}, H' dp = some (.dK (fl.map fun x => (Sum.inl x, .int (N x)))) → ∀ x, x ∈ fl → DGet H' dp (.int x) (some (.int (N x))) := fun h x hx => by
      rw [← valV_named (N := N) hx]
      exact DGet.k (k := Sum.inl x) h
    -- blocks
    refine ⟨fun σ' H' => ∃ (db : Addr) (srt : List Int), σ' = [some (.ref d), some (.int 9), some (.int (m : Nat)), some (.ref dw), some (.ref df), v5, v6', some (.ref dn), some (.ref dp), some (.ref db), none, none, none, none, none] ∧ Kp d H2 H' ∧ DrawsAt H' d ∧
        H' df = some (.dK kf) ∧ H' dp = some (.dK (fl.map fun x => (Sum.inl x, .int (N x)))) ∧ WaysN d H' db (srt.map fun p => (p, [p])) ∧ srt.Perm (fl.map N) ∧ srt.Pairwise (· ≤ ·), ?_, fun σ' H8 hM => ?_⟩
    · refine ⟨.ref dp, rfl, dp, _, fl.map N, rfl, hdp, by rw [List.map_map, List.map_map]; rfl, by rw [List.length_map]; omega, fun ys p hperm hsort np => ?_⟩
      have hyl : ys.length ≤ 9 := by have := hperm.length_eq; rw [List.length_map] at this; omega
      have s1 := same_upd (o := .lst (ys.map V.int)) np
      have hp1 : (upd H7 p (.lst (ys.map V.int))) p = some (.lst (ys.map V.int)) := upd_same
      generalize upd H7 p (.lst (ys.map V.int)) = Ha at s1 hp1
      have hda := hd7.same s1
      refine ⟨p, rfl, ⟨_, .inl (.inl hp1)⟩, fun Dn nD => ?_⟩
      have nDd := hda.ne nD
      refine lc_list (K := K) (a := p) (xs := ys.map V.int) (fun i H' => Same Ha H' ∧ ∃ xs kvs, H' Dn = some (.lst xs) ∧ Tups [d, Dn] H' xs kvs ∧ WPx [d, Dn] H' kvs ((ys.take i).map fun p => (p, [p])))
        ⟨same_upd nD, [], [], upd_same, .nil, .nil⟩ (fun i H' _ h => .inl (.inl (h.1 _ _ hp1))) (fun i x H' hx h => ?_) (fun H' h => ?_)
      · obtain ⟨s2, xs, kvs, hDn, htu, hwx⟩ := h
        obtain ⟨b, hb, rfl⟩ := map_int_at hx
        refine ⟨rfl, .int b, rfl, .int b, rfl, by show 1 ≤ sizeLine; decide, fun l nl => ⟨by show 2 ≤ sizeLine; decide, fun T2 nT => ?_⟩⟩
        have sl := same_upd (o := .lst [.int b]) nl
        have hl : (upd H' l (.lst [.int b])) l = some (.lst ([b].map V.int)) := upd_same
        have hDn1 := sl _ _ hDn
        have nlD : l ≠ Dn := ne_of_none' hDn nl
        have nld : l ≠ d := (hda.same s2).ne nl
        have htu1 := htu.kx (KX.of sl)
        have hwx1 := hwx.kx (KX.of sl)
        have s3 := s2.trans sl
        generalize upd H' l (.lst [.int b]) = Hb at sl hl hDn1 htu1 hwx1 s3 nT
        have sT := same_upd (o := .tup [V.int b, .ref l]) nT
        have nTD : T2 ≠ Dn := ne_of_none' hDn1 nT
        have nTd : T2 ≠ d := (hda.same s3).ne nT
        have hxl := Paired.length htu
        have hx2 := hwx.wp.len
        rw [List.length_map, List.length_take] at hx2
        have kx : KX [d, Dn] Hb (upd (upd Hb T2 (.tup [V.int b, .ref l])) Dn (.lst (xs ++ [.ref T2]))) := fun q o hq hn => by
          have hqn : q ≠ Dn := fun y => hn (by rw [y]; simp)
          rw [upd_ne hqn]
          exact sT _ _ hq
        refine ⟨xs, sT _ _ hDn1, small9 (by omega), same_mut (s3.trans sT) nD, xs ++ [.ref T2], kvs ++ [(Sum.inl b, .ref l)], upd_same, (htu1.kx kx).snoc (kv := (Sum.inl b, V.ref l)) (nin2 nTd nTD) (by rw [upd_ne nTD, upd_same]; rfl), ?_⟩
        rw [List.take_add_one, hb, List.map_append]
        exact (hwx1.kx kx).snoc (p := (b, [b])) (nin2 nld nlD) (kx _ _ hl (nin2 nld nlD))
      · obtain ⟨s2, xs, kvs, hDn, htu, hwx⟩ := h
        rw [List.length_map, List.take_length] at hwx
        obtain ⟨ps, rfl, hps⟩ := htu.dict (K := K)
        have hysn : ys.Nodup := hperm.nodup_iff.mpr (nodup_map_on c.nd hinj)
        have hkn : (kvs.map Prod.fst).Nodup := by
          rw [hwx.wp.keys, ks, List.map_map, List.map_map]
          unfold List.Nodup
          rw [List.pairwise_map]
          exact hysn.imp fun h z => h (Sum.inl.inj z)
        refine ⟨Dn, ps, kvs, rfl, .inl (.inl hDn), hps, fun p2 np2 => ?_⟩
        rw [merge_nd hkn]
        have sp := same_upd (o := .dK kvs) np2
        have s3 := s1.trans (s2.trans sp)
        exact ⟨p2, ys, rfl, k7.trans (Kp.of s3), hd7.same s3, s3 _ _ hdf7, s3 _ _ hdp, ⟨kvs, upd_same, hwx.less.kx (KX.of sp)⟩, hperm, hsort⟩
    obtain ⟨db, srt, rfl, k8, hd8, hdf8, hdp8, hB, hperm, hsort⟩ := hM
    clear k7 hd7 hdf7 hdp H7
    have hclo : ∀ x o, x ∈ fl → o ∈ nx W0 x → o ∈ fl := fun x o hx ho => by
      rcases c.clo x o hx ho (fun z => by have := (rgI_mem.mp ((hnx x).2 o ho)).1; omega) with y | y
      · exact y
      · simp at y
    -- told
    refine ⟨fun σ' H' => ∃ (dt : Addr) (w6 : Option V), σ' = [some (.ref d), some (.int 9), some (.int (m : Nat)), some (.ref dw), some (.ref df), v5, w6, some (.ref dn), some (.ref dp), some (.ref db), some (.ref dt), none, none, none, none] ∧ Kp d H2 H' ∧ DrawsAt H' d ∧
        H' dp = some (.dK (fl.map fun x => (Sum.inl x, .int (N x)))) ∧ WaysN d H' db (srt.map fun p => (p, [p])) ∧ WaysN d H' dt (fl.map fun x => (N x, (nx W0 x).map N)), ?_, fun σ' H9 hM => ?_⟩
    · refine ⟨df, .dK kf, hdf8, True.intro, fun od => ?_⟩
      refine ⟨.ref df, rfl, df, od, rfl, .inl ⟨kf, upd_same, fun Dn nD => ?_⟩⟩
      obtain ⟨nD0, nDf⟩ := lock_free nD
      have nDd := hd8.ne nD0
      have hdpl : (upd H8 df (.frz od (.dK kf))) dp = some (.dK (fl.map fun x => (Sum.inl x, .int (N x)))) := by rw [upd_ne npf]; exact hdp8
      have hdl : DrawsAt (upd H8 df (.frz od (.dK kf))) d := hd8.upd ndfd
      refine lc_it walk_keys (fun i H' => Same (upd H8 df (.frz od (.dK kf))) H' ∧ ∃ xs kvs, H' Dn = some (.lst xs) ∧ Tups [d, Dn] H' xs kvs ∧ WPx [d, Dn] H' kvs ((fl.take i).map fun x => (N x, (nx W0 x).map N))) ?_ ?_ ?_ ?_
      · exact ⟨same_upd nD, [], [], upd_same, .nil, .nil⟩
      · rintro i H' _ ⟨s2, _⟩
        exact s2 _ _ upd_same
      · rintro i x H9' H9 hi ⟨s2, xs, kvs, hDn, htu, hwx⟩ ⟨rfl, key, v, hkv, rfl⟩
        obtain ⟨x, hx, rfl⟩ := hkat hkv
        have hxf : x ∈ fl := List.mem_of_getElem? hx
        obtain ⟨a, hva, haex, ha⟩ := hkf.get (b := x) (by rw [outs_ks]; exact hxf)
        have had : a ≠ d := fun z => haex (by rw [z]; simp)
        have ha8 : H8 a = some (.lst ((nx (outs (nx W0) fl) x).map V.int)) := k8 _ _ ha had
        rw [outs_nx c.nd hxf] at ha8
        have hadf : a ≠ df := ne_of ha8 hdf8 (fun z => by cases z)
        have ha9 : H9 a = some (.lst ((nx W0 x).map V.int)) := s2 _ _ (by rw [upd_ne hadf]; exact ha8)
        have hdg : DGet H9 df (.int x) (some (.ref a)) := .inl ⟨kf, Sum.inl x, .inr ⟨od, s2 _ _ upd_same⟩, rfl, hva.symm⟩
        refine ⟨rfl, .ref dp, rfl, .int x, rfl, dp, .int (N x), rfl, hgp (s2 _ _ hdpl) x hxf, .ref df, rfl, .int x, rfl, df, .ref a, rfl, hdg, a, rfl, ⟨_, .inl (.inl ha9)⟩, fun D2 nD2 => ?_⟩
        have nD2n : D2 ≠ Dn := ne_of_none' hDn nD2
        have nD2d := (hdl.same s2).ne nD2
        refine lc_list (K := K) (a := a) (xs := (nx W0 x).map V.int) (fun j H' => Same H9 H' ∧ H' D2 = some (.lst ((((nx W0 x).take j).map N).map V.int)))
          ⟨same_upd nD2, upd_same⟩ (fun j H' _ h => .inl (.inl (h.1 _ _ ha9))) (fun j y H' hy h => ?_) (fun H' h => ?_)
        · obtain ⟨s3, hD2⟩ := h
          obtain ⟨o, ho, rfl⟩ := map_int_at hy
          have hof := hclo x o hxf (List.mem_of_getElem? ho)
          have hj3 : j < 3 := by have := (List.getElem?_eq_some_iff.mp ho).1; have := (hnx x).1; omega
          refine ⟨rfl, .ref dp, rfl, .int o, rfl, dp, .int (N o), rfl, hgp (s3 _ _ (s2 _ _ hdpl)) o hof, _, hD2, ?_, same_mut s3 nD2, ?_⟩
          · rw [List.length_map, List.length_map, List.length_take]
            exact small9 (by omega)
          · rw [upd_same, List.take_add_one, ho, List.map_append, List.map_append]; rfl
        · obtain ⟨s3, hD2⟩ := h
          rw [List.length_map, List.take_length] at hD2
          refine ⟨by show 2 ≤ sizeLine; decide, fun T2 nT => ?_⟩
          have s4 := s2.trans s3
          have sT := same_upd (o := .tup [V.int (N x), .ref D2]) nT
          have hDn1 := s3 _ _ hDn
          have nTD : T2 ≠ Dn := ne_of_none' hDn1 nT
          have nTd : T2 ≠ d := (hdl.same s4).ne nT
          have hxl := Paired.length htu
          have hx2 := hwx.wp.len
          rw [List.length_map, List.length_take] at hx2
          have kx : KX [d, Dn] H' (upd (upd H' T2 (.tup [V.int (N x), .ref D2])) Dn (.lst (xs ++ [.ref T2]))) := fun q o hq hn => by
            have hqn : q ≠ Dn := fun y => hn (by rw [y]; simp)
            rw [upd_ne hqn]
            exact sT _ _ hq
          refine ⟨xs, sT _ _ hDn1, small9 (by omega), same_mut (s4.trans sT) nD, xs ++ [.ref T2], kvs ++ [(Sum.inl (N x), .ref D2)], upd_same, ((htu.kx (KX.of s3)).kx kx).snoc (kv := (Sum.inl (N x), V.ref D2)) (nin2 nTd nTD) (by rw [upd_ne nTD, upd_same]; rfl), ?_⟩
          rw [List.take_add_one, hx, List.map_append]
          exact ((hwx.kx (KX.of s3)).kx kx).snoc (p := (N x, (nx W0 x).map N)) (nin2 nD2d nD2n) (kx _ _ hD2 (nin2 nD2d nD2n))
      · rintro H9 ⟨s2, xs, kvs, hDn, htu, hwx⟩
        rw [hkf_len, List.take_length] at hwx
        obtain ⟨ps, rfl, hps⟩ := htu.dict (K := K)
        have hkn : (kvs.map Prod.fst).Nodup := by
          rw [hwx.wp.keys, ks, List.map_map, List.map_map]
          unfold List.Nodup
          rw [List.pairwise_map]
          have := nodup_map_on c.nd hinj
          unfold List.Nodup at this
          rw [List.pairwise_map] at this
          exact this.imp fun h z => h (Sum.inl.inj z)
        refine ⟨Dn, ps, kvs, rfl, .inl (.inl hDn), hps, fun p np => ?_⟩
        rw [merge_nd hkn]
        have sp := same_upd (o := .dK kvs) np
        have s3 := s2.trans sp
        have hp8 : (upd H9 p (.dK kvs)) p = some (.dK kvs) := upd_same
        have hwx2 := hwx.less.kx (KX.of sp)
        have npf' : p ≠ df := ne_of_none' (s2 _ _ upd_same) np
        generalize upd H9 p (.dK kvs) = Ha at s3 hp8 hwx2
        have su : Same H8 (upd Ha df (.dK kf)) := same_unlock hdf8 s3
        refine ⟨s3 _ _ upd_same, p, _, rfl, k8.trans (Kp.of su), hd8.same su, su _ _ hdp8, hB.same su, kvs, by rw [upd_ne npf']; exact hp8, ?_⟩
        exact hwx2.lock (s3 _ _ upd_same) (fun _ z => by cases z)
    obtain ⟨dt, w6, rfl, k9, hd9, hdp9, hB9, hT9⟩ := hM
    clear k8 hd8 hdf8 hdp8 hB H8
    obtain ⟨kt, hkt, hwt⟩ := hT9
    have h0fl : (0 : Int) ∈ fl := (cb_end c 0).mpr ⟨[0], .one 0, by simp⟩
    have hks9 : ks (fl.map fun x => (N x, (nx W0 x).map N)) = fl.map N := by rw [ks, List.map_map]; rfl
    -- the parts
    refine ⟨.ref dp, rfl, dp, .int (N 0), rfl, hgp hdp9 0 h0fl, .ref db, rfl, .ref dt, rfl, dt, kt, fl.map N, rfl, .inl hkt, ?_, by rw [List.length_map]; omega, fun ys p hpm hso np => ?_⟩
    · rw [hwt.wp.keys, hks9]
    have hyl : ys.length ≤ 9 := by have := hpm.length_eq; rw [List.length_map] at this; omega
    have s1 := same_upd (o := .lst (ys.map V.int)) np
    have hp1 : (upd H9 p (.lst (ys.map V.int))) p = some (.lst (ys.map V.int)) := upd_same
    generalize upd H9 p (.lst (ys.map V.int)) = Ha at s1 hp1
    have hda := hd9.same s1
    have hkta := s1 _ _ hkt
    have hwta := hwt.kx (KX.of s1)
    refine ⟨p, rfl, ⟨_, .inl (.inl hp1)⟩, fun Dn nD => ?_⟩
    have nDd := hda.ne nD
    have hyN : ∀ b, b ∈ ys → b ∈ ks (fl.map fun x => (N x, (nx W0 x).map N)) := fun b hb => by rw [hks9]; exact hpm.mem_iff.mp hb
    obtain ⟨G9, hks10⟩ := named_ok (s := nx W0) c.nd h0fl hclo (fun x hx => by
      obtain ⟨p, hp, _⟩ := c.way x (.inl hx)
      exact ⟨p, hp⟩) hfl9 (fun x _ => (hnx x).1) hinj rfl hpm
    generalize htold : (fl.map fun x => (N x, (nx W0 x).map N)) = told at hwta hyN G9 hks10
    refine lc_list (K := K) (a := p) (xs := ys.map V.int) (fun i H' => Same Ha H' ∧ ∃ xs kvs, H' Dn = some (.lst xs) ∧ Tups [d, Dn] H' xs kvs ∧ WPx [d, Dn] H' kvs ((ys.take i).map fun p => (p, nx told p)))
      ⟨same_upd nD, [], [], upd_same, .nil, .nil⟩ (fun i H' _ h => .inl (.inl (h.1 _ _ hp1))) (fun i x H' hx h => ?_) (fun H' h => ?_)
    · obtain ⟨s2, xs, kvs, hDn, htu, hwx⟩ := h
      obtain ⟨b, hb, rfl⟩ := map_int_at hx
      obtain ⟨a, hva, haex, ha⟩ := hwta.get (hyN b (List.mem_of_getElem? hb))
      have had : a ≠ d := fun z => haex (by rw [z]; simp)
      have haD : a ≠ Dn := ne_of_none ha nD
      refine ⟨rfl, .int b, rfl, .ref dt, rfl, .int b, rfl, dt, .ref a, rfl, ?_, by show 2 ≤ sizeLine; decide, fun T2 nT => ?_⟩
      · rw [← hva]
        exact DGet.k (k := Sum.inl b) (s2 _ _ hkta)
      have sT := same_upd (o := .tup [V.int b, .ref a]) nT
      have nTD : T2 ≠ Dn := ne_of_none' hDn nT
      have nTd : T2 ≠ d := (hda.same s2).ne nT
      have hxl := Paired.length htu
      have hx2 := hwx.wp.len
      rw [List.length_map, List.length_take] at hx2
      have kx : KX [d, Dn] H' (upd (upd H' T2 (.tup [V.int b, .ref a])) Dn (.lst (xs ++ [.ref T2]))) := fun q o hq hn => by
        have hqn : q ≠ Dn := fun y => hn (by rw [y]; simp)
        rw [upd_ne hqn]
        exact sT _ _ hq
      refine ⟨xs, sT _ _ hDn, small9 (by omega), same_mut (s2.trans sT) nD, xs ++ [.ref T2], kvs ++ [(Sum.inl b, .ref a)], upd_same, (htu.kx kx).snoc (kv := (Sum.inl b, V.ref a)) (nin2 nTd nTD) (by rw [upd_ne nTD, upd_same]; rfl), ?_⟩
      rw [List.take_add_one, hb, List.map_append]
      exact (hwx.kx kx).snoc (p := (b, nx told b)) (nin2 had haD) (kx _ _ (s2 _ _ ha) (nin2 had haD))
    · obtain ⟨s2, xs, kvs, hDn, htu, hwx⟩ := h
      rw [List.length_map, List.take_length] at hwx
      obtain ⟨ps, rfl, hps⟩ := htu.dict (K := K)
      have hysn : ys.Nodup := hpm.nodup_iff.mpr (nodup_map_on c.nd hinj)
      have hkn : (kvs.map Prod.fst).Nodup := by
        rw [hwx.wp.keys, hks10]
        unfold List.Nodup
        rw [List.pairwise_map]
        exact hysn.imp fun h z => h (Sum.inl.inj z)
      refine ⟨Dn, ps, kvs, rfl, .inl (.inl hDn), hps, fun p2 np2 => ?_⟩
      rw [merge_nd hkn]
      refine ⟨by show 3 ≤ sizeLine; decide, fun T3 nT3 => ?_⟩
      have sp := same_upd (o := .dK kvs) np2
      have sT := same_upd (o := .tup [V.int (N 0), .ref db, .ref p2]) nT3
      have s3 := s1.trans (s2.trans sp)
      have k10 := (k2.trans k9).trans (Kp.of s3)
      have hd10 := hd9.same s3
      refine k T3 db p2 (N 0) _ _ _ (k10.trans (Kp.of sT)) (hd10.same sT) (k10.free hd10 nT3) upd_same ((hB9.same s3).same sT) ⟨kvs, sT _ _ upd_same, (hwx.less.kx (KX.of sp)).kx (KX.of sT)⟩ ?_ G9
      rw [hks10, ks, List.map_map]
      show srt.map id = ys
      rw [List.map_id]
      exact sorted_unique (hperm.trans hpm.symm) hsort hso
end
end BT
namespace BT
open PySem PyProof.Rows L2
/-- [f x y for x, y in zip(l, m)], where a turn may make objects -/
theorem zc_boolsX {K : PySem.W.Frag} {a b : Addr} {l m : List Int} {g : TG} {tt : TT} {te : TE} {vs : List Nat} {σ : L2.St} {H1 : Hp} {D : Addr} {Qd : Hp → Prop} (f : Int → Int → Bool) (nD : H1 D = none) (hl : SqL K H1 a (l.map V.int)) (hm : SqL K H1 b (m.map V.int)) (hlen : l.length ≤ 900)
    (step : ∀ (x y : Int) (T : Addr) (H' : Hp) (N : V → Hp → Prop) (M : Hp → Prop), (x, y) ∈ l.zip m → Same H1 H' → H' T = some (.tup [.int x, .int y]) → (∀ H'', Same H' H'' → N (.bl (f x y)) H'') → g (.ref T) (wipe σ vs) H' fun σ2 H2 => wipe σ2 vs = wipe σ vs ∧ tt σ2 H2 fun b H3 => if b = true then te σ2 H3 N else M H3)
    (after : ∀ H', Same H1 H' → H' D = some (.lst (((l.zip m).map fun p => f p.1 p.2).map V.bl)) → Qd H') :
    ∃ W : Nat → Nat → Hp → Prop, (∃ m, W 0 m (upd H1 D (.lst []))) ∧ ∀ i m H, W i m H →
      ((Itz K a b).stop i H ∧ Qd H) ∨ ((Itz K a b).go i H ∧ ∃ Nx : Hp → Prop, (∀ H', Nx H' → ∃ m', m' < m ∧ W (i + 1) m' H') ∧ ∀ x H', (Itz K a b).yld i H x H' → g x (wipe σ vs) H' fun σ2 H2 => wipe σ2 vs = wipe σ vs ∧ tt σ2 H2 fun b H3 =>
        if b = true then te σ2 H3 fun y H4 => ∃ acc, H4 D = some (.lst acc) ∧ acc.length < sizeLine ∧ Nx (upd H4 D (.lst (acc ++ [y]))) else Nx H3) := by
  have hz : (l.zip m).length = min (l.map V.int).length (m.map V.int).length := by rw [List.length_zip, List.length_map, List.length_map]
  refine lc_it (walk_zip (K := K) (a := a) (b := b) (xs := l.map V.int) (ys := m.map V.int) (n := (l.zip m).length) hz) (fun i H' => Same H1 H' ∧ H' D = some (.lst ((((l.zip m).take i).map fun p => f p.1 p.2).map V.bl))) ⟨same_upd nD, upd_same⟩ (fun i H' _ h => ⟨h.1.seq hl, h.1.seq hm⟩) (fun i x H2 H' hi h y => ?_) (fun H' h => ?_)
  · obtain ⟨s1, hD⟩ := h
    obtain ⟨T, x1, x2, rfl, nT, rfl, h1, h2⟩ := y
    obtain ⟨u, hu, rfl⟩ := map_int_at h1
    obtain ⟨v, hv, rfl⟩ := map_int_at h2
    have hp : (l.zip m)[i]? = some (u, v) := by rw [List.getElem?_zip_eq_some]; exact ⟨hu, hv⟩
    have sT := same_upd (o := .tup [V.int u, .int v]) nT
    have s2 := s1.trans sT
    have hl9 : i < l.length := (List.getElem?_eq_some_iff.mp hu).1
    refine step u v T _ (fun y H4 => ∃ acc, H4 D = some (.lst acc) ∧ acc.length < sizeLine ∧ (Same H1 (upd H4 D (.lst (acc ++ [y]))) ∧ (upd H4 D (.lst (acc ++ [y]))) D = some (.lst ((((l.zip m).take (i + 1)).map fun p => f p.1 p.2).map V.bl)))) _ (List.mem_of_getElem? hp) s2 upd_same (fun H'' s3 => ⟨_, s3 _ _ (sT _ _ hD), ?_, same_mut (s2.trans s3) nD, ?_⟩)
    · rw [List.length_map, List.length_map, List.length_take]; exact small9 (by omega)
    · rw [upd_same, List.take_add_one, hp, List.map_append, List.map_append]; rfl
  · obtain ⟨s1, hD⟩ := h
    rw [List.take_length] at hD
    exact after H' s1 hD
abbrev sLWay : Stmt := top 32
abbrev nLWay : List Str := ["_law_ways", "_law_some", "_law_one", "_law_other"]
theorem scLWay : FnScope nLWay ["_law_ways", "_law_some"] (defScope sLWay) := ⟨rfl, rfl, rfl, by decide +kernel, rfl, by decide +kernel, by decide +kernel⟩
/-- _law_is_way -/
def spLWay (K : PySem.W.Frag) : Sp := fun vs H Q _ => ∃ (dw a : Addr) (W : Ways) (l : List Int), vs = [.ref dw, .ref a] ∧ WaysAt H dw W ∧ SqL K H a (l.map V.int) ∧ l.length ≤ 200 ∧
  ∀ (b : Bool) (H' : Hp), Same H H' → (b = true ↔ Edges (nx W) l) → Q (.bl b) H'
section
variable {P : Program} {w : World} {K : PySem.W.Frag} {mg : Str → Option Value} {base : Heap} {cG cP cT : Addr}
theorem ok_lway (D : Df K mg "_law_is_way" sLWay ["_law_ways", "_law_some"]) (T : TX K mg cG cP cT) : C8.Cal P w K mg base 1 "_law_is_way" (spLWay K) [] := by
  refine D.ok scLWay (fun vs H Q E h => ?_) (fun f cdv A outer s H vs Q E hr h => ?_)
  · obtain ⟨_, _, _, _, rfl, _⟩ := h
    rfl
  · obtain ⟨dw, a, W, l, rfl, hW, hl, hlen, k⟩ := h
    have hu := hu_of hr
    have nd := scLWay.nd
    refine ⟨_, pss_one (ps_ret (pe_callB (cr_all rfl) (by rfl) T.all boot_all (pa_cons (pe_lc (own := [("_law_one", 2), ("_law_other", 3)]) (g := gTup K 2 (gCons (gName 2) (gCons (gName 3) gNil))) (te := tOp (rInI K) (tVar 3) (tDGet2 (tVar 0) (tVar 2) (tLst tNil))) rfl nd (pi_zip (by rfl) T.zip (pa_cons (pv 1) (pa_cons (pe_slice sl_list (pv 1) (po_some pe_int) po_none) pa_nil)))
          (blkOk_by (own := [("_law_one", 2), ("_law_other", 3)]) (N := nLWay) (sc := defScope sLWay) (by decide +kernel))
          (fun _ _ _ _ _ => pg_tup rfl (pgs_cons (pg_name (i := 2) nd rfl (Or.inl rfl)) (pgs_cons (pg_name (i := 3) nd rfl (Or.inl rfl)) pgs_nil))) (fun _ _ _ _ _ => pts_nil) (fun _ _ _ _ _ => pe_cmpR op_inInts (pv 3) (pe_dget2 hu (pv 0) (pv 2) (pe_lst pa_nil) ⟨rfl, rfl, rfl, rfl⟩) (by rfl))) pa_nil))), ?_⟩
    refine ⟨.ref a, rfl, .ref a, rfl, 1, rfl, a, _, rfl, hl, fun q nq => ?_⟩
    rw [cut_tail]
    have s2 := same_upd (o := .lst ((l.map V.int).drop 1)) nq
    have hq : (upd H q (.lst ((l.map V.int).drop 1))) q = some (.lst (l.tail.map V.int)) := by rw [upd_same, List.map_tail, List.drop_one]
    generalize upd H q (.lst ((l.map V.int).drop 1)) = H2 at hq s2
    refine ⟨a, q, _, _, rfl, s2.seq hl, .inl (.inl hq), fun D2 nD2 => ?_⟩
    refine zc_boolsX (fun x y => decide (y ∈ nx W x)) nD2 (s2.seq hl) (.inl (.inl hq)) (by omega) (fun x y T2 H' N M hxy s3 hT hN => ?_) (fun H3 s3 hD => ?_)
    · have hW3 := hW.same (s2.trans s3)
      refine ⟨T2, [.int x, .int y], rfl, .inl (.inl hT), rfl, .int x, [.int y], rfl, .int y, [], rfl, rfl, rfl, ?_⟩
      refine ⟨.int y, rfl, .ref dw, rfl, dw, rfl, hW3.isD, .int x, rfl, Nat.zero_le _, fun p np => ?_⟩
      have sp := same_upd (o := .lst []) np
      have hW4 := hW3.same sp
      by_cases hx : x ∈ ks W
      · obtain ⟨b, gb, lb⟩ := hW4.get hx
        exact ⟨some (.ref b), gb, y, b, nx W x, rfl, rfl, .inl (.inl lb), hN _ sp⟩
      · have := hN _ sp
        exact ⟨none, hW4.get_none hx, y, p, nx W x, rfl, rfl, .inl (.inl (by rw [nx_out hx]; exact upd_same)), hN _ sp⟩
    · refine ⟨D2, _, rfl, .inl (.inl hD), k _ H3 (s2.trans s3) ?_⟩
      rw [all_map, List.all_eq_true]
      exact ⟨fun z q hq => of_decide_eq_true (z q hq), fun z q hq => decide_eq_true (z q hq)⟩
end
end BT
namespace BT
open PySem PyProof.Rows L2
abbrev sLShows : Stmt := top 33
abbrev nLShows : List Str := ["_law_ways", "_law_begin", "_law_ring", "_law_one", "_law_other", "_law_way", "_law_block"]
theorem scLShows : FnScope nLShows ["_law_ways", "_law_begin", "_law_ring", "_law_one", "_law_other"] (defScope sLShows) := ⟨rfl, rfl, rfl, by decide +kernel, rfl, by decide +kernel, by decide +kernel⟩
/-- _law_shows -/
def spLShows : Sp := fun vs H Q _ => ∃ (dw a b c : Addr) (e : Int) (W : Ways) (r o t : List Int), vs = [.ref dw, .int e, .ref a, .ref b, .ref c] ∧ WaysAt H dw W ∧ H a = some (.lst (r.map V.int)) ∧ H b = some (.lst (o.map V.int)) ∧ H c = some (.lst (t.map V.int)) ∧ r.length ≤ 50 ∧ o.length ≤ 50 ∧ t.length ≤ 50 ∧
  ∀ (b : Bool) (H' : Hp), Same H H' → (b = true ↔ Shows (ks W) (nx W) e r o t) → Q (.bl b) H'
section
variable {P : Program} {w : World} {K : PySem.W.Frag} {mg : Str → Option Value} {base : Heap} {cG cP cT : Addr}
theorem ok_lshows (D : Df K mg "_law_shows" sLShows ["_law_ways", "_law_begin", "_law_ring", "_law_one", "_law_other"]) (T : TX K mg cG cP cT) (TBm : TB mg) (cW : C8.Cal P w K mg base 1 "_law_is_way" (spLWay K) []) : C8.Cal P w K mg base 2 "_law_shows" spLShows [] := by
  refine D.ok scLShows (fun vs H Q E h => ?_) (fun f cdv A outer s H vs Q E hr h => ?_)
  · obtain ⟨_, _, _, _, _, _, _, _, _, rfl, _⟩ := h
    rfl
  · obtain ⟨dw, a, b, c, e, W, r, o, t, rfl, hW, ha, hb, hc, hrl, hol, htl, k⟩ := h
    have hu := hu_of hr
    have hu4 := hr.units
    have nd := scLShows.nd
    refine ⟨_, pss_cons (ps_if (PW.pt (pw_or (pt_cmpR (op_eqInts hu4) (pv 2) (pe_lst pa_nil) (nomark _)) (pw_or (pt_cmpR op_lt (pe_lenSetA rfl (by rfl) T.len (by rfl) TBm.set (pv 2)) (pe_callB call_len_seq (by rfl) T.len PySem.boot_len (pa_cons (pv 2) pa_nil)) (nomark _))
          (pw_or1 (pt_not (pt_val (C8.pe_c cW hr (by decide) (by rfl) (pa_cons (pv 0) (pa_cons (pe_op op_cat (pv 2) (pe_slice sl_list (pv 2) po_none (po_some pe_int))) pa_nil))))))))) (pss_one (ps_ret pe_bl)) pss_nil)
      (pss_cons (ps_for PassesOwn.never rfl (pi_tup (pe_tup (pa_cons (pv 3) (pa_cons (pv 4) pa_nil)))) (pg_name (i := 5) nd rfl (.inl rfl))
        (pss_cons (ps_if (PW.pt (pw_or (pt_cmpR (op_eqInts hu4) (pv 5) (pe_lst pa_nil) (nomark _)) (pw_or (pt_cmpR op_ne (pe_ix ix_list (pv 5) pe_int (fun _ _ => rfl)) (pv 1) (nomark _)) (pw_or (pt_not (pt_val (C8.pe_c cW hr (by decide) (by rfl) (pa_cons (pv 0) (pa_cons (pv 5) pa_nil)))))
            (pw_or1 (pt_cmpR op_notInInts (pe_ix ix_list (pv 5) (pe_un un_neg pe_int) (fun _ _ => rfl)) (pv 2) (by rfl))))))) (pss_one (ps_ret pe_bl)) pss_nil)
        (pss_one (ps_if (pt_val (pe_callB (cr_any rfl) (by rfl) T.any boot_any (pa_cons (pe_lc (own := [("_law_block", 6)]) (g := gName 6) (te := tOp (rInI K) (tVar 6) (tVar 2)) rfl nd (pi_list (pe_slice sl_list (pv 5) po_none (po_some (pe_un un_neg pe_int)))) (blkOk_by (own := [("_law_block", 6)]) (N := nLShows) (sc := defScope sLShows) (by decide +kernel))
          (fun _ _ _ _ _ => pg_name (i := 6) nd rfl (Or.inl rfl)) (fun _ _ _ _ _ => pts_nil) (fun _ _ _ _ _ => pe_cmpR op_inInts (pv 6) (pv 2) (by rfl))) pa_nil))) (pss_one (ps_ret pe_bl)) pss_nil))))
      (pss_one (ps_ret (pe_and (pe_cmpR op_ne (pe_ix ix_list (pv 3) (pe_un un_neg pe_int) (fun _ _ => rfl)) (pe_ix ix_list (pv 4) (pe_un un_neg pe_int) (fun _ _ => rfl)) (by rfl))
        (pe_one (pe_callB (cr_all rfl) (by rfl) T.all boot_all (pa_cons (pe_lc (own := [("_law_block", 6)]) (g := gName 6) (te := tOp rDIn (tVar 6) (tVar 0)) rfl nd (pi_list (pe_op op_cat (pe_op op_cat (pv 2) (pv 3)) (pv 4))) (blkOk_by (own := [("_law_block", 6)]) (N := nLShows) (sc := defScope sLShows) (by decide +kernel))
          (fun _ _ _ _ _ => pg_name (i := 6) nd rfl (Or.inl rfl)) (fun _ _ _ _ _ => pts_nil) (fun _ _ _ _ _ => pe_cmpR (op_din hu) (pv 6) (pv 0) (by rfl))) pa_nil))))))), ?_⟩
    -- ring == []
    refine ⟨.ref a, rfl, Nat.zero_le _, fun q nq => ?_⟩
    have s1 := same_upd (o := .lst []) nq
    have hq : (upd H q (.lst [])) q = some (.lst (([] : List Int).map V.int)) := upd_same
    generalize upd H q (.lst []) = H1 at s1 hq
    refine ⟨a, q, r, [], rfl, rfl, .inl (.inl (s1 _ _ ha)), .inl (.inl hq), _, rfl, iteD (fun he => ?_) (fun hne => ?_)⟩
    · exact k false H1 s1 ⟨fun z => Bool.noConfusion z, fun z => absurd he z.ne⟩
    -- len(set(ring)) < len(ring)
    refine ⟨.ref a, rfl, a, r, rfl, .inl (.inl (s1 _ _ ha)), by omega, fun n hn hnd => ?_⟩
    refine ⟨.ref a, rfl, a, _, rfl, .inl (.inl (.inl (s1 _ _ ha))), _, _, rfl, rfl, _, rfl, iteD (fun hlt => ?_) (fun hge => ?_)⟩
    · rw [List.length_map] at hlt
      exact k false H1 s1 ⟨fun z => Bool.noConfusion z, fun z => absurd z.nd (hnd.mp (by omega))⟩
    have hnd : r.Nodup := by
      refine Classical.byContradiction fun z => hge ?_
      rw [List.length_map]
      have := hnd.mpr z
      omega
    refine ⟨.ref dw, rfl, .ref a, rfl, .ref a, rfl, 1, rfl, a, _, rfl, .inl (.inl (s1 _ _ ha)), fun c1 nc => ?_⟩
    have e1 : cutV (r.map V.int) none (some 1) = (r.take 1).map V.int := by rw [show (1 : Int) = ((1 : Nat) : Int) by rfl, cut_to, List.map_take]
    rw [e1]
    have s2 := s1.trans (same_upd (o := .lst ((r.take 1).map V.int)) nc)
    have hc1 : (upd H1 c1 (.lst ((r.take 1).map V.int))) c1 = some (.lst ((r.take 1).map V.int)) := upd_same
    generalize upd H1 c1 (.lst ((r.take 1).map V.int)) = H2 at s2 hc1
    have hl1 : (r.take 1).length ≤ 1 := by rw [List.length_take]; omega
    refine ⟨a, c1, _, _, rfl, rfl, s2 _ _ ha, hc1, ?_, fun d nd2 => ?_⟩
    · rw [List.length_map, List.length_map]
      exact Nat.le_of_lt (small9 (by omega))
    have s3 := s2.trans (same_upd (o := .lst (r.map V.int ++ (r.take 1).map V.int)) nd2)
    have hd : (upd H2 d (.lst (r.map V.int ++ (r.take 1).map V.int))) d = some (.lst ((r ++ r.take 1).map V.int)) := by rw [upd_same, List.map_append]
    generalize upd H2 d (.lst (r.map V.int ++ (r.take 1).map V.int)) = H3 at s3 hd
    refine ⟨dw, d, W, r ++ r.take 1, rfl, hW.same s3, .inl (.inl hd), by rw [List.length_append]; omega, fun b1 H4 s4 hb1 => ⟨b1, rfl, ?_⟩⟩
    have s4 := s3.trans s4
    clear s1 s2 s3 hq hc1 hd nq nc nd2
    cases b1 with
    | false => exact iteT (k false H4 s4 ⟨fun z => Bool.noConfusion z, fun z => hb1.mpr z.ed⟩)
    | true =>
    have hed := hb1.mp rfl
    refine iteF ?_
    -- for way in (one, other)
    refine ⟨.ref b, rfl, .ref c, rfl, by show 2 ≤ sizeLine; decide, fun T2 nT => ?_⟩
    have sT := s4.trans (same_upd (o := .tup [V.ref b, .ref c]) nT)
    have hT : (upd H4 T2 (.tup [V.ref b, .ref c])) T2 = some (.tup [V.ref b, .ref c]) := upd_same
    generalize upd H4 T2 (.tup [V.ref b, .ref c]) = H5 at sT hT
    clear s4 nT
    refine ⟨T2, rfl, ⟨_, .inl (.inl hT)⟩, for_tup (K := K) (a := T2) (xs := [V.ref b, .ref c]) (fun i σ H' => ∃ v5 : Option V, σ = [some (.ref dw), some (.int e), some (.ref a), some (.ref b), some (.ref c), v5, none] ∧ Same H H' ∧ H' T2 = some (.tup [V.ref b, .ref c]) ∧ (1 ≤ i → LLeads (nx W) e r o) ∧ (2 ≤ i → LLeads (nx W) e r t))
      ⟨none, rfl, sT, hT, fun z => by omega, fun z => by omega⟩ (fun i σ H' _ ⟨_, _, _, hT', _⟩ => .inl (.inl hT')) (fun i x σ H' hx hI => ?_) (fun σ H' hI => ?_)⟩
    · obtain ⟨v5, rfl, s5, hT5, g1, g2⟩ := hI
      obtain ⟨p, l, rfl, hp, hpl, hyes, hno⟩ : ∃ (p : Addr) (l : List Int), x = .ref p ∧ H p = some (.lst (l.map V.int)) ∧ l.length ≤ 50 ∧ (LLeads (nx W) e r l → (1 ≤ i + 1 → LLeads (nx W) e r o) ∧ (2 ≤ i + 1 → LLeads (nx W) e r t)) ∧ (Shows (ks W) (nx W) e r o t → LLeads (nx W) e r l) := by
        match i, hx with
        | 0, hx => exact ⟨b, o, (Option.some.inj hx).symm, hb, hol, fun z => ⟨fun _ => z, fun z => by omega⟩, fun z => (shows_law.mp z).2.2.2.1⟩
        | 1, hx => exact ⟨c, t, (Option.some.inj hx).symm, hc, htl, fun z => ⟨fun _ => g1 (Nat.le_refl _), fun _ => z⟩, fun z => (shows_law.mp z).2.2.2.2.1⟩
        | n + 2, hx => simp at hx
      have no : ∀ {H'}, Same H H' → ¬ LLeads (nx W) e r l → Q (.bl false) H' := fun s hn => k false _ s ⟨fun z => Bool.noConfusion z, fun z => absurd (hno z) hn⟩
      refine ⟨.ref p, rfl, Nat.zero_le _, fun q nq => ?_⟩
      have s6 := s5.trans (same_upd (o := .lst []) nq)
      have hT6 := same_upd (o := .lst []) nq _ _ hT5
      have hq : (upd H' q (.lst [])) q = some (.lst (([] : List Int).map V.int)) := upd_same
      generalize upd H' q (.lst []) = H6 at s6 hq hT6
      refine ⟨p, q, l, [], rfl, rfl, .inl (.inl (s6 _ _ hp)), .inl (.inl hq), _, rfl, iteD (fun he => ?_) (fun hne => ?_)⟩
      · exact no s6 fun z => z.ne he
      cases l with
      | nil => exact absurd rfl hne
      | cons x l =>
      refine ⟨.ref p, rfl, p, _, 0, .int x, rfl, rfl, .inl (.inl (s6 _ _ hp)), atI_nat (j := 0) rfl, .int e, rfl, rfl, _, rfl, iteN (fun hx => ?_) (fun hx => ?_)⟩
      · refine no s6 fun z => hx ?_
        have := z.hd
        rw [List.head?_cons] at this
        rw [Option.some.inj this]
      have hx : x = e := vint.mp hx
      refine ⟨.ref dw, rfl, .ref p, rfl, dw, p, W, x :: l, rfl, hW.same s6, .inl (.inl (s6 _ _ hp)), by omega, fun b2 H7 s7 hb2 => ⟨b2, rfl, ?_⟩⟩
      have hT7 := s7 _ _ hT6
      have s7 := s6.trans s7
      clear s5 s6 hq nq hT6
      cases b2 with
      | false => exact iteT (no s7 fun z => Bool.noConfusion (hb2.mpr z.ed))
      | true =>
      have hedl := hb2.mp rfl
      refine iteF ?_
      obtain ⟨l0, y, hly⟩ : ∃ l0 y, x :: l = l0 ++ [y] := ⟨_, _, (List.dropLast_concat_getLast (List.cons_ne_nil x l)).symm⟩
      have hat : atI ((x :: l).map V.int) (-1) = some (.int y) := by
        rw [hly, List.map_append]
        exact atI_last _ _
      have hgl : (x :: l).getLast? = some y := by rw [hly, List.getLast?_concat]
      have hdl : (x :: l).dropLast = l0 := by rw [hly]; simp
      refine ⟨.ref p, rfl, 1, rfl, p, _, -1, .int y, rfl, rfl, .inl (.inl (s7 _ _ hp)), hat, .ref a, rfl, y, a, r, rfl, rfl, .inl (.inl (s7 _ _ ha)), _, rfl, iteN (fun hy => ?_) (fun hy => ?_)⟩
      · exact no s7 fun z => hy (z.last y hgl)
      refine ⟨.ref p, rfl, 1, rfl, -1, rfl, p, _, rfl, .inl (.inl (s7 _ _ hp)), fun c nc => ?_⟩
      rw [cut_but]
      have s8 := s7.trans (same_upd (o := .lst (((x :: l).map V.int).dropLast)) nc)
      have hT8 := same_upd (o := .lst (((x :: l).map V.int).dropLast)) nc _ _ hT7
      have hc8 : (upd H7 c (.lst (((x :: l).map V.int).dropLast))) c = some (.lst (l0.map V.int)) := by rw [upd_same, ← List.map_dropLast, hdl]
      generalize upd H7 c (.lst (((x :: l).map V.int).dropLast)) = H8 at s8 hc8 hT8
      have hl0 : l0.length ≤ 900 := by
        have := congrArg List.length hly
        rw [List.length_append, List.length_singleton] at this
        omega
      refine ⟨c, rfl, ⟨_, .inl (.inl hc8)⟩, fun Dn nD => ?_⟩
      refine lc_bools (fun o => decide (o ∈ r)) nD (.inl (.inl hc8)) hl0 (fun o' H' N M ho s9 hN => ?_) (fun H9 s9 hD => ?_)
      · exact ⟨rfl, .int o', rfl, .ref a, rfl, o', a, r, rfl, rfl, .inl (.inl (s9 _ _ (s8 _ _ ha))), hN⟩
      · refine ⟨Dn, _, rfl, .inl (.inl hD), _, rfl, ?_⟩
        rw [any_map]
        have hT9 := s9 _ _ hT8
        have s9 := s8.trans s9
        cases hany : l0.any (fun o => decide (o ∈ r)) with
        | true =>
          refine iteT (no s9 fun z => ?_)
          obtain ⟨b, hb, hbr⟩ := List.any_eq_true.mp hany
          exact z.free b (by rw [hdl]; exact hb) (of_decide_eq_true hbr)
        | false =>
          refine iteF ?_
          have hL : LLeads (nx W) e r (x :: l) := by
            refine ⟨List.cons_ne_nil _ _, by rw [List.head?_cons, hx], hedl, fun z hz => ?_, fun b hb hbr => ?_⟩
            · rw [hgl] at hz
              rw [← Option.some.inj hz]; exact hy
            · rw [hdl] at hb
              have := List.any_eq_false.mp hany b hb
              exact this (decide_eq_true hbr)
          exact ⟨_, rfl, s9, hT9, (hyes hL).1, (hyes hL).2⟩
    · obtain ⟨v5, rfl, s5, _, g1, g2⟩ := hI
      have L1 := g1 (by show 1 ≤ 2; decide)
      have L2 := g2 (by show 2 ≤ 2; decide)
      obtain ⟨o0, y, hoy⟩ : ∃ l0 y, o = l0 ++ [y] := ⟨_, _, (List.dropLast_concat_getLast L1.ne).symm⟩
      obtain ⟨t0, z, htz⟩ : ∃ l0 y, t = l0 ++ [y] := ⟨_, _, (List.dropLast_concat_getLast L2.ne).symm⟩
      have hao : atI (o.map V.int) (-1) = some (.int y) := by
        rw [hoy, List.map_append]
        exact atI_last _ _
      have hat : atI (t.map V.int) (-1) = some (.int z) := by
        rw [htz, List.map_append]
        exact atI_last _ _
      have e2 : o.getLast? = some y := by rw [hoy, List.getLast?_concat]
      have e3 : t.getLast? = some z := by rw [htz, List.getLast?_concat]
      refine ⟨.ref b, rfl, 1, rfl, b, _, -1, .int y, rfl, rfl, .inl (.inl (s5 _ _ hb)), hao, .ref c, rfl, 1, rfl, c, _, -1, .int z, rfl, rfl, .inl (.inl (s5 _ _ hc)), hat, rfl, _, rfl, iteN (fun hyz => ?_) (fun hyz => ?_)⟩
      · -- all of them blocks
        refine ⟨.ref a, rfl, .ref b, rfl, a, b, _, _, rfl, rfl, s5 _ _ ha, s5 _ _ hb, ?_, fun q1 n1 => ?_⟩
        · rw [List.length_map, List.length_map]
          exact Nat.le_of_lt (small9 (by omega))
        have s6 := s5.trans (same_upd (o := .lst (r.map V.int ++ o.map V.int)) n1)
        have h1 : (upd H' q1 (.lst (r.map V.int ++ o.map V.int))) q1 = some (.lst ((r ++ o).map V.int)) := by rw [upd_same, List.map_append]
        generalize upd H' q1 (.lst (r.map V.int ++ o.map V.int)) = H6 at s6 h1
        refine ⟨.ref c, rfl, q1, c, _, _, rfl, rfl, h1, s6 _ _ hc, ?_, fun q2 n2 => ?_⟩
        · rw [List.length_map, List.length_map, List.length_append]
          exact Nat.le_of_lt (small9 (by omega))
        have s7 := s6.trans (same_upd (o := .lst ((r ++ o).map V.int ++ t.map V.int)) n2)
        have h2 : (upd H6 q2 (.lst ((r ++ o).map V.int ++ t.map V.int))) q2 = some (.lst ((r ++ o ++ t).map V.int)) := by rw [upd_same, List.map_append (l₁ := r ++ o)]
        generalize upd H6 q2 (.lst ((r ++ o).map V.int ++ t.map V.int)) = H7 at s7 h2
        refine ⟨q2, rfl, ⟨_, .inl (.inl h2)⟩, fun Dn nD => ?_⟩
        refine lc_bools (fun o => decide (o ∈ ks W)) nD (.inl (.inl h2)) (by rw [List.length_append, List.length_append]; omega) (fun o' H' N M ho s8 hN => ?_) (fun H8 s8 hD => ?_)
        · obtain ⟨r', hr', hrs⟩ := ((hW.same s7).same s8).rd.isin o'
          refine ⟨rfl, .int o', rfl, .ref dw, rfl, dw, r', rfl, hr', ?_⟩
          rw [hrs]
          exact hN
        · refine ⟨Dn, _, rfl, .inl (.inl hD), k _ H8 (s7.trans s8) ?_⟩
          rw [all_map, shows_law, List.all_eq_true]
          refine ⟨fun z' => ⟨hne, hnd, hed, L1, L2, ?_, fun b hb => of_decide_eq_true (z' b hb)⟩, fun z' b hb => decide_eq_true (z'.2.2.2.2.2.2 b hb)⟩
          rw [e2, e3]
          intro h9
          exact hyz (by rw [Option.some.inj h9])
      · refine k false H' s5 ⟨fun z => Bool.noConfusion z, fun S => ?_⟩
        have h9 := S.diff
        rw [e2, e3] at h9
        exact absurd (by rw [vint.mp hyz]) h9
end
end BT
namespace BT
open PySem PyProof.Rows L2
abbrev sBent : Stmt := top 34
abbrev nBent : List Str := ["_law_draws", "_law_some", "_law_names", "_law_at", "_law_name", "_law_ahead", "_law_kinds"]
theorem scBent : FnScope nBent ["_law_draws", "_law_some", "_law_names"] (defScope sBent) := ⟨rfl, rfl, rfl, by decide +kernel, rfl, by decide +kernel, by decide +kernel⟩
/-- a new list of ints -/
def NL (H0 H : Hp) (p : Addr) (n : Nat) : Prop := H0 p = none ∧ ∃ l : List Int, H p = some (.lst (l.map V.int)) ∧ l.length ≤ n
theorem NL.same {H0 H H' : Hp} {p : Addr} {n : Nat} (s : Same H H') (h : NL H0 H p n) : NL H0 H' p n := by
  obtain ⟨h1, l, h2, h3⟩ := h
  exact ⟨h1, l, s _ _ h2, h3⟩
/-- _law_bent -/
def spBent : Sp := fun vs H Q _ => ∃ (d a b : Addr) (l nm : List Int), vs = [.ref d, .ref a, .ref b] ∧ DrawsAt H d ∧ H a = some (.lst (l.map V.int)) ∧ a ≠ d ∧ H b = some (.lst (nm.map V.int)) ∧ b ≠ d ∧ nm ≠ [] ∧ l.length ≤ 9 ∧
  ∀ (p : Addr) (H' : Hp), Kp d H H' → DrawsAt H' d → NL H H' p 10 → p ≠ d → Q (.ref p) H'
theorem cut_from (xs : List V) (n : Nat) : cutV xs (some (n : Int)) none = xs.drop n := by
  unfold cutV
  rw [HT.sIx_none, show HT.sIx xs.length 0 (some (n : Int)) = min n xs.length from HT.sIx_nat xs.length 0 n]
  by_cases h : n ≤ xs.length
  · rw [Nat.min_eq_left h, List.take_of_length_le (by rw [List.length_drop]; exact Nat.le_refl _)]
  · rw [Nat.min_eq_right (by omega), List.drop_eq_nil_of_le (Nat.le_refl _), List.drop_eq_nil_of_le (by omega)]; simp
section
variable {P : Program} {w : World} {K : PySem.W.Frag} {mg : Str → Option Value} {base : Heap}
theorem ok_bent (D : Df K mg "_law_bent" sBent ["_law_draws", "_law_some", "_law_names"]) (mLen : mg "len" = none) (cT : C8.Cal P w K mg base 1 "_law_take" spTake []) : C8.Cal P w K mg base 2 "_law_bent" spBent [] := by
  refine D.ok scBent (fun vs H Q E h => ?_) (fun f cdv A outer s H vs Q E hr h => ?_)
  · obtain ⟨_, _, _, _, _, rfl, _⟩ := h
    rfl
  · obtain ⟨d, a, b, l, nm, rfl, hd, ha, had, hb, hbd, hnm, hl, k⟩ := h
    have nd := scBent.nd
    refine ⟨_, pss_cons (ps_par (i := 3) (j := 4) rfl nd rfl rfl (by decide) rfl rfl (pa_cons (C8.pe_c cT hr (by decide) (by rfl) (pa_cons (pv 0) (pa_cons (pe_op op_add (pe_callB call_len_seq (by rfl) mLen PySem.boot_len (pa_cons (pv 1) pa_nil)) pe_int) pa_nil)))
          (pa_cons (pe_ix ix_list (pv 2) (C8.pe_c cT hr (by decide) (by rfl) (pa_cons (pv 0) (pa_cons (pe_callB call_len_seq (by rfl) mLen PySem.boot_len (pa_cons (pv 2) pa_nil)) pa_nil))) (fun _ _ => rfl)) pa_nil)) (by rfl))
      (pss_cons (ps_set (i := 5) nd rfl (.inl rfl) (pe_op op_cat (pe_slice sl_list (pv 1) po_none (po_some (pv 3))) (pe_lst (pa_cons (pv 4) pa_nil))))
      (pss_cons (ps_set (i := 6) nd rfl (.inl rfl) (pe_lst (pa_cons (pe_op op_cat (pv 5) (pe_slice sl_list (pv 1) (po_some (pv 3)) po_none)) (pa_cons (pe_op op_cat (pe_slice sl_list (pv 1) po_none (po_some (pv 3))) (pe_slice sl_list (pv 1) (po_some (pe_op op_add (pv 3) pe_int)) po_none))
          (pa_cons (pe_op op_cat (pv 5) (pe_slice sl_list (pv 1) (po_some (pe_op op_add (pv 3) pe_int)) po_none)) pa_nil)))))
      (pss_cons (ps_set (i := 6) nd rfl (.inl rfl) (pe_op op_cat (pv 6) (pe_lst (pa_cons (pe_revL (pv 1)) (pa_cons (pe_slice sl_list (pv 1) po_none (po_some (pv 3))) (pa_cons (pe_op op_cat (pe_slice sl_list (pv 1) (po_some (pv 3)) po_none) (pe_slice sl_list (pv 1) po_none (po_some (pv 3)))) pa_nil))))))
      (pss_one (ps_ret (pe_ix ix_list (pv 6) (C8.pe_c cT hr (by decide) (by rfl) (pa_cons (pv 0) (pa_cons pe_int pa_nil))) (fun _ _ => rfl))))))), ?_⟩
    have sz : ∀ {x y : List Int}, x.length ≤ 60 → y.length ≤ 60 → (x.map V.int).length + (y.map V.int).length ≤ sizeLine := fun hx hy => by
      rw [List.length_map, List.length_map]
      exact Nat.le_of_lt (small9 (by omega))
    -- at, name
    refine ⟨.ref d, rfl, .ref a, rfl, a, _, rfl, .inl (.inl (.inl ha)), _, 1, rfl, rfl, d, _, rfl, by omega, hd, fun z H1 k1 hd1 h0 hz => ?_⟩
    obtain ⟨j, rfl⟩ : ∃ j : Nat, z = j := ⟨z.toNat, by omega⟩
    have ha1 := k1 _ _ ha had
    have hb1 := k1 _ _ hb hbd
    have hnl : 0 < nm.length := List.length_pos_iff.mpr hnm
    refine ⟨.ref b, rfl, .ref d, rfl, .ref b, rfl, b, _, rfl, .inl (.inl (.inl hb1)), d, _, rfl, by rw [List.length_map]; omega, hd1, fun z H2 k2 hd2 h0' hz' => ?_⟩
    rw [List.length_map] at hz'
    obtain ⟨i, rfl⟩ : ∃ i : Nat, z = i := ⟨z.toNat, by omega⟩
    have hi : i < nm.length := by omega
    have ha2 := k2 _ _ ha1 had
    have hb2 := k2 _ _ hb1 hbd
    have k12 := k1.trans k2
    refine ⟨b, _, (i : Nat), .int nm[i], rfl, rfl, .inl (.inl hb2), atI_nat (by rw [List.getElem?_map, List.getElem?_eq_getElem hi]; rfl), _, _, rfl, ?_⟩
    have eT : cutV (l.map V.int) none (some ((j : Nat) : Int)) = (l.take j).map V.int := by rw [cut_to, List.map_take]
    have eD : cutV (l.map V.int) (some ((j : Nat) : Int)) none = (l.drop j).map V.int := by rw [cut_from, List.map_drop]
    have eD1 : cutV (l.map V.int) (some ((j : Nat) + 1 : Int)) none = (l.drop (j + 1)).map V.int := by rw [show ((j : Int) + 1) = ((j + 1 : Nat) : Int) by omega, cut_from, List.map_drop]
    have lT : (l.take j).length ≤ l.length := by rw [List.length_take]; omega
    have lD : (l.drop j).length ≤ l.length := by rw [List.length_drop]; omega
    have lTD : (l.take j).length + (l.drop j).length = l.length := by rw [List.length_take, List.length_drop]; omega
    have lD1 : (l.drop (j + 1)).length ≤ (l.drop j).length := by rw [List.length_drop, List.length_drop]; omega
    clear hb1 ha1 h0 h0' hz hz'
    -- ahead
    refine ⟨.ref a, rfl, .int (j : Nat), rfl, (j : Nat), rfl, a, _, rfl, .inl (.inl ha2), fun q1 n1 => ?_⟩
    rw [eT]
    have s1 := same_upd (o := .lst ((l.take j).map V.int)) n1
    have h1 : (upd H2 q1 (.lst ((l.take j).map V.int))) q1 = some (.lst ((l.take j).map V.int)) := upd_same
    generalize upd H2 q1 (.lst ((l.take j).map V.int)) = H3 at s1 h1
    refine ⟨.int nm[i], rfl, by show 1 ≤ sizeLine; decide, fun q2 n2 => ?_⟩
    have s2 := same_upd (o := .lst [V.int nm[i]]) n2
    have h2 : (upd H3 q2 (.lst [V.int nm[i]])) q2 = some (.lst ([nm[i]].map V.int)) := upd_same
    have h1' := s2 _ _ h1
    have s12 := s1.trans s2
    generalize upd H3 q2 (.lst [V.int nm[i]]) = H4 at s12 h2 h1'
    refine ⟨q1, q2, _, _, rfl, rfl, h1', h2, sz (by omega) (by simp), fun pA nA => ?_⟩
    have sA := s12.trans (same_upd (o := .lst ((l.take j).map V.int ++ [nm[i]].map V.int)) nA)
    have hA : (upd H4 pA (.lst ((l.take j).map V.int ++ [nm[i]].map V.int))) pA = some (.lst ((l.take j ++ [nm[i]]).map V.int)) := by rw [upd_same, List.map_append]
    have lA : (l.take j ++ [nm[i]]).length = (l.take j).length + 1 := by rw [List.length_append, List.length_singleton]
    generalize upd H4 pA (.lst ((l.take j).map V.int ++ [nm[i]].map V.int)) = H5 at sA hA
    generalize l.take j ++ [nm[i]] = lA' at hA lA
    clear s1 h1 s2 h1' s12 h2 n1 n2 nA
    -- ahead + some[at:]
    refine ⟨.ref pA, rfl, .ref a, rfl, .int (j : Nat), rfl, (j : Nat), rfl, a, _, rfl, .inl (.inl (sA _ _ ha2)), fun q1 n1 => ?_⟩
    rw [eD]
    have s1 := same_upd (o := .lst ((l.drop j).map V.int)) n1
    have h1 : (upd H5 q1 (.lst ((l.drop j).map V.int))) q1 = some (.lst ((l.drop j).map V.int)) := upd_same
    have hA6 := s1 _ _ hA
    have s6 := sA.trans s1
    generalize upd H5 q1 (.lst ((l.drop j).map V.int)) = H6 at h1 hA6 s6
    refine ⟨pA, q1, _, _, rfl, rfl, hA6, h1, sz (by omega) (by omega), fun p1 np1 => ?_⟩
    have t1 := same_upd (o := .lst (lA'.map V.int ++ (l.drop j).map V.int)) np1
    have L1 : NL H2 (upd H6 p1 (.lst (lA'.map V.int ++ (l.drop j).map V.int))) p1 10 := ⟨s6.free np1, lA' ++ l.drop j, by rw [upd_same, List.map_append], by rw [List.length_append]; omega⟩
    have s7 := s6.trans t1
    have hA7 := t1 _ _ hA6
    generalize upd H6 p1 (.lst (lA'.map V.int ++ (l.drop j).map V.int)) = H7 at L1 s7 hA7
    clear sA hA s1 h1 hA6 s6 t1 n1 np1
    -- some[:at] + some[at + 1:]
    refine ⟨.ref a, rfl, .int (j : Nat), rfl, (j : Nat), rfl, a, _, rfl, .inl (.inl (s7 _ _ ha2)), fun q1 n1 => ?_⟩
    rw [eT]
    have s1 := same_upd (o := .lst ((l.take j).map V.int)) n1
    have h1 : (upd H7 q1 (.lst ((l.take j).map V.int))) q1 = some (.lst ((l.take j).map V.int)) := upd_same
    have s8 := s7.trans s1
    have L1 := L1.same s1
    have hA8 := s1 _ _ hA7
    generalize upd H7 q1 (.lst ((l.take j).map V.int)) = H8 at h1 s8 L1 hA8
    refine ⟨.ref a, rfl, .int (j : Nat), rfl, (j : Nat), 1, rfl, rfl, _, rfl, a, _, rfl, .inl (.inl (s8 _ _ ha2)), fun q2 n2 => ?_⟩
    rw [eD1]
    have s2 := same_upd (o := .lst ((l.drop (j + 1)).map V.int)) n2
    have h2 : (upd H8 q2 (.lst ((l.drop (j + 1)).map V.int))) q2 = some (.lst ((l.drop (j + 1)).map V.int)) := upd_same
    have h1' := s2 _ _ h1
    have s9 := s8.trans s2
    have L1 := L1.same s2
    have hA9 := s2 _ _ hA8
    generalize upd H8 q2 (.lst ((l.drop (j + 1)).map V.int)) = H9 at h2 h1' s9 L1 hA9
    refine ⟨q1, q2, _, _, rfl, rfl, h1', h2, sz (by omega) (by omega), fun p2 np2 => ?_⟩
    have t1 := same_upd (o := .lst ((l.take j).map V.int ++ (l.drop (j + 1)).map V.int)) np2
    have L2 : NL H2 (upd H9 p2 (.lst ((l.take j).map V.int ++ (l.drop (j + 1)).map V.int))) p2 10 := ⟨s9.free np2, l.take j ++ l.drop (j + 1), by rw [upd_same, List.map_append], by rw [List.length_append]; omega⟩
    have s10 := s9.trans t1
    have L1 := L1.same t1
    have hA10 := t1 _ _ hA9
    generalize upd H9 p2 (.lst ((l.take j).map V.int ++ (l.drop (j + 1)).map V.int)) = H10 at L1 L2 s10 hA10
    clear s1 s2 h1 h1' h2 s7 s8 s9 hA7 hA8 hA9 n1 n2 np2 t1
    -- ahead + some[at + 1:]
    refine ⟨.ref pA, rfl, .ref a, rfl, .int (j : Nat), rfl, (j : Nat), 1, rfl, rfl, _, rfl, a, _, rfl, .inl (.inl (s10 _ _ ha2)), fun q1 n1 => ?_⟩
    rw [eD1]
    have s1 := same_upd (o := .lst ((l.drop (j + 1)).map V.int)) n1
    have h1 : (upd H10 q1 (.lst ((l.drop (j + 1)).map V.int))) q1 = some (.lst ((l.drop (j + 1)).map V.int)) := upd_same
    have hA11 := s1 _ _ hA10
    have s11 := s10.trans s1
    have L1 := L1.same s1
    have L2 := L2.same s1
    generalize upd H10 q1 (.lst ((l.drop (j + 1)).map V.int)) = H11 at h1 hA11 s11 L1 L2
    refine ⟨pA, q1, _, _, rfl, rfl, hA11, h1, sz (by omega) (by omega), fun p3 np3 => ?_⟩
    have t1 := same_upd (o := .lst (lA'.map V.int ++ (l.drop (j + 1)).map V.int)) np3
    have L3 : NL H2 (upd H11 p3 (.lst (lA'.map V.int ++ (l.drop (j + 1)).map V.int))) p3 10 := ⟨s11.free np3, lA' ++ l.drop (j + 1), by rw [upd_same, List.map_append], by rw [List.length_append]; omega⟩
    have s12 := s11.trans t1
    have L1 := L1.same t1
    have L2 := L2.same t1
    generalize upd H11 p3 (.lst (lA'.map V.int ++ (l.drop (j + 1)).map V.int)) = H12 at L1 L2 L3 s12
    clear s1 h1 hA10 hA11 s10 s11 t1 n1 np3
    refine ⟨by show 3 ≤ sizeLine; decide, fun pk npk => ?_⟩
    have t1 := same_upd (o := .lst [V.ref p1, .ref p2, .ref p3]) npk
    have hk : (upd H12 pk (.lst [V.ref p1, .ref p2, .ref p3])) pk = some (.lst [V.ref p1, .ref p2, .ref p3]) := upd_same
    have s13 := s12.trans t1
    have L1 := L1.same t1
    have L2 := L2.same t1
    have L3 := L3.same t1
    generalize upd H12 pk (.lst [V.ref p1, .ref p2, .ref p3]) = H13 at L1 L2 L3 s13 hk
    clear s12 t1 npk
    -- some[::-1]
    refine ⟨.ref pk, rfl, .ref a, rfl, a, _, rfl, .inl (.inl (s13 _ _ ha2)), fun p4 np4 => ?_⟩
    have t1 := same_upd (o := .lst (l.map V.int).reverse) np4
    have L4 : NL H2 (upd H13 p4 (.lst (l.map V.int).reverse)) p4 10 := ⟨s13.free np4, l.reverse, by rw [upd_same, List.map_reverse], by rw [List.length_reverse]; omega⟩
    have s14 := s13.trans t1
    have hk14 := t1 _ _ hk
    have L1 := L1.same t1
    have L2 := L2.same t1
    have L3 := L3.same t1
    generalize upd H13 p4 (.lst (l.map V.int).reverse) = H14 at L1 L2 L3 L4 s14 hk14
    clear s13 t1 np4 hk
    -- some[:at]
    refine ⟨.ref a, rfl, .int (j : Nat), rfl, (j : Nat), rfl, a, _, rfl, .inl (.inl (s14 _ _ ha2)), fun p5 np5 => ?_⟩
    rw [eT]
    have t1 := same_upd (o := .lst ((l.take j).map V.int)) np5
    have L5 : NL H2 (upd H14 p5 (.lst ((l.take j).map V.int))) p5 10 := ⟨s14.free np5, l.take j, upd_same, by omega⟩
    have s15 := s14.trans t1
    have hk15 := t1 _ _ hk14
    have L1 := L1.same t1
    have L2 := L2.same t1
    have L3 := L3.same t1
    have L4 := L4.same t1
    generalize upd H14 p5 (.lst ((l.take j).map V.int)) = H15 at L1 L2 L3 L4 L5 s15 hk15
    clear s14 t1 np5 hk14
    -- some[at:] + some[:at]
    refine ⟨.ref a, rfl, .int (j : Nat), rfl, (j : Nat), rfl, a, _, rfl, .inl (.inl (s15 _ _ ha2)), fun q1 n1 => ?_⟩
    rw [eD]
    have s1 := same_upd (o := .lst ((l.drop j).map V.int)) n1
    have h1 : (upd H15 q1 (.lst ((l.drop j).map V.int))) q1 = some (.lst ((l.drop j).map V.int)) := upd_same
    have s16 := s15.trans s1
    generalize upd H15 q1 (.lst ((l.drop j).map V.int)) = H16 at h1 s1 s16
    refine ⟨.ref a, rfl, .int (j : Nat), rfl, (j : Nat), rfl, a, _, rfl, .inl (.inl (s16 _ _ ha2)), fun q2 n2 => ?_⟩
    rw [eT]
    have s2 := same_upd (o := .lst ((l.take j).map V.int)) n2
    have h2 : (upd H16 q2 (.lst ((l.take j).map V.int))) q2 = some (.lst ((l.take j).map V.int)) := upd_same
    have s17 := s16.trans s2
    have s12 := s1.trans s2
    have h1' := s2 _ _ h1
    generalize upd H16 q2 (.lst ((l.take j).map V.int)) = H17 at h1' h2 s17 s12
    refine ⟨q1, q2, _, _, rfl, rfl, h1', h2, sz (by omega) (by omega), fun p6 np6 => ?_⟩
    have t1 := same_upd (o := .lst ((l.drop j).map V.int ++ (l.take j).map V.int)) np6
    have L6 : NL H2 (upd H17 p6 (.lst ((l.drop j).map V.int ++ (l.take j).map V.int))) p6 10 := ⟨s17.free np6, l.drop j ++ l.take j, by rw [upd_same, List.map_append], by rw [List.length_append]; omega⟩
    have s18 := s17.trans t1
    have u1 := s12.trans t1
    have hk18 := u1 _ _ hk15
    have L1 := L1.same u1
    have L2 := L2.same u1
    have L3 := L3.same u1
    have L4 := L4.same u1
    have L5 := L5.same u1
    generalize upd H17 p6 (.lst ((l.drop j).map V.int ++ (l.take j).map V.int)) = H18 at L1 L2 L3 L4 L5 L6 s18 hk18
    clear s1 s2 h1 h1' h2 s15 s16 s17 s12 t1 u1 np6 hk15 n1 n2
    refine ⟨by show 3 ≤ sizeLine; decide, fun pm npm => ?_⟩
    have t1 := same_upd (o := .lst [V.ref p4, .ref p5, .ref p6]) npm
    have hm : (upd H18 pm (.lst [V.ref p4, .ref p5, .ref p6])) pm = some (.lst [V.ref p4, .ref p5, .ref p6]) := upd_same
    have hk19 := t1 _ _ hk18
    have s19 := s18.trans t1
    generalize upd H18 pm (.lst [V.ref p4, .ref p5, .ref p6]) = H19 at hm hk19 s19 t1
    refine ⟨pk, pm, _, _, rfl, rfl, hk19, hm, by show 6 ≤ sizeLine; decide, fun pz npz => ?_⟩
    have t2 := same_upd (o := .lst ([V.ref p1, .ref p2, .ref p3] ++ [V.ref p4, .ref p5, .ref p6])) npz
    have hz : (upd H19 pz (.lst ([V.ref p1, .ref p2, .ref p3] ++ [V.ref p4, .ref p5, .ref p6]))) pz = some (.lst [V.ref p1, .ref p2, .ref p3, .ref p4, .ref p5, .ref p6]) := upd_same
    have u1 := t1.trans t2
    have s20 := s19.trans t2
    have hL : ∀ v, v ∈ [V.ref p1, .ref p2, .ref p3, .ref p4, .ref p5, .ref p6] → ∃ p, v = .ref p ∧ NL H2 (upd H19 pz (.lst ([V.ref p1, .ref p2, .ref p3] ++ [V.ref p4, .ref p5, .ref p6]))) p 10 := fun v hv => by
      simp only [List.mem_cons, List.not_mem_nil, or_false] at hv
      rcases hv with rfl | rfl | rfl | rfl | rfl | rfl
      · exact ⟨p1, rfl, L1.same u1⟩
      · exact ⟨p2, rfl, L2.same u1⟩
      · exact ⟨p3, rfl, L3.same u1⟩
      · exact ⟨p4, rfl, L4.same u1⟩
      · exact ⟨p5, rfl, L5.same u1⟩
      · exact ⟨p6, rfl, L6.same u1⟩
    generalize upd H19 pz (.lst ([V.ref p1, .ref p2, .ref p3] ++ [V.ref p4, .ref p5, .ref p6])) = H20 at hz s20 hL
    have hd20 := hd2.same s20
    have nzd : pz ≠ d := by
      have : H19 d ≠ none := by
        obtain ⟨zs, y, _⟩ := hd2.same s19
        rw [y]; exact fun z => by cases z
      exact fun z => this (by rw [← z]; exact npz)
    -- return kinds[..]
    refine ⟨.ref pz, rfl, .ref d, rfl, d, 6, rfl, by decide, hd20, fun z H21 k21 hd21 h0 h6 => ?_⟩
    obtain ⟨n, rfl⟩ : ∃ n : Nat, z = n := ⟨z.toNat, by omega⟩
    have hn6 : n < [V.ref p1, .ref p2, .ref p3, .ref p4, .ref p5, .ref p6].length := by show n < 6; omega
    obtain ⟨p, hp, np0, lp, hlp, hll⟩ := hL _ (List.getElem_mem hn6)
    have npd : p ≠ d := by
      intro z
      obtain ⟨zs, y, _⟩ := hd2
      rw [z, y] at np0
      cases np0
    refine ⟨pz, _, (n : Nat), .ref p, rfl, rfl, .inl (.inl (k21 _ _ hz nzd)), atI_nat (by rw [List.getElem?_eq_getElem hn6, hp]), k p H21 ?_ hd21 ⟨k12.free hd2 np0, lp, k21 _ _ hlp npd, hll⟩ npd⟩
    exact (k12.trans (Kp.of s20)).trans k21
end
end BT
namespace BT
open PySem L2
theorem ite_both {b : Bool} {A B : Prop} (h1 : A) (h2 : B) : if b = true then A else B := by
  cases b with
  | true => exact iteT h1
  | false => exact iteF h2
/-- a list of ints that is not the draws -/
def LI (d : Addr) (H : Hp) (a : Addr) (n : Nat) : Prop := ∃ l : List Int, H a = some (.lst (l.map V.int)) ∧ l.length ≤ n ∧ a ≠ d
theorem LI.kp {d : Addr} {H H' : Hp} {a : Addr} {n : Nat} (k : Kp d H H') (h : LI d H a n) : LI d H' a n := by
  obtain ⟨l, h1, h2, h3⟩ := h
  exact ⟨l, k _ _ h1 h3, h2, h3⟩
theorem LI.mono {d : Addr} {H : Hp} {a : Addr} {n m : Nat} (hm : n ≤ m) (h : LI d H a n) : LI d H a m := by
  obtain ⟨l, h1, h2, h3⟩ := h
  exact ⟨l, h1, by omega, h3⟩
theorem DrawsAt.there {H : Hp} {d : Addr} (h : DrawsAt H d) : H d ≠ none := by
  obtain ⟨zs, h1, _⟩ := h
  rw [h1]
  exact fun z => by cases z
theorem DrawsAt.neI {H : Hp} {d p C dx : Addr} {fs : List (Str × V)} (h : DrawsAt H d) (hp : H p = some (.ins C dx fs)) : p ≠ d := by
  obtain ⟨zs, h1, _⟩ := h
  exact ne_of hp h1 (fun z => by cases z)
theorem DrawsAt.neT {H : Hp} {d p : Addr} {xs : List V} (h : DrawsAt H d) (hp : H p = some (.tup xs)) : p ≠ d := by
  obtain ⟨zs, h1, _⟩ := h
  exact ne_of hp h1 (fun z => by cases z)
/-- of a Twist that stands whatever is done to the draws: its lists -/
theorem twist_lists {cT d : Addr} {H : Hp} {p : Addr} {r o t : List Int} (hd : DrawsAt H d) (st : ∀ H', Kp d H H' → TwistAt cT H' p r o t) :
    ∃ dx fs dr d1 d2, H p = some (.ins cT dx fs) ∧ fs.lookup ("ring" : Str) = some (.ref dr) ∧ fs.lookup ("one" : Str) = some (.ref d1) ∧ fs.lookup ("other" : Str) = some (.ref d2) ∧ (fs.lookup ("leads" : Str) = none ∧ fs.lookup ("shows" : Str) = none) ∧
      H dr = some (.lst (r.map V.int)) ∧ H d1 = some (.lst (o.map V.int)) ∧ H d2 = some (.lst (t.map V.int)) ∧ dr ≠ d ∧ d1 ≠ d ∧ d2 ≠ d := by
  obtain ⟨dx, fs, dr, d1, d2, h1, h2, h3, h4, hN, h5, h6, h7⟩ := st H (Kp.refl d H)
  obtain ⟨dx', fs', dr', d1', d2', g1, g2, g3, g4, gN, g5, g6, g7⟩ := st (upd H d (.tup [])) (Kp.refl d H).mut
  have hpd := hd.neI h1
  rw [upd_ne hpd, h1] at g1
  cases g1
  rw [h2] at g2
  cases g2
  rw [h3] at g3
  cases g3
  rw [h4] at g4
  cases g4
  have key : ∀ {q : Addr} {l : List V}, (upd H d (.tup [])) q = some (.lst l) → q ≠ d := fun {q l} h z => by
    rw [z, upd_same] at h
    cases h
  exact ⟨dx, fs, dr, d1, d2, h1, h2, h3, h4, hN, h5, h6, h7, key g5, key g6, key g7⟩
/-- what stands through the inner loop -/
def BI (d : Addr) (Hb : Hp) (pa p1 p2 p3 : Addr) (H : Hp) : Prop := Kp d Hb H ∧ DrawsAt H d ∧ H pa = some (.tup [.ref p1, .ref p2, .ref p3]) ∧ LI d H p1 9 ∧ LI d H p2 9 ∧ LI d H p3 9
theorem BI.kp {d : Addr} {Hb : Hp} {pa p1 p2 p3 : Addr} {H H' : Hp} (h : BI d Hb pa p1 p2 p3 H) (k : Kp d H H') (hd : DrawsAt H' d) : BI d Hb pa p1 p2 p3 H' := by
  obtain ⟨h1, h2, h3, h4, h5, h6⟩ := h
  exact ⟨h1.trans k, hd, k _ _ h3 (h2.neT h3), h4.kp k, h5.kp k, h6.kp k⟩
theorem BI.same {d : Addr} {Hb : Hp} {pa p1 p2 p3 : Addr} {H H' : Hp} (h : BI d Hb pa p1 p2 p3 H) (s : Same H H') : BI d Hb pa p1 p2 p3 H' := h.kp (Kp.of s) (h.2.1.same s)
theorem plain_bad {W : Ways} {e : Int} : PlainW W e ↔ ∀ u v, ¬ Bad (nx W) (line W e) e u v := by
  constructor
  · exact fun h u v b => b.no (h u v b.ul b.vs b.back)
  · intro h u v hu hv hb
    exact Classical.byContradiction fun z => h u v ⟨hu, hv, hb, z⟩
end BT
namespace BT
open PySem PySem.Spec PyProof.Rows L2
abbrev sLaw : Stmt := top 35
abbrev nLaw : List Str := ["_law_script", "_law_draws", "_law_turn", "_law_begin", "_law_blocks", "_law_ways", "_law_graph_here", "_law_names", "_law_told", "_law_parts", "_law_more", "_law_ring", "_law_one", "_law_other", "_law_kind", "_law_handed", "_law_made"]
theorem scLaw : FnScope nLaw ["_law_script"] (defScope sLaw) := ⟨rfl, rfl, rfl, by decide +kernel, rfl, by decide +kernel, by decide +kernel⟩
/-- law: whatever the script, True -/
def spLaw (K : PySem.W.Frag) : Sp := fun vs H Q _ => ∃ (a : Addr) (ns : List Int), vs = [.ref a] ∧ SqL K H a (ns.map V.int) ∧ ns.length ≤ 63 ∧ ∀ H', Q (.bl true) H'
/-- what == and != of the two classes ask -/
structure TQ (K : PySem.W.Frag) (cP cT : Addr) : Prop where
  pp : PySem.W.notFirst K cP (.ref cP) = true
  tp : PySem.W.notFirst K cT (.ref cP) = true
  ne : PySem.W.findIn K (.ref cP) "__ne__" = some (some (.builtin "object.__ne__"))
  sub : PySem.W.subIn K (.ref cP) (.type "object") = some true
section
variable {P : Program} {w : World} {K : PySem.W.Frag} {mg : Str → Option Value} {base : Heap} {cG cP cT : Addr}
theorem ok_law {fL : Addr} {fdL : FuncData} (D : Fun K "law" "law" sLaw fL fdL) (T : TX K mg cG cP cT) (TBm : TB mg) (MP : MkP K cP) (TQm : TQ K cP cT)
    (cPool : C8.Cal P w K mg base 4 "_law_pool" (spPool K) []) (cGr : C8.Cal P w K mg base 2 "_law_graph" spLGraph []) (cGI : C8.Mak P w K mg base 1 "Graph" cG (spGInit cG) []) (cJ : C8.Cal P w K mg base 4 "judged" (spJudged cG cP cT) [])
    (cPl : C8.Cal P w K mg base 3 "_law_is_plain" spLPlain []) (cPEq : C8.Met P w K mg base 1 cP "__eq__" (spPEq cP) []) (cTEq : C8.Met P w K mg base 1 cT "__eq__" (spTEq cP) []) (cPS : C8.Met P w K mg base 4 cP "shows" (spPShows cG) []) (cTS : C8.Met P w K mg base 4 cT "shows" (spShows cG cT) [])
    (cLS : C8.Cal P w K mg base 2 "_law_shows" spLShows []) (cTk : C8.Cal P w K mg base 1 "_law_take" spTake []) (cBn : C8.Cal P w K mg base 2 "_law_bent" spBent []) (cTw : C8.Mak P w K mg base 1 "Twist" cT (spTInit K cT) []) :
    FnOk P w K mg base CX0 5 fL fdL ["_law_script"] (spLaw K) := by
  refine D.ok scLaw (fun vs H Q E h => ?_) (fun cdv A outer s H vs Q E hr h => ?_)
  · obtain ⟨_, _, rfl, _⟩ := h
    rfl
  · obtain ⟨sa, ns, rfl, hs, hn63, k⟩ := h
    have hu := hu_of hr
    have hu4 := hr.units
    have nd := scLaw.nd
    refine ⟨_, C8.pss_cut (ps_set (i := 0) nd rfl (.inl rfl) (pe_slice sl_list (pv 0) po_none (po_some pe_int)))
      (C8.pss_cut (ps_set (i := 1) nd rfl (.inl rfl) (C8.pe_c cPool hr (by decide) (by rfl) (pa_cons (pv 0) (pa_cons (pe_tup (pa_cons pe_int (pa_cons pe_int pa_nil))) pa_nil))))
      (pss_cons (ps_for PassesOwn.never rfl (pi_range1 (by rfl) TBm.range (pa_cons pe_int pa_nil)) (pg_name (i := 2) nd rfl (.inl rfl))
        (C8.pss_cut (ps_asg (C8.pe_c cGr hr (by decide) (by rfl) (pa_cons (pv 1) (pa_cons pe_int pa_nil))) (pg_tup rfl (pgs_cons (pg_name (i := 3) nd rfl (.inl rfl)) (pgs_cons (pg_name (i := 4) nd rfl (.inl rfl)) (pgs_cons (pg_name (i := 5) nd rfl (.inl rfl)) pgs_nil)))))
        (C8.pss_cut (ps_par (i := 6) (j := 7) rfl nd rfl rfl (by decide) rfl rfl (pa_cons (C8.pe_mk cGI hr (by decide) (by rfl) (pa_cons (pv 3) (pa_cons (pv 4) (pa_cons (pv 5) pa_nil)))) (pa_cons (pe_op op_cat (pe_callB (call_sortedDI rfl) (by rfl) TBm.sorted PyProof.Rows.boot_sorted (pa_cons (pv 5) pa_nil)) (pe_lst (pa_cons pe_int pa_nil))) pa_nil)) (by rfl))
        (C8.pss_cut (ps_set (i := 8) nd rfl (.inl rfl) (C8.pe_c cJ hr (by decide) (by rfl) (pa_cons (pv 6) pa_nil)))
        (C8.pss_cut (ps_if (pt_val (C8.pe_c cPl hr (by decide) (by rfl) (pa_cons (pv 5) (pa_cons (pv 3) pa_nil))))
          (pss_cons (ps_if (PW.pt (pw_or (pt_cmpR (op_neOwn cPEq hr (by decide) TQm.pp TQm.ne TQm.sub) (pv 8) (pe_plain MP (by rfl) T.mgP) (by rfl))
              (pw_or (pt_not (pt_val (pe_callB call_isi (by rfl) T.isi boot_isinstance (pa_cons (pv 8) (pa_cons (pe_glob (by rfl) T.mgP (v := .ref cP) rfl) pa_nil)))))
              (pw_or1 (pt_cmpR op_notBl (C8.pe_mt cPS hr (by decide) (pe_plain MP (by rfl) T.mgP) (pa_cons (pv 6) pa_nil)) pe_bl (by rfl)))))) (pss_one (ps_ret pe_bl)) pss_nil)
          (pss_one (ps_set (i := 9) nd rfl (.inl rfl) (pe_tup (pa_cons (pe_lst (pa_cons (pv 3) pa_nil)) (pa_cons (pe_lst (pa_cons (pv 3) pa_nil)) (pa_cons (pe_lst (pa_cons (pv 3) pa_nil)) pa_nil)))))))
          (pss_cons (ps_if (PW.pt (pw_or (pt_not (pt_val (pe_callB call_isi (by rfl) T.isi boot_isinstance (pa_cons (pv 8) (pa_cons (pe_glob (by rfl) T.mgT (v := .ref cT) rfl) pa_nil)))))
              (pw_or (pt_cmpR op_notBl (C8.pe_mt cTS hr (by decide) (pv 8) (pa_cons (pv 6) pa_nil)) pe_bl (by rfl))
              (pw_or1 (pt_cmpR op_notBl (C8.pe_mt cPS hr (by decide) (pe_plain MP (by rfl) T.mgP) (pa_cons (pv 6) pa_nil)) pe_bl (by rfl)))))) (pss_one (ps_ret pe_bl)) pss_nil)
          (pss_cons (ps_set (i := 9) nd rfl (.inl rfl) (pe_tup (pa_cons (pe_fld (pv 8) rfl) (pa_cons (pe_fld (pv 8) rfl) (pa_cons (pe_fld (pv 8) rfl) pa_nil)))))
          (pss_one (ps_if (PW.pt (pw_or (pt_not (pt_val (C8.pe_c cLS hr (by decide) (by rfl) (pa_cons (pv 5) (pa_cons (pv 3) (pa_cons (pe_fld (pv 8) rfl) (pa_cons (pe_fld (pv 8) rfl) (pa_cons (pe_fld (pv 8) rfl) pa_nil))))))))
              (pw_or1 (pt_cmpR (op_eqOwn cTEq hr (by decide) TQm.tp) (pv 8) (pe_plain MP (by rfl) T.mgP) (by rfl))))) (pss_one (ps_ret pe_bl)) pss_nil)))))
        (pss_one (ps_for PassesOwn.never rfl (pi_range1 (by rfl) TBm.range (pa_cons pe_int pa_nil)) (pg_name (i := 10) nd rfl (.inl rfl))
          (C8.pss_cut (ps_par3 (i := 11) (j := 12) (l := 13) rfl nd rfl rfl rfl (by decide) (by decide) (by decide) rfl rfl rfl
              (pa_cons (pe_callTy call_list_of (by rfl) T.list PyProof.Rows.boot_list (pa_cons (pe_ix ix_tup (pv 9) pe_int (fun _ _ => rfl)) pa_nil)) (pa_cons (pe_callTy call_list_of (by rfl) T.list PyProof.Rows.boot_list (pa_cons (pe_ix ix_tup (pv 9) pe_int (fun _ _ => rfl)) pa_nil)) (pa_cons (pe_callTy call_list_of (by rfl) T.list PyProof.Rows.boot_list (pa_cons (pe_ix ix_tup (pv 9) pe_int (fun _ _ => rfl)) pa_nil)) pa_nil))) (by rfl))
          (C8.pss_cut (ps_set (i := 14) nd rfl (.inl rfl) (C8.pe_c cTk hr (by decide) (by rfl) (pa_cons (pv 1) (pa_cons pe_int pa_nil))))
          (C8.pss_cut (ps_set (i := 11) nd rfl (.inl rfl) (pe_ifExp (pt_cmpR op_in_seq (pv 14) (pe_tup (pa_cons pe_int (pa_cons pe_int pa_nil))) (by rfl)) (C8.pe_c cBn hr (by decide) (by rfl) (pa_cons (pv 1) (pa_cons (pv 11) (pa_cons (pv 7) pa_nil)))) (pv 11)))
          (C8.pss_cut (ps_set (i := 12) nd rfl (.inl rfl) (pe_ifExp (pt_cmpR op_in_seq (pv 14) (pe_tup (pa_cons pe_int (pa_cons pe_int pa_nil))) (by rfl)) (C8.pe_c cBn hr (by decide) (by rfl) (pa_cons (pv 1) (pa_cons (pv 12) (pa_cons (pv 7) pa_nil)))) (pv 12)))
          (C8.pss_cut (ps_set (i := 13) nd rfl (.inl rfl) (pe_ifExp (pt_cmpR op_eq (pv 14) pe_int (nomark _)) (C8.pe_c cBn hr (by decide) (by rfl) (pa_cons (pv 1) (pa_cons (pv 13) (pa_cons (pv 7) pa_nil)))) (pv 13)))
          (pss_cons (ps_set (i := 15) nd rfl (.inl rfl) (pe_callTy call_list_of (by rfl) T.list PyProof.Rows.boot_list (pa_cons (pv 11) pa_nil)))
          (pss_cons (ps_set (i := 16) nd rfl (.inl rfl) (C8.pe_mk cTw hr (by decide) (by rfl) (pa_cons (pv 15) (pa_cons (pv 12) (pa_cons (pv 13) pa_nil)))))
          (pss_cons (ps_expr (pe_bm PySem.F.plainAttrs_list PySem.F.slot_list_append PySem.F.type_list_append mt_append (pv 15) (pa_cons pe_int pa_nil)))
          (pss_one (ps_if (PW.pt (pw_or (pt_cmpR op_ne (C8.pe_mt cTS hr (by decide) (pv 16) (pa_cons (pv 6) pa_nil)) (C8.pe_c cLS hr (by decide) (by rfl) (pa_cons (pv 5) (pa_cons (pv 3) (pa_cons (pv 11) (pa_cons (pv 12) (pa_cons (pv 13) pa_nil)))))) (by rfl))
              (pw_or1 (pt_cmpR (op_neInts hu4) (pe_fld (pv 16) rfl) (pv 11) (by rfl))))) (pss_one (ps_ret pe_bl)) pss_nil)))))))))))))))))
      (pss_one (ps_ret pe_bl)))), ?_⟩
    -- script[:63]
    refine ⟨fun σ' H' => ∃ (q : Addr) (ms : List Int), σ' = [some (.ref q), none, none, none, none, none, none, none, none, none, none, none, none, none, none, none, none] ∧ SqL K H' q (ms.map V.int), ?_, fun σ' H1 hM => ?_⟩
    · refine ⟨.ref sa, rfl, 63, rfl, sa, _, rfl, hs, fun q nq => ⟨q, ns.take 63, rfl, .inl (.inl ?_)⟩⟩
      rw [upd_same, show (63 : Int) = ((63 : Nat) : Int) by rfl, cut_to, List.map_take]
    obtain ⟨q, ms, rfl, hq⟩ := hM
    -- the draws
    refine ⟨fun σ' H' => ∃ d : Addr, σ' = [some (.ref q), some (.ref d), none, none, none, none, none, none, none, none, none, none, none, none, none, none, none] ∧ DrawsAt H' d, ?_, fun σ' H2 hM => ?_⟩
    · refine ⟨.ref q, rfl, by show 2 ≤ sizeLine; decide, fun T0 nT => ?_⟩
      have sT := same_upd (o := .tup [V.int 1000003, .int 999983]) nT
      exact ⟨q, T0, ms, rfl, sT.seq hq, .inl (.inl upd_same), fun p H' s1 np hd => ⟨p, rfl, hd⟩⟩
    obtain ⟨d, rfl, hd2⟩ := hM
    clear hq hs
    refine ⟨7, rfl, rng_lo 7, rng_hi (by decide), for_range (lo := 0) (n := 7) (fun i σ H' => ∃ v2 v3 v4 v5 v6 v7 v8 v9 v10 v11 v12 v13 v14 v15 v16 : Option V, σ = [some (.ref q), some (.ref d), v2, v3, v4, v5, v6, v7, v8, v9, v10, v11, v12, v13, v14, v15, v16] ∧ DrawsAt H' d)
      ⟨none, none, none, none, none, none, none, none, none, none, none, none, none, none, none, rfl, hd2⟩ (fun i σ H' hi hI => ?_) (fun σ H' _ => k H')⟩
    clear hd2 H2 H1
    obtain ⟨v2, v3, v4, v5, v6, v7, v8, v9, v10, v11, v12, v13, v14, v15, v16, rfl, hd⟩ := hI
    -- begin, blocks, ways
    refine ⟨fun σ' H1 => ∃ (db dw : Addr) (e : Int) (B W : Ways), σ' = [some (.ref q), some (.ref d), some (.int (0 + (i : Int))), some (.int e), some (.ref db), some (.ref dw), v6, v7, v8, v9, v10, v11, v12, v13, v14, v15, v16] ∧ DrawsAt H1 d ∧
        WaysN d H1 db B ∧ WaysN d H1 dw W ∧ ks B = ks W ∧ GOk W e, ?_, fun σ' H1 hM => ?_⟩
    · exact ⟨.ref d, rfl, d, rfl, hd, fun T0 db dw e B W H1 k1 hd1 nT0 hT hB hW hBk G => ⟨T0, [.int e, .ref db, .ref dw], rfl, .inl (.inl hT), rfl, .int e, [.ref db, .ref dw], rfl, .ref db, [.ref dw], rfl, .ref dw, [], rfl, rfl, db, dw, e, B, W, rfl, hd1, hB, hW, hBk, G⟩⟩
    obtain ⟨db, dw, e, B, W, rfl, hd1, hB, hW, hBk, G⟩ := hM
    clear hd H'
    -- graph_here, names
    refine ⟨fun σ' Hb => ∃ (g nmA d' : Addr) (nm : List Int), σ' = [some (.ref q), some (.ref d), some (.int (0 + (i : Int))), some (.int e), some (.ref db), some (.ref dw), some (.ref g), some (.ref nmA), v8, v9, v10, v11, v12, v13, v14, v15, v16] ∧ DrawsAt Hb d ∧
        WaysN d Hb dw W ∧ (∀ H'', Kp d Hb H'' → GraphAt cG H'' g e d' W) ∧ Hb nmA = some (.lst (nm.map V.int)) ∧ nm ≠ [] ∧ nmA ≠ d, ?_, fun σ' Hb hM => ?_⟩
    · refine ⟨.int e, rfl, .ref db, rfl, .ref dw, rfl, fun x dx nx' ndx ne' => ?_⟩
      have sA : Same H1 (upd (upd H1 dx (.own x)) x (.ins cG dx [])) := (same_upd ndx).trans (same_upd (by rw [upd_ne ne'.symm]; exact nx'))
      have hxd : x ≠ d := hd1.ne nx'
      refine ⟨x, dx, e, db, dw, B, W, rfl, upd_same, (hB.same sA).at, (hW.same sA).at, hBk, G.nd, G.len, fun H2 d' keep st _ => ⟨rfl, ?_⟩⟩
      have s2 : Same H1 H2 := fun b o hb => keep _ _ (sA _ _ hb) (ne_of_none hb nx')
      have hstab : ∀ H'', Kp d H2 H'' → GraphAt cG H'' x e d' W := fun H'' kk => st d H'' hxd.symm (hd1.same sA).there kk
      have hd2 := hd1.same s2
      have hW2 := hW.same s2
      obtain ⟨kw, hkw, hwp⟩ := id hW2
      refine ⟨.ref dw, rfl, dw, kw, ks W, rfl, .inl hkw, hwp.wp.keys, by have := G.len; rw [List.length_map]; omega, fun ys p hperm hsort np => ?_⟩
      have sp := same_upd (o := .lst (ys.map V.int)) np
      have hp : (upd H2 p (.lst (ys.map V.int))) p = some (.lst (ys.map V.int)) := upd_same
      generalize upd H2 p (.lst (ys.map V.int)) = H3 at sp hp
      refine ⟨by show 1 ≤ sizeLine; decide, fun q1 n1 => ?_⟩
      have s1 := same_upd (o := .lst [V.int 99999]) n1
      have hp4 := s1 _ _ hp
      have hq1 : (upd H3 q1 (.lst [V.int 99999])) q1 = some (.lst (([99999] : List Int).map V.int)) := upd_same
      have s14 := sp.trans s1
      generalize upd H3 q1 (.lst [V.int 99999]) = H4 at s14 hp4 hq1
      have hyl : ys.length ≤ 9 := by have := hperm.length_eq; have := G.len; rw [List.length_map] at *; omega
      refine ⟨p, q1, _, _, rfl, rfl, hp4, hq1, by rw [List.length_map, List.length_map, List.length_singleton]; exact Nat.le_of_lt (small9 (by omega)), fun nA nnA => ⟨_, _, rfl, ?_⟩⟩
      have s5 := s14.trans (same_upd (o := .lst (ys.map V.int ++ ([99999] : List Int).map V.int)) nnA)
      have nAd : nA ≠ d := (hd2.same s14).ne nnA
      exact ⟨x, nA, d', ys ++ [99999], rfl, hd2.same s5, hW2.same s5, fun H'' kk => hstab H'' ((Kp.of s5).trans kk), by rw [upd_same, List.map_append], by simp, nAd⟩
    obtain ⟨g, nmA, d', nm, rfl, hdb, hWb, SG, hnm, hnm0, hnmd⟩ := hM
    clear hd1 hB hW hBk H1
    -- told
    refine ⟨fun σ' H1 => ∃ told : Addr, σ' = [some (.ref q), some (.ref d), some (.int (0 + (i : Int))), some (.int e), some (.ref db), some (.ref dw), some (.ref g), some (.ref nmA), some (.ref told), v9, v10, v11, v12, v13, v14, v15, v16] ∧ Same Hb H1 ∧
        ((∃ dx, H1 told = some (.ins cP dx []) ∧ ∀ u v, ¬ Bad (nx W) (line W e) e u v) ∨ ∃ r o t, (∀ H'', Kp d H1 H'' → TwistAt cT H'' told r o t) ∧ Shows (ks W) (nx W) e r o t ∧ r.length ≤ 9 ∧ o.length ≤ 9 ∧ t.length ≤ 9 ∧ ∃ u v, Bad (nx W) (line W e) e u v), ?_, fun σ' H1 hM => ?_⟩
    · exact ⟨.ref g, rfl, g, e, d', W, rfl, SG Hb (Kp.refl d Hb), G, fun H' p dx s1 hp hn => ⟨p, rfl, s1, .inl ⟨dx, hp, hn⟩⟩, fun H' p r o t s1 _ st hs l1 l2 l3 hb => ⟨p, rfl, s1, .inr ⟨r, o, t, fun H'' kk => st d H'' hdb.there kk, hs, l1, l2, l3, hb⟩⟩⟩
    obtain ⟨told, rfl, s1, htold⟩ := hM
    have hd1 := hdb.same s1
    -- the judgement holds
    refine ⟨fun σ' H2 => ∃ (pa p1 p2 p3 : Addr), σ' = [some (.ref q), some (.ref d), some (.int (0 + (i : Int))), some (.int e), some (.ref db), some (.ref dw), some (.ref g), some (.ref nmA), some (.ref told), some (.ref pa), v10, v11, v12, v13, v14, v15, v16] ∧ Same Hb H2 ∧
        H2 pa = some (.tup [.ref p1, .ref p2, .ref p3]) ∧ LI d H2 p1 9 ∧ LI d H2 p2 9 ∧ LI d H2 p3 9, ?_, fun σ' H2 hM => ?_⟩
    · refine ⟨.ref dw, rfl, .int e, rfl, e, dw, W, rfl, (hWb.same s1).at, G, fun b H2 s2 hb => ⟨b, rfl, ?_⟩⟩
      have s12 := s1.trans s2
      have hd2 := hd1.same s2
      have mk : ∀ {H' : Hp} {C x dx : Addr}, H' x = none → H' dx = none → dx ≠ x → Same H' (upd (upd H' dx (.own x)) x (.ins C dx [])) := fun nx' ndx ne' => (same_upd ndx).trans (same_upd (by rw [upd_ne ne'.symm]; exact nx'))
      cases b with
      | true =>
        refine iteT ?_
        have hno := plain_bad.mp (hb.mp rfl)
        obtain ⟨dx0, ht, _⟩ : ∃ dx, H1 told = some (.ins cP dx []) ∧ ∀ u v, ¬ Bad (nx W) (line W e) e u v := by
          rcases htold with h | ⟨r, o, t, _, _, _, _, _, u, v, hbad⟩
          · exact h
          · exact absurd hbad (hno u v)
        have ht2 := s2 _ _ ht
        refine ⟨.ref told, rfl, fun x dx nx' ndx ne' => ?_⟩
        have sA := mk (C := cP) nx' ndx ne'
        have hx : (upd (upd H2 dx (.own x)) x (.ins cP dx [])) x = some (.ins cP dx []) := upd_same
        generalize upd (upd H2 dx (.own x)) x (.ins cP dx []) = H3 at sA hx
        have s3 := s12.trans sA
        refine ⟨told, x, dx0, [], dx, [], rfl, rfl, sA _ _ ht2, hx, told, x, dx, [], rfl, hx, true, rfl, _, rfl, ite_no rfl ?_⟩
        refine ⟨.ref told, rfl, .ref told, .ref cP, .ref cP, .ref cP, true, rfl, .own cP, T.p.ty (sA _ _ ht2), T.pp, true, rfl, ite_no rfl ?_⟩
        refine fun x2 dx2 nx2 ndx2 ne2 => ?_
        have sB := mk (C := cP) nx2 ndx2 ne2
        have hx2 : (upd (upd H3 dx2 (.own x2)) x2 (.ins cP dx2 [])) x2 = some (.ins cP dx2 []) := upd_same
        generalize upd (upd H3 dx2 (.own x2)) x2 (.ins cP dx2 []) = H4 at sB hx2
        have s4 := s3.trans sB
        refine ⟨x2, dx2, [], rfl, hx2, rfl, .ref g, rfl, x2, g, e, d', W, rfl, SG H4 (Kp.of s4), G, fun b3 H5 s5 hb3 => ?_⟩
        obtain rfl : b3 = true := hb3.mpr hno
        refine ⟨true, true, rfl, rfl, _, rfl, ite_no rfl ?_⟩
        have s5 := s4.trans s5
        have hd5 := hdb.same s5
        refine ⟨.int e, rfl, by show 1 ≤ sizeLine; decide, fun l1 n1 => ⟨.int e, rfl, by show 1 ≤ sizeLine; decide, fun l2 n2 => ⟨.int e, rfl, by show 1 ≤ sizeLine; decide, fun l3 n3 => ⟨by show 3 ≤ sizeLine; decide, fun pa npa => ?_⟩⟩⟩⟩
        have t1 := same_upd (o := .lst [V.int e]) n1
        have t2 := same_upd (o := .lst [V.int e]) n2
        have t3 := same_upd (o := .lst [V.int e]) n3
        have t4 := same_upd (o := .tup [V.ref l1, .ref l2, .ref l3]) npa
        have m1 : l1 ≠ d := hd5.ne n1
        have m2 : l2 ≠ d := (hd5.same t1).ne n2
        have m3 : l3 ≠ d := ((hd5.same t1).same t2).ne n3
        exact ⟨pa, l1, l2, l3, rfl, s5.trans (t1.trans (t2.trans (t3.trans t4))), upd_same, ⟨[e], t4 _ _ (t3 _ _ (t2 _ _ upd_same)), by show 1 ≤ 9; decide, m1⟩, ⟨[e], t4 _ _ (t3 _ _ upd_same), by show 1 ≤ 9; decide, m2⟩, ⟨[e], t4 _ _ upd_same, by show 1 ≤ 9; decide, m3⟩⟩
      | false =>
        refine iteF ?_
        obtain ⟨r, o, t, st, hshow, lr, lo, lt, u, v, hbad⟩ : ∃ r o t, (∀ H'', Kp d H1 H'' → TwistAt cT H'' told r o t) ∧ Shows (ks W) (nx W) e r o t ∧ r.length ≤ 9 ∧ o.length ≤ 9 ∧ t.length ≤ 9 ∧ ∃ u v, Bad (nx W) (line W e) e u v := by
          rcases htold with ⟨dx, _, hn⟩ | h
          · exact Bool.noConfusion (hb.mpr (plain_bad.mpr hn))
          · exact h
        obtain ⟨tx, ts, dr, d1, d2, hp, fR, f1, f2, fN, hr', h1, h2, nr, n1, n2⟩ := twist_lists hd2 (fun H'' kk => st H'' ((Kp.of s2).trans kk))
        refine ⟨.ref told, rfl, .ref told, .ref cT, .ref cT, .ref cT, true, rfl, .own cT, T.t.ty hp, T.tt, true, rfl, ite_no rfl ?_⟩
        refine ⟨.ref told, rfl, told, tx, ts, rfl, hp, fN.2, .ref g, rfl, told, g, e, d', W, r, o, t, rfl, st H2 (Kp.of s2), SG H2 (Kp.of s12), G, by omega, by omega, by omega, fun b3 H3 s3 hb3 => ?_⟩
        obtain rfl : b3 = true := hb3.mpr hshow
        refine ⟨true, true, rfl, rfl, _, rfl, ite_no rfl ?_⟩
        have s13 := s12.trans s3
        refine fun x2 dx2 nx2 ndx2 ne2 => ?_
        have sB := mk (C := cP) nx2 ndx2 ne2
        have hx2 : (upd (upd H3 dx2 (.own x2)) x2 (.ins cP dx2 [])) x2 = some (.ins cP dx2 []) := upd_same
        generalize upd (upd H3 dx2 (.own x2)) x2 (.ins cP dx2 []) = H4 at sB hx2
        have s4 := s13.trans sB
        refine ⟨x2, dx2, [], rfl, hx2, rfl, .ref g, rfl, x2, g, e, d', W, rfl, SG H4 (Kp.of s4), G, fun b5 H5 s5 hb5 => ?_⟩
        obtain rfl : b5 = false := by
          cases b5 with
          | false => rfl
          | true => exact absurd hbad (hb5.mp rfl u v)
        refine ⟨false, false, rfl, rfl, _, rfl, ite_no rfl ?_⟩
        have u5 := s3.trans (sB.trans s5)
        have s6 := s4.trans s5
        refine ⟨.ref told, rfl, told, cT, tx, ts, .ref dr, rfl, u5 _ _ hp, T.t.cl, T.nR, fR, .ref told, rfl, told, cT, tx, ts, .ref d1, rfl, u5 _ _ hp, T.t.cl, T.n1, f1, .ref told, rfl, told, cT, tx, ts, .ref d2, rfl, u5 _ _ hp, T.t.cl, T.n2, f2, by show 3 ≤ sizeLine; decide, fun pa npa => ?_⟩
        have tp := same_upd (o := .tup [V.ref dr, .ref d1, .ref d2]) npa
        have u6 := u5.trans tp
        have s7 := s6.trans tp
        have hpa : (upd H5 pa (.tup [V.ref dr, .ref d1, .ref d2])) pa = some (.tup [V.ref dr, .ref d1, .ref d2]) := upd_same
        generalize upd H5 pa (.tup [V.ref dr, .ref d1, .ref d2]) = H6 at u6 s7 hpa
        refine ⟨.ref dw, rfl, .int e, rfl, .ref told, rfl, told, cT, tx, ts, .ref dr, rfl, u6 _ _ hp, T.t.cl, T.nR, fR, .ref told, rfl, told, cT, tx, ts, .ref d1, rfl, u6 _ _ hp, T.t.cl, T.n1, f1, .ref told, rfl, told, cT, tx, ts, .ref d2, rfl, u6 _ _ hp, T.t.cl, T.n2, f2, dw, dr, d1, d2, e, W, r, o, t, rfl, (hWb.same s7).at, u6 _ _ hr', u6 _ _ h1, u6 _ _ h2, by omega, by omega, by omega, fun b7 H7 s8 hb7 => ?_⟩
        obtain rfl : b7 = true := hb7.mpr hshow
        refine ⟨true, rfl, ite_no rfl ?_⟩
        have u7 := u6.trans s8
        refine ⟨.ref told, rfl, fun x dx nx' ndx ne' => ?_⟩
        have sC := mk (C := cP) nx' ndx ne'
        have hx : (upd (upd H7 dx (.own x)) x (.ins cP dx [])) x = some (.ins cP dx []) := upd_same
        generalize upd (upd H7 dx (.own x)) x (.ins cP dx []) = H8 at sC hx
        have u8 := u7.trans sC
        refine ⟨told, x, tx, ts, dx, [], rfl, rfl, u8 _ _ hp, hx, told, x, dx, [], rfl, hx, false, rfl, _, rfl, ite_no rfl ?_⟩
        exact ⟨pa, dr, d1, d2, rfl, s7.trans (s8.trans sC), sC _ _ (s8 _ _ hpa), ⟨r, u8 _ _ hr', lr, nr⟩, ⟨o, u8 _ _ h1, lo, n1⟩, ⟨t, u8 _ _ h2, lt, n2⟩⟩
    obtain ⟨pa, p1, p2, p3, rfl, s2, hpa, hp1, hp2, hp3⟩ := hM
    clear htold hd1 s1 H1
    have hd2 := hdb.same s2
    refine ⟨8, rfl, rng_lo 8, rng_hi (by decide), for_range (lo := 0) (n := 8) (fun j σ H' => ∃ v10 v11 v12 v13 v14 v15 v16 : Option V, σ = [some (.ref q), some (.ref d), some (.int (0 + (i : Int))), some (.int e), some (.ref db), some (.ref dw), some (.ref g), some (.ref nmA), some (.ref told), some (.ref pa), v10, v11, v12, v13, v14, v15, v16] ∧ BI d Hb pa p1 p2 p3 H')
      ⟨v10, v11, v12, v13, v14, v15, v16, rfl, Kp.of s2, hd2, hpa, hp1, hp2, hp3⟩ (fun j σ H' hj hI => ?_) (fun σ H' hI => ?_)⟩
    · clear hpa hp1 hp2 hp3 hd2 s2 H2
      obtain ⟨v10, v11, v12, v13, v14, v15, v16, rfl, hBI⟩ := hI
      -- ring, one, other
      refine ⟨fun σ' H1 => ∃ a1 a2 a3 : Addr, σ' = [some (.ref q), some (.ref d), some (.int (0 + (i : Int))), some (.int e), some (.ref db), some (.ref dw), some (.ref g), some (.ref nmA), some (.ref told), some (.ref pa), some (.int (0 + (j : Int))), some (.ref a1), some (.ref a2), some (.ref a3), v14, v15, v16] ∧ BI d Hb pa p1 p2 p3 H1 ∧ LI d H1 a1 9 ∧ LI d H1 a2 9 ∧ LI d H1 a3 9, ?_, fun σ' H1 hM => ?_⟩
      · obtain ⟨_, hdI, hpa, ⟨l1, hl1, m1, e1⟩, ⟨l2, hl2, m2, e2⟩, ⟨l3, hl3, m3, e3⟩⟩ := id hBI
        refine ⟨.ref pa, rfl, pa, _, 0, .ref p1, rfl, rfl, .inl (.inl hpa), atI_nat (j := 0) rfl, p1, _, rfl, .inl (.inl (.inl hl1)), fun a1 n1 => ?_⟩
        have t1 := same_upd (o := .lst (l1.map V.int)) n1
        have h1 : (upd H' a1 (.lst (l1.map V.int))) a1 = some (.lst (l1.map V.int)) := upd_same
        have f1 := hdI.ne n1
        generalize upd H' a1 (.lst (l1.map V.int)) = H1 at t1 h1
        refine ⟨.ref pa, rfl, pa, _, 1, .ref p2, rfl, rfl, .inl (.inl (t1 _ _ hpa)), atI_nat (j := 1) rfl, p2, _, rfl, .inl (.inl (.inl (t1 _ _ hl2))), fun a2 n2 => ?_⟩
        have t2 := same_upd (o := .lst (l2.map V.int)) n2
        have h2 : (upd H1 a2 (.lst (l2.map V.int))) a2 = some (.lst (l2.map V.int)) := upd_same
        have f2 := (hdI.same t1).ne n2
        have t12 := t1.trans t2
        have h1' := t2 _ _ h1
        generalize upd H1 a2 (.lst (l2.map V.int)) = H2 at t12 h2 h1'
        refine ⟨.ref pa, rfl, pa, _, 2, .ref p3, rfl, rfl, .inl (.inl (t12 _ _ hpa)), atI_nat (j := 2) rfl, p3, _, rfl, .inl (.inl (.inl (t12 _ _ hl3))), fun a3 n3 => ⟨_, _, _, rfl, ?_⟩⟩
        have t3 := same_upd (o := .lst (l3.map V.int)) n3
        have f3 := (hdI.same t12).ne n3
        exact ⟨a1, a2, a3, rfl, hBI.same (t12.trans t3), ⟨l1, t3 _ _ h1', m1, f1⟩, ⟨l2, t3 _ _ h2, m2, f2⟩, ⟨l3, upd_same, m3, f3⟩⟩
      obtain ⟨a1, a2, a3, rfl, hB1, L1, L2, L3⟩ := hM
      clear hBI H'
      -- kind
      refine ⟨fun σ' H2 => ∃ z : Int, σ' = [some (.ref q), some (.ref d), some (.int (0 + (i : Int))), some (.int e), some (.ref db), some (.ref dw), some (.ref g), some (.ref nmA), some (.ref told), some (.ref pa), some (.int (0 + (j : Int))), some (.ref a1), some (.ref a2), some (.ref a3), some (.int z), v15, v16] ∧ BI d Hb pa p1 p2 p3 H2 ∧ LI d H2 a1 9 ∧ LI d H2 a2 9 ∧ LI d H2 a3 9, ?_, fun σ' H2 hM => ?_⟩
      · exact ⟨.ref d, rfl, d, 4, rfl, by decide, hB1.2.1, fun z H2 k2 hd2 _ _ => ⟨z, rfl, hB1.kp k2 hd2, L1.kp k2, L2.kp k2, L3.kp k2⟩⟩
      obtain ⟨z, rfl, hB2, L1, L2, L3⟩ := hM
      -- ring
      refine ⟨fun σ' H3 => ∃ b1 : Addr, σ' = [some (.ref q), some (.ref d), some (.int (0 + (i : Int))), some (.int e), some (.ref db), some (.ref dw), some (.ref g), some (.ref nmA), some (.ref told), some (.ref pa), some (.int (0 + (j : Int))), some (.ref b1), some (.ref a2), some (.ref a3), some (.int z), v15, v16] ∧ BI d Hb pa p1 p2 p3 H3 ∧ LI d H3 b1 10 ∧ LI d H3 a2 9 ∧ LI d H3 a3 9, ?_, fun σ' H3 hM => ?_⟩
      · refine ⟨.int z, rfl, by show 2 ≤ sizeLine; decide, fun T2 nT => ?_⟩
        have tT := same_upd (o := .tup [V.int 0, .int 3]) nT
        have hT : (upd H2 T2 (.tup [V.int 0, .int 3])) T2 = some (.tup [V.int 0, .int 3]) := upd_same
        have hB3 := hB2.same tT
        have L1 := L1.kp (Kp.of tT)
        have L2 := L2.kp (Kp.of tT)
        have L3 := L3.kp (Kp.of tT)
        generalize upd H2 T2 (.tup [V.int 0, .int 3]) = H3 at hT hB3 L1 L2 L3
        refine ⟨T2, _, rfl, .inr (.inl (.inl hT)), rfl, rfl, _, rfl, ite_both ?_ ?_⟩
        · obtain ⟨l1, hl1, m1, e1⟩ := L1
          exact ⟨.ref d, rfl, .ref a1, rfl, .ref nmA, rfl, d, a1, nmA, l1, nm, rfl, hB3.2.1, hl1, e1, hB3.1 _ _ hnm hnmd, hnmd, hnm0, m1, fun p H4 k4 hd4 hNL hpd => ⟨p, rfl, hB3.kp k4 hd4, by obtain ⟨_, l, y1, y2⟩ := hNL; exact ⟨l, y1, y2, hpd⟩, L2.kp k4, L3.kp k4⟩⟩
        · exact ⟨.ref a1, rfl, a1, rfl, hB3, L1.mono (by decide), L2, L3⟩
      obtain ⟨b1, rfl, hB3, L1, L2, L3⟩ := hM
      -- one
      refine ⟨fun σ' H4 => ∃ b2 : Addr, σ' = [some (.ref q), some (.ref d), some (.int (0 + (i : Int))), some (.int e), some (.ref db), some (.ref dw), some (.ref g), some (.ref nmA), some (.ref told), some (.ref pa), some (.int (0 + (j : Int))), some (.ref b1), some (.ref b2), some (.ref a3), some (.int z), v15, v16] ∧ BI d Hb pa p1 p2 p3 H4 ∧ LI d H4 b1 10 ∧ LI d H4 b2 10 ∧ LI d H4 a3 9, ?_, fun σ' H4 hM => ?_⟩
      · refine ⟨.int z, rfl, by show 2 ≤ sizeLine; decide, fun T2 nT => ?_⟩
        have tT := same_upd (o := .tup [V.int 1, .int 3]) nT
        have hT : (upd H3 T2 (.tup [V.int 1, .int 3])) T2 = some (.tup [V.int 1, .int 3]) := upd_same
        have hB4 := hB3.same tT
        have L1 := L1.kp (Kp.of tT)
        have L2 := L2.kp (Kp.of tT)
        have L3 := L3.kp (Kp.of tT)
        generalize upd H3 T2 (.tup [V.int 1, .int 3]) = H4 at hT hB4 L1 L2 L3
        refine ⟨T2, _, rfl, .inr (.inl (.inl hT)), rfl, rfl, _, rfl, ite_both ?_ ?_⟩
        · obtain ⟨l2, hl2, m2, e2⟩ := L2
          exact ⟨.ref d, rfl, .ref a2, rfl, .ref nmA, rfl, d, a2, nmA, l2, nm, rfl, hB4.2.1, hl2, e2, hB4.1 _ _ hnm hnmd, hnmd, hnm0, m2, fun p H5 k5 hd5 hNL hpd => ⟨p, rfl, hB4.kp k5 hd5, L1.kp k5, by obtain ⟨_, l, y1, y2⟩ := hNL; exact ⟨l, y1, y2, hpd⟩, L3.kp k5⟩⟩
        · exact ⟨.ref a2, rfl, a2, rfl, hB4, L1, L2.mono (by decide), L3⟩
      obtain ⟨b2, rfl, hB4, L1, L2, L3⟩ := hM
      -- other
      refine ⟨fun σ' H5 => ∃ b3 : Addr, σ' = [some (.ref q), some (.ref d), some (.int (0 + (i : Int))), some (.int e), some (.ref db), some (.ref dw), some (.ref g), some (.ref nmA), some (.ref told), some (.ref pa), some (.int (0 + (j : Int))), some (.ref b1), some (.ref b2), some (.ref b3), some (.int z), v15, v16] ∧ BI d Hb pa p1 p2 p3 H5 ∧ LI d H5 b1 10 ∧ LI d H5 b2 10 ∧ LI d H5 b3 10, ?_, fun σ' H5 hM => ?_⟩
      · refine ⟨.int z, rfl, rfl, _, rfl, ite_both ?_ ?_⟩
        · obtain ⟨l3, hl3, m3, e3⟩ := L3
          exact ⟨.ref d, rfl, .ref a3, rfl, .ref nmA, rfl, d, a3, nmA, l3, nm, rfl, hB4.2.1, hl3, e3, hB4.1 _ _ hnm hnmd, hnmd, hnm0, m3, fun p H5 k5 hd5 hNL hpd => ⟨p, rfl, hB4.kp k5 hd5, L1.kp k5, L2.kp k5, by obtain ⟨_, l, y1, y2⟩ := hNL; exact ⟨l, y1, y2, hpd⟩⟩⟩
        · exact ⟨.ref a3, rfl, a3, rfl, hB4, L1, L2, L3.mono (by decide)⟩
      obtain ⟨b3, rfl, hB5, L1, L2, L3⟩ := hM
      obtain ⟨r, hr1, mr, er⟩ := id L1
      obtain ⟨o, ho1, mo, eo⟩ := id L2
      obtain ⟨t, ht1, mt, et⟩ := id L3
      -- handed
      refine ⟨.ref b1, rfl, b1, _, rfl, .inl (.inl (.inl hr1)), fun h nh => ?_⟩
      have s6 := same_upd (o := .lst (r.map V.int)) nh
      have hh6 : (upd H5 h (.lst (r.map V.int))) h = some (.lst (r.map V.int)) := upd_same
      generalize upd H5 h (.lst (r.map V.int)) = H6 at s6 hh6
      -- made
      refine ⟨.ref h, rfl, .ref b2, rfl, .ref b3, rfl, fun x dx nx' ndx ne' => ?_⟩
      have sA : Same H6 (upd (upd H6 dx (.own x)) x (.ins cT dx [])) := (same_upd ndx).trans (same_upd (by rw [upd_ne ne'.symm]; exact nx'))
      refine ⟨x, dx, h, b2, b3, r, o, t, rfl, upd_same, .inl (.inl (sA _ _ hh6)), .inl (.inl (sA _ _ (s6 _ _ ho1))), .inl (.inl (sA _ _ (s6 _ _ ht1))), fun H7 _ _ keep st _ => ⟨rfl, ?_⟩⟩
      have s67 : Same H6 H7 := fun b o hb => keep _ _ (sA _ _ hb) (ne_of_none hb nx')
      have hh7 := s67 _ _ hh6
      have hhx : h ≠ x := ne_of_none hh6 nx'
      -- handed.append(5)
      refine ⟨.ref h, rfl, .inl ⟨rfl, _, .inl (.inl hh7)⟩, h, _, .int 5, rfl, rfl, hh7, by rw [List.length_map]; exact small9 (by omega), ?_⟩
      have k8 : Kp d H5 (upd H7 h (.lst (r.map V.int ++ [.int 5]))) := (Kp.of (s6.trans s67)).fresh nh
      have hhd : h ≠ d := hB5.2.1.ne nh
      have hd8 : DrawsAt (upd H7 h (.lst (r.map V.int ++ [.int 5]))) d := (hB5.2.1.same (s6.trans s67)).upd hhd
      have tw8 : TwistAt cT (upd H7 h (.lst (r.map V.int ++ [.int 5]))) x r o t := st h _ hhx (by rw [sA _ _ hh6]; exact fun z => by cases z) (fun b o hb hn => by rw [upd_ne hn]; exact hb)
      generalize upd H7 h (.lst (r.map V.int ++ [.int 5])) = H8 at k8 hd8 tw8
      have hB8 := hB5.kp k8 hd8
      have hr8 := k8 _ _ hr1 er
      have ho8 := k8 _ _ ho1 eo
      have ht8 := k8 _ _ ht1 et
      obtain ⟨fx, fs, dr, d1, d2, hx, fR, f1, f2, fN, hdr, hd1, hd2⟩ := id tw8
      refine ⟨.ref x, rfl, x, fx, fs, rfl, hx, fN.2, .ref g, rfl, x, g, e, d', W, r, o, t, rfl, tw8, SG H8 hB8.1, G, by omega, by omega, by omega, fun c1 H9 s9 hc1 => ?_⟩
      refine ⟨.ref dw, rfl, .int e, rfl, .ref b1, rfl, .ref b2, rfl, .ref b3, rfl, dw, b1, b2, b3, e, W, r, o, t, rfl, ((hWb.kp hB8.1 hdb).same s9).at, s9 _ _ hr8, s9 _ _ ho8, s9 _ _ ht8, by omega, by omega, by omega, fun c2 H10 s10 hc2 => ?_⟩
      have hcc : c1 = c2 := by rw [Bool.eq_iff_iff, hc1, hc2]
      subst hcc
      refine ⟨rfl, _, rfl, iteN (fun z => absurd rfl z) (fun _ => ?_)⟩
      have s810 := s9.trans s10
      refine ⟨.ref x, rfl, x, cT, fx, fs, .ref dr, rfl, s810 _ _ hx, T.t.cl, T.nR, fR, .ref b1, rfl, dr, b1, r, r, rfl, rfl, .inl (.inl (s810 _ _ hdr)), .inl (.inl (s810 _ _ hr8)), _, rfl, iteN (fun z => absurd rfl z) (fun _ => ?_)⟩
      exact ⟨_, _, _, _, _, _, _, rfl, hB8.same s810⟩
    · obtain ⟨v10, v11, v12, v13, v14, v15, v16, rfl, hBI⟩ := hI
      exact ⟨_, _, _, _, _, _, _, _, _, _, _, _, _, _, _, rfl, hBI.2.1⟩
end
end BT
namespace BT
open PySem PySem.Spec PyProof.Rows L2
section
variable {K : PySem.W.Frag} {mg : Str → Option Value} {h : Heap}
theorem df_mk {x : Str} {st : Stmt} {ps : List Str} {f : Addr} {oc : Value} {od an : Option Addr} {osl : Array (Option Value)} {kV doc pm cdv ct : Value} (X : K.In h) (G : h.Ns mainGlobals mg) (a : PySem.W.nsIn K mainGlobals x = some (some (.ref f)))
    (l : K.lookup f = some ⟨oc, od, .func (PySem.W.fnOf x x (defArgs st) (defBody st) (defScope st) .none kV doc pm an cdv ct), osl⟩) (c : PySem.W.codeIn K cdv x = true) (k : PySem.W.keepIn K (.ref f) = true)
    (hb : ∀ (kV doc pm : Value) (an : Option Addr) (cdv ct : Value) (us : List Value), us.length = ps.length → bindArgs (PySem.W.fnOf x x (defArgs st) (defBody st) (defScope st) .none kV doc pm an cdv ct) ⟨us, []⟩ = pure (ps.zip us)) : Df K mg x st ps :=
  ⟨⟨f, _, fun_mk l c k, PySem.W.mg_of X G a, (fun_mk l c k).binds hb⟩⟩
theorem mf_mk {C : Addr} {m qual : Str} {st : Stmt} {ps : List Str} {f : Addr} {oc : Value} {od an : Option Addr} {osl : Array (Option Value)} {kV doc pm cdv ct : Value} (cl : Cls K C) (a : PySem.W.findIn K (.ref C) m = some (some (.ref f))) (i : PySem.W.isFn K (.ref f) = true)
    (l : K.lookup f = some ⟨oc, od, .func (PySem.W.fnOf m qual (defArgs st) (defBody st) (defScope st) .none kV doc pm an cdv ct), osl⟩) (c : PySem.W.codeIn K cdv qual = true) (k : PySem.W.keepIn K (.ref f) = true)
    (hb : ∀ (kV doc pm : Value) (an : Option Addr) (cdv ct : Value) (us : List Value), us.length = ps.length → bindArgs (PySem.W.fnOf m qual (defArgs st) (defBody st) (defScope st) .none kV doc pm an cdv ct) ⟨us, []⟩ = pure (ps.zip us)) : Mf K C m qual st ps :=
  ⟨⟨f, _, cl, ⟨a, i, k⟩, fun_mk l c k, (fun_mk l c k).binds hb⟩⟩
theorem if_mk {x : Str} {C : Addr} {qual : Str} {st : Stmt} {ps : List Str} {f : Addr} {oc : Value} {od an : Option Addr} {osl : Array (Option Value)} {kV doc pm cdv ct : Value} (hm : mg x = some (.ref C)) (mk : PySem.W.makesIn K C = true) (kc : PySem.W.keepIn K (.ref C) = true) (a : PySem.W.findIn K (.ref C) "__init__" = some (some (.ref f))) (i : PySem.W.isFn K (.ref f) = true)
    (l : K.lookup f = some ⟨oc, od, .func (PySem.W.fnOf "__init__" qual (defArgs st) (defBody st) (defScope st) .none kV doc pm an cdv ct), osl⟩) (c : PySem.W.codeIn K cdv qual = true) (k : PySem.W.keepIn K (.ref f) = true)
    (hb : ∀ (kV doc pm : Value) (an : Option Addr) (cdv ct : Value) (us : List Value), us.length = ps.length → bindArgs (PySem.W.fnOf "__init__" qual (defArgs st) (defBody st) (defScope st) .none kV doc pm an cdv ct) ⟨us, []⟩ = pure (ps.zip us)) : If K mg x C qual st ps :=
  ⟨⟨f, _, ⟨mk, a, i, kc⟩, fun_mk l c k, hm, (fun_mk l c k).binds hb⟩⟩
end
section
variable {K : PySem.W.Frag} {mg : Str → Option Value} {h : Heap} {C : Addr}
theorem mk_d0 {f : Addr} {oc : Value} {od an : Option Addr} {osl : Array (Option Value)} {kV doc pm cdv ct : Value} (X : K.In h) (G : h.Ns mainGlobals mg) (a : PySem.W.nsIn K mainGlobals "order_by" = some (some (.ref f))) (l : K.lookup f = some ⟨oc, od, .func (PySem.W.fnOf "order_by" "order_by" (defArgs sOrder) (defBody sOrder) (defScope sOrder) .none kV doc pm an cdv ct), osl⟩) (c : PySem.W.codeIn K cdv "order_by" = true) (k : PySem.W.keepIn K (.ref f) = true) : Df K mg "order_by" sOrder ["entry", "ways"] :=
  df_mk X G a l c k fun _ _ _ _ _ _ us hl => match us, hl with | [_, _], _ => rfl
theorem mk_d1 {f : Addr} {oc : Value} {od an : Option Addr} {osl : Array (Option Value)} {kV doc pm cdv ct : Value} (X : K.In h) (G : h.Ns mainGlobals mg) (a : PySem.W.nsIn K mainGlobals "froms_of" = some (some (.ref f))) (l : K.lookup f = some ⟨oc, od, .func (PySem.W.fnOf "froms_of" "froms_of" (defArgs sFroms) (defBody sFroms) (defScope sFroms) .none kV doc pm an cdv ct), osl⟩) (c : PySem.W.codeIn K cdv "froms_of" = true) (k : PySem.W.keepIn K (.ref f) = true) : Df K mg "froms_of" sFroms ["ways"] :=
  df_mk X G a l c k fun _ _ _ _ _ _ us hl => match us, hl with | [_], _ => rfl
theorem mk_d2 {f : Addr} {oc : Value} {od an : Option Addr} {osl : Array (Option Value)} {kV doc pm cdv ct : Value} (X : K.In h) (G : h.Ns mainGlobals mg) (a : PySem.W.nsIn K mainGlobals "meet_of" = some (some (.ref f))) (l : K.lookup f = some ⟨oc, od, .func (PySem.W.fnOf "meet_of" "meet_of" (defArgs sMeet) (defBody sMeet) (defScope sMeet) .none kV doc pm an cdv ct), osl⟩) (c : PySem.W.codeIn K cdv "meet_of" = true) (k : PySem.W.keepIn K (.ref f) = true) : Df K mg "meet_of" sMeet ["one", "other", "nearest", "places"] :=
  df_mk X G a l c k fun _ _ _ _ _ _ us hl => match us, hl with | [_, _, _, _], _ => rfl
theorem mk_d3 {f : Addr} {oc : Value} {od an : Option Addr} {osl : Array (Option Value)} {kV doc pm cdv ct : Value} (X : K.In h) (G : h.Ns mainGlobals mg) (a : PySem.W.nsIn K mainGlobals "above_by" = some (some (.ref f))) (l : K.lookup f = some ⟨oc, od, .func (PySem.W.fnOf "above_by" "above_by" (defArgs sNear) (defBody sNear) (defScope sNear) .none kV doc pm an cdv ct), osl⟩) (c : PySem.W.codeIn K cdv "above_by" = true) (k : PySem.W.keepIn K (.ref f) = true) : Df K mg "above_by" sNear ["entry", "ways"] :=
  df_mk X G a l c k fun _ _ _ _ _ _ us hl => match us, hl with | [_, _], _ => rfl
theorem mk_d4 {f : Addr} {oc : Value} {od an : Option Addr} {osl : Array (Option Value)} {kV doc pm cdv ct : Value} (X : K.In h) (G : h.Ns mainGlobals mg) (a : PySem.W.nsIn K mainGlobals "is_above" = some (some (.ref f))) (l : K.lookup f = some ⟨oc, od, .func (PySem.W.fnOf "is_above" "is_above" (defArgs sAbove) (defBody sAbove) (defScope sAbove) .none kV doc pm an cdv ct), osl⟩) (c : PySem.W.codeIn K cdv "is_above" = true) (k : PySem.W.keepIn K (.ref f) = true) : Df K mg "is_above" sAbove ["one", "other", "nearest"] :=
  df_mk X G a l c k fun _ _ _ _ _ _ us hl => match us, hl with | [_, _, _], _ => rfl
theorem mk_d5 {f : Addr} {oc : Value} {od an : Option Addr} {osl : Array (Option Value)} {kV doc pm cdv ct : Value} (X : K.In h) (G : h.Ns mainGlobals mg) (a : PySem.W.nsIn K mainGlobals "backward" = some (some (.ref f))) (l : K.lookup f = some ⟨oc, od, .func (PySem.W.fnOf "backward" "backward" (defArgs sBack) (defBody sBack) (defScope sBack) .none kV doc pm an cdv ct), osl⟩) (c : PySem.W.codeIn K cdv "backward" = true) (k : PySem.W.keepIn K (.ref f) = true) : Df K mg "backward" sBack ["entry", "ways"] :=
  df_mk X G a l c k fun _ _ _ _ _ _ us hl => match us, hl with | [_, _], _ => rfl
theorem mk_d6 {f : Addr} {oc : Value} {od an : Option Addr} {osl : Array (Option Value)} {kV doc pm cdv ct : Value} (X : K.In h) (G : h.Ns mainGlobals mg) (a : PySem.W.nsIn K mainGlobals "is_graph" = some (some (.ref f))) (l : K.lookup f = some ⟨oc, od, .func (PySem.W.fnOf "is_graph" "is_graph" (defArgs sIsGr) (defBody sIsGr) (defScope sIsGr) .none kV doc pm an cdv ct), osl⟩) (c : PySem.W.codeIn K cdv "is_graph" = true) (k : PySem.W.keepIn K (.ref f) = true) : Df K mg "is_graph" sIsGr ["thing"] :=
  df_mk X G a l c k fun _ _ _ _ _ _ us hl => match us, hl with | [_], _ => rfl
theorem mk_d7 {f : Addr} {oc : Value} {od an : Option Addr} {osl : Array (Option Value)} {kV doc pm cdv ct : Value} (X : K.In h) (G : h.Ns mainGlobals mg) (a : PySem.W.nsIn K mainGlobals "check_graph" = some (some (.ref f))) (l : K.lookup f = some ⟨oc, od, .func (PySem.W.fnOf "check_graph" "check_graph" (defArgs sCheck) (defBody sCheck) (defScope sCheck) .none kV doc pm an cdv ct), osl⟩) (c : PySem.W.codeIn K cdv "check_graph" = true) (k : PySem.W.keepIn K (.ref f) = true) : Df K mg "check_graph" sCheck ["thing"] :=
  df_mk X G a l c k fun _ _ _ _ _ _ us hl => match us, hl with | [_], _ => rfl
theorem mk_d8 {f : Addr} {oc : Value} {od an : Option Addr} {osl : Array (Option Value)} {kV doc pm cdv ct : Value} (X : K.In h) (G : h.Ns mainGlobals mg) (a : PySem.W.nsIn K mainGlobals "is_way" = some (some (.ref f))) (l : K.lookup f = some ⟨oc, od, .func (PySem.W.fnOf "is_way" "is_way" (defArgs sWay) (defBody sWay) (defScope sWay) .none kV doc pm an cdv ct), osl⟩) (c : PySem.W.codeIn K cdv "is_way" = true) (k : PySem.W.keepIn K (.ref f) = true) : Df K mg "is_way" sWay ["graph", "blocks"] :=
  df_mk X G a l c k fun _ _ _ _ _ _ us hl => match us, hl with | [_, _], _ => rfl
theorem mk_d9 {f : Addr} {oc : Value} {od an : Option Addr} {osl : Array (Option Value)} {kV doc pm cdv ct : Value} (X : K.In h) (G : h.Ns mainGlobals mg) (a : PySem.W.nsIn K mainGlobals "twisted" = some (some (.ref f))) (l : K.lookup f = some ⟨oc, od, .func (PySem.W.fnOf "twisted" "twisted" (defArgs sTwisted) (defBody sTwisted) (defScope sTwisted) .none kV doc pm an cdv ct), osl⟩) (c : PySem.W.codeIn K cdv "twisted" = true) (k : PySem.W.keepIn K (.ref f) = true) : Df K mg "twisted" sTwisted ["graph"] :=
  df_mk X G a l c k fun _ _ _ _ _ _ us hl => match us, hl with | [_], _ => rfl
theorem mk_d10 {f : Addr} {oc : Value} {od an : Option Addr} {osl : Array (Option Value)} {kV doc pm cdv ct : Value} (X : K.In h) (G : h.Ns mainGlobals mg) (a : PySem.W.nsIn K mainGlobals "way_to" = some (some (.ref f))) (l : K.lookup f = some ⟨oc, od, .func (PySem.W.fnOf "way_to" "way_to" (defArgs sWayTo) (defBody sWayTo) (defScope sWayTo) .none kV doc pm an cdv ct), osl⟩) (c : PySem.W.codeIn K cdv "way_to" = true) (k : PySem.W.keepIn K (.ref f) = true) : Df K mg "way_to" sWayTo ["ways", "begin", "ends", "barred"] :=
  df_mk X G a l c k fun _ _ _ _ _ _ us hl => match us, hl with | [_, _, _, _], _ => rfl
theorem mk_d11 {f : Addr} {oc : Value} {od an : Option Addr} {osl : Array (Option Value)} {kV doc pm cdv ct : Value} (X : K.In h) (G : h.Ns mainGlobals mg) (a : PySem.W.nsIn K mainGlobals "first_part" = some (some (.ref f))) (l : K.lookup f = some ⟨oc, od, .func (PySem.W.fnOf "first_part" "first_part" (defArgs sFirst) (defBody sFirst) (defScope sFirst) .none kV doc pm an cdv ct), osl⟩) (c : PySem.W.codeIn K cdv "first_part" = true) (k : PySem.W.keepIn K (.ref f) = true) : Df K mg "first_part" sFirst ["way", "ring"] :=
  df_mk X G a l c k fun _ _ _ _ _ _ us hl => match us, hl with | [_, _], _ => rfl
theorem mk_d12 {f : Addr} {oc : Value} {od an : Option Addr} {osl : Array (Option Value)} {kV doc pm cdv ct : Value} (X : K.In h) (G : h.Ns mainGlobals mg) (a : PySem.W.nsIn K mainGlobals "judged" = some (some (.ref f))) (l : K.lookup f = some ⟨oc, od, .func (PySem.W.fnOf "judged" "judged" (defArgs sJudged) (defBody sJudged) (defScope sJudged) .none kV doc pm an cdv ct), osl⟩) (c : PySem.W.codeIn K cdv "judged" = true) (k : PySem.W.keepIn K (.ref f) = true) : Df K mg "judged" sJudged ["graph"] :=
  df_mk X G a l c k fun _ _ _ _ _ _ us hl => match us, hl with | [_], _ => rfl
theorem mk_d13 {f : Addr} {oc : Value} {od an : Option Addr} {osl : Array (Option Value)} {kV doc pm cdv ct : Value} (X : K.In h) (G : h.Ns mainGlobals mg) (a : PySem.W.nsIn K mainGlobals "_law_draw" = some (some (.ref f))) (l : K.lookup f = some ⟨oc, od, .func (PySem.W.fnOf "_law_draw" "_law_draw" (defArgs sDraw) (defBody sDraw) (defScope sDraw) .none kV doc pm an cdv ct), osl⟩) (c : PySem.W.codeIn K cdv "_law_draw" = true) (k : PySem.W.keepIn K (.ref f) = true) : Df K mg "_law_draw" sDraw ["_law_cell", "_law_k", "_law_many"] :=
  df_mk X G a l c k fun _ _ _ _ _ _ us hl => match us, hl with | [_, _, _], _ => rfl
theorem mk_d14 {f : Addr} {oc : Value} {od an : Option Addr} {osl : Array (Option Value)} {kV doc pm cdv ct : Value} (X : K.In h) (G : h.Ns mainGlobals mg) (a : PySem.W.nsIn K mainGlobals "_law_cell_at" = some (some (.ref f))) (l : K.lookup f = some ⟨oc, od, .func (PySem.W.fnOf "_law_cell_at" "_law_cell_at" (defArgs sCellAt) (defBody sCellAt) (defScope sCellAt) .none kV doc pm an cdv ct), osl⟩) (c : PySem.W.codeIn K cdv "_law_cell_at" = true) (k : PySem.W.keepIn K (.ref f) = true) : Df K mg "_law_cell_at" sCellAt ["_law_script", "_law_k"] :=
  df_mk X G a l c k fun _ _ _ _ _ _ us hl => match us, hl with | [_, _], _ => rfl
theorem mk_d15 {f : Addr} {oc : Value} {od an : Option Addr} {osl : Array (Option Value)} {kV doc pm cdv ct : Value} (X : K.In h) (G : h.Ns mainGlobals mg) (a : PySem.W.nsIn K mainGlobals "_law_digits" = some (some (.ref f))) (l : K.lookup f = some ⟨oc, od, .func (PySem.W.fnOf "_law_digits" "_law_digits" (defArgs sDigits) (defBody sDigits) (defScope sDigits) .none kV doc pm an cdv ct), osl⟩) (c : PySem.W.codeIn K cdv "_law_digits" = true) (k : PySem.W.keepIn K (.ref f) = true) : Df K mg "_law_digits" sDigits ["_law_script", "_law_at", "_law_many", "_law_base"] :=
  df_mk X G a l c k fun _ _ _ _ _ _ us hl => match us, hl with | [_, _, _, _], _ => rfl
theorem mk_d16 {f : Addr} {oc : Value} {od an : Option Addr} {osl : Array (Option Value)} {kV doc pm cdv ct : Value} (X : K.In h) (G : h.Ns mainGlobals mg) (a : PySem.W.nsIn K mainGlobals "_law_take" = some (some (.ref f))) (l : K.lookup f = some ⟨oc, od, .func (PySem.W.fnOf "_law_take" "_law_take" (defArgs sTake) (defBody sTake) (defScope sTake) .none kV doc pm an cdv ct), osl⟩) (c : PySem.W.codeIn K cdv "_law_take" = true) (k : PySem.W.keepIn K (.ref f) = true) : Df K mg "_law_take" sTake ["_law_draws", "_law_many"] :=
  df_mk X G a l c k fun _ _ _ _ _ _ us hl => match us, hl with | [_, _], _ => rfl
theorem mk_d17 {f : Addr} {oc : Value} {od an : Option Addr} {osl : Array (Option Value)} {kV doc pm cdv ct : Value} (X : K.In h) (G : h.Ns mainGlobals mg) (a : PySem.W.nsIn K mainGlobals "_law_pool" = some (some (.ref f))) (l : K.lookup f = some ⟨oc, od, .func (PySem.W.fnOf "_law_pool" "_law_pool" (defArgs sPool) (defBody sPool) (defScope sPool) .none kV doc pm an cdv ct), osl⟩) (c : PySem.W.codeIn K cdv "_law_pool" = true) (k : PySem.W.keepIn K (.ref f) = true) : Df K mg "_law_pool" sPool ["_law_script", "_law_bases"] :=
  df_mk X G a l c k fun _ _ _ _ _ _ us hl => match us, hl with | [_, _], _ => rfl
theorem mk_d18 {f : Addr} {oc : Value} {od an : Option Addr} {osl : Array (Option Value)} {kV doc pm cdv ct : Value} (X : K.In h) (G : h.Ns mainGlobals mg) (a : PySem.W.nsIn K mainGlobals "_law_graph" = some (some (.ref f))) (l : K.lookup f = some ⟨oc, od, .func (PySem.W.fnOf "_law_graph" "_law_graph" (defArgs sLGraph) (defBody sLGraph) (defScope sLGraph) .none kV doc pm an cdv ct), osl⟩) (c : PySem.W.codeIn K cdv "_law_graph" = true) (k : PySem.W.keepIn K (.ref f) = true) : Df K mg "_law_graph" sLGraph ["_law_draws", "_law_most"] :=
  df_mk X G a l c k fun _ _ _ _ _ _ us hl => match us, hl with | [_, _], _ => rfl
theorem mk_d19 {f : Addr} {oc : Value} {od an : Option Addr} {osl : Array (Option Value)} {kV doc pm cdv ct : Value} (X : K.In h) (G : h.Ns mainGlobals mg) (a : PySem.W.nsIn K mainGlobals "_law_come_by" = some (some (.ref f))) (l : K.lookup f = some ⟨oc, od, .func (PySem.W.fnOf "_law_come_by" "_law_come_by" (defArgs sCome) (defBody sCome) (defScope sCome) .none kV doc pm an cdv ct), osl⟩) (c : PySem.W.codeIn K cdv "_law_come_by" = true) (k : PySem.W.keepIn K (.ref f) = true) : Df K mg "_law_come_by" sCome ["_law_ways", "_law_begin", "_law_barred"] :=
  df_mk X G a l c k fun _ _ _ _ _ _ us hl => match us, hl with | [_, _, _], _ => rfl
theorem mk_d20 {f : Addr} {oc : Value} {od an : Option Addr} {osl : Array (Option Value)} {kV doc pm cdv ct : Value} (X : K.In h) (G : h.Ns mainGlobals mg) (a : PySem.W.nsIn K mainGlobals "_law_order" = some (some (.ref f))) (l : K.lookup f = some ⟨oc, od, .func (PySem.W.fnOf "_law_order" "_law_order" (defArgs sLOrder) (defBody sLOrder) (defScope sLOrder) .none kV doc pm an cdv ct), osl⟩) (c : PySem.W.codeIn K cdv "_law_order" = true) (k : PySem.W.keepIn K (.ref f) = true) : Df K mg "_law_order" sLOrder ["_law_ways", "_law_begin"] :=
  df_mk X G a l c k fun _ _ _ _ _ _ us hl => match us, hl with | [_, _], _ => rfl
theorem mk_d21 {f : Addr} {oc : Value} {od an : Option Addr} {osl : Array (Option Value)} {kV doc pm cdv ct : Value} (X : K.In h) (G : h.Ns mainGlobals mg) (a : PySem.W.nsIn K mainGlobals "_law_is_above" = some (some (.ref f))) (l : K.lookup f = some ⟨oc, od, .func (PySem.W.fnOf "_law_is_above" "_law_is_above" (defArgs sLAbove) (defBody sLAbove) (defScope sLAbove) .none kV doc pm an cdv ct), osl⟩) (c : PySem.W.codeIn K cdv "_law_is_above" = true) (k : PySem.W.keepIn K (.ref f) = true) : Df K mg "_law_is_above" sLAbove ["_law_ways", "_law_begin", "_law_one", "_law_other"] :=
  df_mk X G a l c k fun _ _ _ _ _ _ us hl => match us, hl with | [_, _, _, _], _ => rfl
theorem mk_d22 {f : Addr} {oc : Value} {od an : Option Addr} {osl : Array (Option Value)} {kV doc pm cdv ct : Value} (X : K.In h) (G : h.Ns mainGlobals mg) (a : PySem.W.nsIn K mainGlobals "_law_is_plain" = some (some (.ref f))) (l : K.lookup f = some ⟨oc, od, .func (PySem.W.fnOf "_law_is_plain" "_law_is_plain" (defArgs sLPlain) (defBody sLPlain) (defScope sLPlain) .none kV doc pm an cdv ct), osl⟩) (c : PySem.W.codeIn K cdv "_law_is_plain" = true) (k : PySem.W.keepIn K (.ref f) = true) : Df K mg "_law_is_plain" sLPlain ["_law_ways", "_law_begin"] :=
  df_mk X G a l c k fun _ _ _ _ _ _ us hl => match us, hl with | [_, _], _ => rfl
theorem mk_d23 {f : Addr} {oc : Value} {od an : Option Addr} {osl : Array (Option Value)} {kV doc pm cdv ct : Value} (X : K.In h) (G : h.Ns mainGlobals mg) (a : PySem.W.nsIn K mainGlobals "_law_is_way" = some (some (.ref f))) (l : K.lookup f = some ⟨oc, od, .func (PySem.W.fnOf "_law_is_way" "_law_is_way" (defArgs sLWay) (defBody sLWay) (defScope sLWay) .none kV doc pm an cdv ct), osl⟩) (c : PySem.W.codeIn K cdv "_law_is_way" = true) (k : PySem.W.keepIn K (.ref f) = true) : Df K mg "_law_is_way" sLWay ["_law_ways", "_law_some"] :=
  df_mk X G a l c k fun _ _ _ _ _ _ us hl => match us, hl with | [_, _], _ => rfl
theorem mk_d24 {f : Addr} {oc : Value} {od an : Option Addr} {osl : Array (Option Value)} {kV doc pm cdv ct : Value} (X : K.In h) (G : h.Ns mainGlobals mg) (a : PySem.W.nsIn K mainGlobals "_law_shows" = some (some (.ref f))) (l : K.lookup f = some ⟨oc, od, .func (PySem.W.fnOf "_law_shows" "_law_shows" (defArgs sLShows) (defBody sLShows) (defScope sLShows) .none kV doc pm an cdv ct), osl⟩) (c : PySem.W.codeIn K cdv "_law_shows" = true) (k : PySem.W.keepIn K (.ref f) = true) : Df K mg "_law_shows" sLShows ["_law_ways", "_law_begin", "_law_ring", "_law_one", "_law_other"] :=
  df_mk X G a l c k fun _ _ _ _ _ _ us hl => match us, hl with | [_, _, _, _, _], _ => rfl
theorem mk_d25 {f : Addr} {oc : Value} {od an : Option Addr} {osl : Array (Option Value)} {kV doc pm cdv ct : Value} (X : K.In h) (G : h.Ns mainGlobals mg) (a : PySem.W.nsIn K mainGlobals "_law_bent" = some (some (.ref f))) (l : K.lookup f = some ⟨oc, od, .func (PySem.W.fnOf "_law_bent" "_law_bent" (defArgs sBent) (defBody sBent) (defScope sBent) .none kV doc pm an cdv ct), osl⟩) (c : PySem.W.codeIn K cdv "_law_bent" = true) (k : PySem.W.keepIn K (.ref f) = true) : Df K mg "_law_bent" sBent ["_law_draws", "_law_some", "_law_names"] :=
  df_mk X G a l c k fun _ _ _ _ _ _ us hl => match us, hl with | [_, _, _], _ => rfl
theorem mk_m0 {f : Addr} {oc : Value} {od an : Option Addr} {osl : Array (Option Value)} {kV doc pm cdv ct : Value} (cl : Cls K C) (a : PySem.W.findIn K (.ref C) "__eq__" = some (some (.ref f))) (i : PySem.W.isFn K (.ref f) = true) (l : K.lookup f = some ⟨oc, od, .func (PySem.W.fnOf "__eq__" "Plain.__eq__" (defArgs sPEq) (defBody sPEq) (defScope sPEq) .none kV doc pm an cdv ct), osl⟩) (c : PySem.W.codeIn K cdv "Plain.__eq__" = true) (k : PySem.W.keepIn K (.ref f) = true) : Mf K C "__eq__" "Plain.__eq__" sPEq ["self", "other"] :=
  mf_mk cl a i l c k fun _ _ _ _ _ _ us hl => match us, hl with | [_, _], _ => rfl
theorem mk_m1 {f : Addr} {oc : Value} {od an : Option Addr} {osl : Array (Option Value)} {kV doc pm cdv ct : Value} (cl : Cls K C) (a : PySem.W.findIn K (.ref C) "shows" = some (some (.ref f))) (i : PySem.W.isFn K (.ref f) = true) (l : K.lookup f = some ⟨oc, od, .func (PySem.W.fnOf "shows" "Plain.shows" (defArgs sPShows) (defBody sPShows) (defScope sPShows) .none kV doc pm an cdv ct), osl⟩) (c : PySem.W.codeIn K cdv "Plain.shows" = true) (k : PySem.W.keepIn K (.ref f) = true) : Mf K C "shows" "Plain.shows" sPShows ["self", "graph"] :=
  mf_mk cl a i l c k fun _ _ _ _ _ _ us hl => match us, hl with | [_, _], _ => rfl
theorem mk_m2 {f : Addr} {oc : Value} {od an : Option Addr} {osl : Array (Option Value)} {kV doc pm cdv ct : Value} (cl : Cls K C) (a : PySem.W.findIn K (.ref C) "__eq__" = some (some (.ref f))) (i : PySem.W.isFn K (.ref f) = true) (l : K.lookup f = some ⟨oc, od, .func (PySem.W.fnOf "__eq__" "Twist.__eq__" (defArgs sTEq) (defBody sTEq) (defScope sTEq) .none kV doc pm an cdv ct), osl⟩) (c : PySem.W.codeIn K cdv "Twist.__eq__" = true) (k : PySem.W.keepIn K (.ref f) = true) : Mf K C "__eq__" "Twist.__eq__" sTEq ["self", "other"] :=
  mf_mk cl a i l c k fun _ _ _ _ _ _ us hl => match us, hl with | [_, _], _ => rfl
theorem mk_m3 {f : Addr} {oc : Value} {od an : Option Addr} {osl : Array (Option Value)} {kV doc pm cdv ct : Value} (cl : Cls K C) (a : PySem.W.findIn K (.ref C) "shows" = some (some (.ref f))) (i : PySem.W.isFn K (.ref f) = true) (l : K.lookup f = some ⟨oc, od, .func (PySem.W.fnOf "shows" "Twist.shows" (defArgs sTShows) (defBody sTShows) (defScope sTShows) .none kV doc pm an cdv ct), osl⟩) (c : PySem.W.codeIn K cdv "Twist.shows" = true) (k : PySem.W.keepIn K (.ref f) = true) : Mf K C "shows" "Twist.shows" sTShows ["self", "graph"] :=
  mf_mk cl a i l c k fun _ _ _ _ _ _ us hl => match us, hl with | [_, _], _ => rfl
theorem mk_m4 {f : Addr} {oc : Value} {od an : Option Addr} {osl : Array (Option Value)} {kV doc pm cdv ct : Value} (cl : Cls K C) (a : PySem.W.findIn K (.ref C) "leads" = some (some (.ref f))) (i : PySem.W.isFn K (.ref f) = true) (l : K.lookup f = some ⟨oc, od, .func (PySem.W.fnOf "leads" "Twist.leads" (defArgs sTLeads) (defBody sTLeads) (defScope sTLeads) .none kV doc pm an cdv ct), osl⟩) (c : PySem.W.codeIn K cdv "Twist.leads" = true) (k : PySem.W.keepIn K (.ref f) = true) : Mf K C "leads" "Twist.leads" sTLeads ["self", "graph", "way"] :=
  mf_mk cl a i l c k fun _ _ _ _ _ _ us hl => match us, hl with | [_, _, _], _ => rfl
theorem mk_i0 {f : Addr} {oc : Value} {od an : Option Addr} {osl : Array (Option Value)} {kV doc pm cdv ct : Value} (hm : mg "Graph" = some (.ref C)) (mk : PySem.W.makesIn K C = true) (kc : PySem.W.keepIn K (.ref C) = true) (a : PySem.W.findIn K (.ref C) "__init__" = some (some (.ref f))) (i : PySem.W.isFn K (.ref f) = true) (l : K.lookup f = some ⟨oc, od, .func (PySem.W.fnOf "__init__" "Graph.__init__" (defArgs sGInit) (defBody sGInit) (defScope sGInit) .none kV doc pm an cdv ct), osl⟩) (c : PySem.W.codeIn K cdv "Graph.__init__" = true) (k : PySem.W.keepIn K (.ref f) = true) : If K mg "Graph" C "Graph.__init__" sGInit ["self", "entry", "blocks", "ways"] :=
  if_mk hm mk kc a i l c k fun _ _ _ _ _ _ us hl => match us, hl with | [_, _, _, _], _ => rfl
theorem mk_i1 {f : Addr} {oc : Value} {od an : Option Addr} {osl : Array (Option Value)} {kV doc pm cdv ct : Value} (hm : mg "Twist" = some (.ref C)) (mk : PySem.W.makesIn K C = true) (kc : PySem.W.keepIn K (.ref C) = true) (a : PySem.W.findIn K (.ref C) "__init__" = some (some (.ref f))) (i : PySem.W.isFn K (.ref f) = true) (l : K.lookup f = some ⟨oc, od, .func (PySem.W.fnOf "__init__" "Twist.__init__" (defArgs sTInit) (defBody sTInit) (defScope sTInit) .none kV doc pm an cdv ct), osl⟩) (c : PySem.W.codeIn K cdv "Twist.__init__" = true) (k : PySem.W.keepIn K (.ref f) = true) : If K mg "Twist" C "Twist.__init__" sTInit ["self", "ring", "one", "other"] :=
  if_mk hm mk kc a i l c k fun _ _ _ _ _ _ us hl => match us, hl with | [_, _, _, _], _ => rfl
theorem no_mk {f : Str} (h : PySem.W.findIn K (.ref C) f = some none) : NoAttr K C f := h
end
/-- all that the walk asks of the text -/
structure AllF (K : PySem.W.Frag) (mg : Str → Option Value) (cG cP cT : Addr) : Prop where
  T : TX K mg cG cP cT
  B : TB mg
  M : MkP K cP
  Q : TQ K cP cT
  d0 : Df K mg "order_by" sOrder ["entry", "ways"]
  d1 : Df K mg "froms_of" sFroms ["ways"]
  d2 : Df K mg "meet_of" sMeet ["one", "other", "nearest", "places"]
  d3 : Df K mg "above_by" sNear ["entry", "ways"]
  d4 : Df K mg "is_above" sAbove ["one", "other", "nearest"]
  d5 : Df K mg "backward" sBack ["entry", "ways"]
  d6 : Df K mg "is_graph" sIsGr ["thing"]
  d7 : Df K mg "check_graph" sCheck ["thing"]
  d8 : Df K mg "is_way" sWay ["graph", "blocks"]
  d9 : Df K mg "twisted" sTwisted ["graph"]
  d10 : Df K mg "way_to" sWayTo ["ways", "begin", "ends", "barred"]
  d11 : Df K mg "first_part" sFirst ["way", "ring"]
  d12 : Df K mg "judged" sJudged ["graph"]
  d13 : Df K mg "_law_draw" sDraw ["_law_cell", "_law_k", "_law_many"]
  d14 : Df K mg "_law_cell_at" sCellAt ["_law_script", "_law_k"]
  d15 : Df K mg "_law_digits" sDigits ["_law_script", "_law_at", "_law_many", "_law_base"]
  d16 : Df K mg "_law_take" sTake ["_law_draws", "_law_many"]
  d17 : Df K mg "_law_pool" sPool ["_law_script", "_law_bases"]
  d18 : Df K mg "_law_graph" sLGraph ["_law_draws", "_law_most"]
  d19 : Df K mg "_law_come_by" sCome ["_law_ways", "_law_begin", "_law_barred"]
  d20 : Df K mg "_law_order" sLOrder ["_law_ways", "_law_begin"]
  d21 : Df K mg "_law_is_above" sLAbove ["_law_ways", "_law_begin", "_law_one", "_law_other"]
  d22 : Df K mg "_law_is_plain" sLPlain ["_law_ways", "_law_begin"]
  d23 : Df K mg "_law_is_way" sLWay ["_law_ways", "_law_some"]
  d24 : Df K mg "_law_shows" sLShows ["_law_ways", "_law_begin", "_law_ring", "_law_one", "_law_other"]
  d25 : Df K mg "_law_bent" sBent ["_law_draws", "_law_some", "_law_names"]
  m0 : Mf K cP "__eq__" "Plain.__eq__" sPEq ["self", "other"]
  m1 : Mf K cP "shows" "Plain.shows" sPShows ["self", "graph"]
  m2 : Mf K cT "__eq__" "Twist.__eq__" sTEq ["self", "other"]
  m3 : Mf K cT "shows" "Twist.shows" sTShows ["self", "graph"]
  m4 : Mf K cT "leads" "Twist.leads" sTLeads ["self", "graph", "way"]
  i0 : If K mg "Graph" cG "Graph.__init__" sGInit ["self", "entry", "blocks", "ways"]
  i1 : If K mg "Twist" cT "Twist.__init__" sTInit ["self", "ring", "one", "other"]
section
variable {P : Program} {w : World} {K : PySem.W.Frag} {mg : Str → Option Value} {base : Heap} {cG cP cT : Addr}
theorem law_fn {fL : Addr} {fdL : FuncData} (A : AllF K mg cG cP cT) (F : Fun K "law" "law" sLaw fL fdL) : FnOk P w K mg base CX0 5 fL fdL ["_law_script"] (spLaw K) := by
  have cO : C8.Cal P w K mg base 1 "order_by" spOrder [] := ok_order A.d0 A.T.len
  have cFr : C8.Cal P w K mg base 1 "froms_of" spFroms [] := ok_froms A.d1
  have cMe : C8.Cal P w K mg base 1 "meet_of" spMeet [] := ok_meet A.d2
  have cNe : C8.Cal P w K mg base 2 "above_by" spNear [] := ok_near A.d3 cO cFr cMe A.B.enumerate
  have cAb : C8.Cal P w K mg base 1 "is_above" spAbove [] := ok_above A.d4
  have cBk : C8.Cal P w K mg base 2 "backward" spBack [] := ok_back A.d5 cO A.B.enumerate
  have cIs : C8.Cal P w K mg base 2 "is_graph" (spIsGr cG) [] := ok_isgr A.d6 A.T cO
  have cCh : C8.Cal P w K mg base 3 "check_graph" (spCheck cG) [] := ok_check A.d7 cIs
  have cWy : C8.Cal P w K mg base 1 "is_way" (spWay K cG) [] := ok_way A.d8 A.T
  have cTw : C8.Cal P w K mg base 3 "twisted" (spTwisted cG) [] := ok_twisted A.d9 A.T cNe cBk cAb
  have cTo : C8.Cal P w K mg base 1 "way_to" (spWayTo K) [] := ok_wayto A.d10
  have cFi : C8.Cal P w K mg base 1 "first_part" (spFirst K) [] := ok_first A.d11
  have cTI : C8.Mak P w K mg base 1 "Twist" cT (spTInit K cT) [] := ok_tinit A.i1 A.T
  have cGI : C8.Mak P w K mg base 1 "Graph" cG (spGInit cG) [] := ok_ginit A.i0 A.T.g.cl A.T.nE A.T.nB A.T.nW A.T.list
  have cJ : C8.Cal P w K mg base 4 "judged" (spJudged cG cP cT) [] := ok_judged A.d12 A.T A.M cCh cTw cO cTo cFi cTI
  have cPE : C8.Met P w K mg base 1 cP "__eq__" (spPEq cP) [] := ok_peq A.m0 A.T
  have cPS : C8.Met P w K mg base 4 cP "shows" (spPShows cG) [] := ok_pshows A.m1 A.T cCh cTw
  have cTE : C8.Met P w K mg base 1 cT "__eq__" (spTEq cP) [] := ok_teq A.m2 A.T
  have cLe : C8.Met P w K mg base 2 cT "leads" (spLeads K cG cT) [] := ok_leads A.m4 A.T cWy
  have cTS : C8.Met P w K mg base 4 cT "shows" (spShows cG cT) [] := ok_shows A.m3 A.T cCh cWy cLe
  have cDr : C8.Cal P w K mg base 1 "_law_draw" spDraw [] := ok_draw A.d13 A.B
  have cCe : C8.Cal P w K mg base 2 "_law_cell_at" (spCellAt K) [] := ok_cellat A.d14 A.B A.T.len cDr
  have cDi : C8.Cal P w K mg base 3 "_law_digits" (spDigits K) [] := ok_digits A.d15 A.B cCe cDr
  have cTk : C8.Cal P w K mg base 1 "_law_take" spTake [] := ok_take A.d16 A.B
  have cPo : C8.Cal P w K mg base 4 "_law_pool" (spPool K) [] := ok_pool A.d17 A.B cDi
  have cGr : C8.Cal P w K mg base 2 "_law_graph" spLGraph [] := ok_lgraph A.d18 A.B cTk
  have cCo : C8.Cal P w K mg base 1 "_law_come_by" spCome [] := ok_come A.d19
  have cLO : C8.Cal P w K mg base 1 "_law_order" spLOrder [] := ok_lorder A.d20 A.T.len
  have cLA : C8.Cal P w K mg base 2 "_law_is_above" spLAbove [] := ok_labove A.d21 cCo
  have cLP : C8.Cal P w K mg base 3 "_law_is_plain" spLPlain [] := ok_lplain A.d22 cLO cLA
  have cLW : C8.Cal P w K mg base 1 "_law_is_way" (spLWay K) [] := ok_lway A.d23 A.T
  have cLS : C8.Cal P w K mg base 2 "_law_shows" spLShows [] := ok_lshows A.d24 A.T A.B cLW
  have cBe : C8.Cal P w K mg base 2 "_law_bent" spBent [] := ok_bent A.d25 A.T.len cTk
  exact ok_law F A.T A.B A.M A.Q cPo cGr cGI cJ cLP cPE cTE cPS cTS cLS cTk cBe cTI
end
theorem fin_mk {l : PySem.W.OpenLaw} {w : World} {K : PySem.W.Frag} {h : Heap} {mg : Str → Option Value} {fa f4 cG cP cT : Addr} (X : K.In h) (G : h.Ns mainGlobals mg) (hfa : mg "law" = some (.ref fa))
    {od4 an4 : Option Addr} {sl4 : Array (Option Value)} {oc4 kV4 dc4 pm4 cd4 ct4 : Value} (A : AllF K mg cG cP cT)
    (a4 : PySem.W.nsIn K mainGlobals "law" = some (some (.ref f4))) (l4 : K.lookup f4 = some ⟨oc4, od4, .func (PySem.W.fnOf "law" "law" (defArgs sLaw) (defBody sLaw) (defScope sLaw) .none kV4 dc4 pm4 an4 cd4 ct4), sl4⟩) (c4 : PySem.W.codeIn K cd4 "law" = true) (k4 : PySem.W.keepIn K (.ref f4) = true) :
    ∃ fd : FuncData, (∀ (s : Shared) (v : Value), BindsTo s fd ⟨[v], []⟩ [("_law_script", v)]) ∧ ∀ base : Heap, K.In base → base.Ns mainGlobals mg → FnOk l.prog w K mg base CX0 5 fa fd ["_law_script"] (spLaw K) := by
  have e := hfa.symm.trans (PySem.W.mg_of X G a4)
  cases e
  exact ⟨PySem.W.fnOf "law" "law" (defArgs sLaw) (defBody sLaw) (defScope sLaw) .none kV4 dc4 pm4 an4 cd4 ct4, fun s v => .of_eq rfl, fun base _ _ => law_fn A (fun_mk l4 c4 k4)⟩
theorem walk {l : PySem.W.OpenLaw} {q : Program} {loose : List Str} {XP : (Str → Option Value) → Heap → Prop} {YP : World → Heap → Prop} {d : DefRec} {K : Params → PySem.W.Frag} (hn : l.most = some 63) (hdf : d.params.defaults = [])
    (hY : ∀ (w : World) (h : Heap), YP w h → (K w.params).In h)
    (F : ∀ (w : World) (mg : Str → Option Value) (fa : Addr) (h : Heap), (K w.params).In h → h.Ns mainGlobals mg → mg d.name = some (.ref fa) →
      ∃ fd : FuncData, (∀ (s : Shared) (u : Value), BindsTo s fd ⟨[u], []⟩ [("_law_script", u)]) ∧ ∀ base : Heap, (K w.params).In base → base.Ns mainGlobals mg → FnOk l.prog w (K w.params) mg base CX0 5 fa fd ["_law_script"] (spLaw (K w.params))) :
    PySem.W.WalkO q loose XP YP l.row.toRowW d [] (fun f vs => PySem.call f vs) :=
  L2.walk_of (n := 63) (k := 5) (x := "_law_script") (CX := fun _ => CX0) (sp := fun w => spLaw (K w.params)) hn (by decide) hdf ⟨rfl, by decide, by decide⟩ hY F (fun _ _ a ns hl _ hS => ⟨a, ns, rfl, hS, hl, fun _ => rfl⟩) fun _ _ _ _ _ z => z
end BT
open PySem PySem.W PyProof.Rows
set_option maxHeartbeats 0 in
theorem PySem.Challenge.cw_bytetale_k05_whole_judged_holds : PySem.Challenge.rw_bytetale_k05_whole_judged.Holds := by
  w_on; o_law; k_head; (case hw => w_witness2)
  k_fill
  refine BT.walk (l := PySem.Challenge.rw_bytetale_k05_whole_judged) rfl rfl (fun w h Y => PySem.W.kIn_of Y) ?F
  case F =>
    intro w mg fa h KX G hmg
    refine' BT.fin_mk KX G hmg (BT.AllF.mk (BT.TX.mk ⟨⟨?gpg, ?ghd, ?gpo, ?gsa⟩, ?gha, ?ghn, ?ghtk, ?ghm⟩ ⟨⟨?ppg, ?phd, ?ppo, ?psa⟩, ?pha, ?phn, ?phtk, ?phm⟩ ⟨⟨?tpg, ?thd, ?tpo, ?tsa⟩, ?tha, ?thn, ?thtk, ?thm⟩ (PySem.W.mg_of KX G ?nG) (PySem.W.mg_of KX G ?nP) (PySem.W.mg_of KX G ?nT) ?gg ?pp ?tt ?pt ?tp (BT.no_mk ?nE) (BT.no_mk ?nB) (BT.no_mk ?nW) (BT.no_mk ?nR) (BT.no_mk ?n1) (BT.no_mk ?n2) (PySem.W.mg_none_of KX G ?zisi) (PySem.W.mg_none_of KX G ?zlen) (PySem.W.mg_none_of KX G ?zlist) (PySem.W.mg_none_of KX G ?zall) (PySem.W.mg_none_of KX G ?zany) (PySem.W.mg_none_of KX G ?zzip))
      (BT.TB.mk (PySem.W.mg_none_of KX G ?zint) (PySem.W.mg_none_of KX G ?zabs) (PySem.W.mg_none_of KX G ?zsum) (PySem.W.mg_none_of KX G ?zrange) (PySem.W.mg_none_of KX G ?zenumerate) (PySem.W.mg_none_of KX G ?zdict) (PySem.W.mg_none_of KX G ?zsorted) (PySem.W.mg_none_of KX G ?zset))
      (BT.MkP.mk ?pmk ?pin ?pkp)
      (BT.TQ.mk ?qpp ?qtp ?qne ?qsub)
      (BT.mk_d0 KX G ?da0 ?dl0 ?dc0 ?dk0)
      (BT.mk_d1 KX G ?da1 ?dl1 ?dc1 ?dk1)
      (BT.mk_d2 KX G ?da2 ?dl2 ?dc2 ?dk2)
      (BT.mk_d3 KX G ?da3 ?dl3 ?dc3 ?dk3)
      (BT.mk_d4 KX G ?da4 ?dl4 ?dc4 ?dk4)
      (BT.mk_d5 KX G ?da5 ?dl5 ?dc5 ?dk5)
      (BT.mk_d6 KX G ?da6 ?dl6 ?dc6 ?dk6)
      (BT.mk_d7 KX G ?da7 ?dl7 ?dc7 ?dk7)
      (BT.mk_d8 KX G ?da8 ?dl8 ?dc8 ?dk8)
      (BT.mk_d9 KX G ?da9 ?dl9 ?dc9 ?dk9)
      (BT.mk_d10 KX G ?da10 ?dl10 ?dc10 ?dk10)
      (BT.mk_d11 KX G ?da11 ?dl11 ?dc11 ?dk11)
      (BT.mk_d12 KX G ?da12 ?dl12 ?dc12 ?dk12)
      (BT.mk_d13 KX G ?da13 ?dl13 ?dc13 ?dk13)
      (BT.mk_d14 KX G ?da14 ?dl14 ?dc14 ?dk14)
      (BT.mk_d15 KX G ?da15 ?dl15 ?dc15 ?dk15)
      (BT.mk_d16 KX G ?da16 ?dl16 ?dc16 ?dk16)
      (BT.mk_d17 KX G ?da17 ?dl17 ?dc17 ?dk17)
      (BT.mk_d18 KX G ?da18 ?dl18 ?dc18 ?dk18)
      (BT.mk_d19 KX G ?da19 ?dl19 ?dc19 ?dk19)
      (BT.mk_d20 KX G ?da20 ?dl20 ?dc20 ?dk20)
      (BT.mk_d21 KX G ?da21 ?dl21 ?dc21 ?dk21)
      (BT.mk_d22 KX G ?da22 ?dl22 ?dc22 ?dk22)
      (BT.mk_d23 KX G ?da23 ?dl23 ?dc23 ?dk23)
      (BT.mk_d24 KX G ?da24 ?dl24 ?dc24 ?dk24)
      (BT.mk_d25 KX G ?da25 ?dl25 ?dc25 ?dk25)
      (BT.mk_m0 ⟨?ppg, ?phd, ?ppo, ?psa⟩ ?ma0 ?mi0 ?ml0 ?mc0 ?mk0)
      (BT.mk_m1 ⟨?ppg, ?phd, ?ppo, ?psa⟩ ?ma1 ?mi1 ?ml1 ?mc1 ?mk1)
      (BT.mk_m2 ⟨?tpg, ?thd, ?tpo, ?tsa⟩ ?ma2 ?mi2 ?ml2 ?mc2 ?mk2)
      (BT.mk_m3 ⟨?tpg, ?thd, ?tpo, ?tsa⟩ ?ma3 ?mi3 ?ml3 ?mc3 ?mk3)
      (BT.mk_m4 ⟨?tpg, ?thd, ?tpo, ?tsa⟩ ?ma4 ?mi4 ?ml4 ?mc4 ?mk4)
      (BT.mk_i0 (PySem.W.mg_of KX G ?nG) ?imk0 ?ikc0 ?ia0 ?ii0 ?il0 ?ic0 ?ik0)
      (BT.mk_i1 (PySem.W.mg_of KX G ?nT) ?imk1 ?ikc1 ?ia1 ?ii1 ?il1 ?ic1 ?ik1)) ?a4 ?l4 ?c4 ?k4
    (case nG => k_is)
    (case nP => k_is)
    (case nT => k_is)
    (case gpg => k_is)
    (case ghd => k_is)
    (case gpo => k_is)
    (case gsa => k_is)
    (case gha => k_is)
    (case ghn => k_is)
    (case ghtk => k_is)
    (case ghm => k_is)
    (case ppg => k_is)
    (case phd => k_is)
    (case ppo => k_is)
    (case psa => k_is)
    (case pha => k_is)
    (case phn => k_is)
    (case phtk => k_is)
    (case phm => k_is)
    (case tpg => k_is)
    (case thd => k_is)
    (case tpo => k_is)
    (case tsa => k_is)
    (case tha => k_is)
    (case thn => k_is)
    (case thtk => k_is)
    (case thm => k_is)
    (case gg => kit_is)
    (case pp => kit_is)
    (case tt => kit_is)
    (case pt => kit_is)
    (case tp => kit_is)
    (case nE => k_is)
    (case nB => k_is)
    (case nW => k_is)
    (case nR => k_is)
    (case n1 => k_is)
    (case n2 => k_is)
    (case zisi => k_is)
    (case zlen => k_is)
    (case zlist => k_is)
    (case zall => k_is)
    (case zany => k_is)
    (case zzip => k_is)
    (case zint => k_is)
    (case zabs => k_is)
    (case zsum => k_is)
    (case zrange => k_is)
    (case zenumerate => k_is)
    (case zdict => k_is)
    (case zsorted => k_is)
    (case zset => k_is)
    (case pmk => k_is)
    (case pin => k_is)
    (case pkp => k_is)
    (case qpp => k_is)
    (case qtp => k_is)
    (case qne => k_is)
    (case qsub => k_is)
    (case da0 => k_is)
    (case dl0 => k_is)
    (case dc0 => k_is)
    (case dk0 => k_is)
    (case da1 => k_is)
    (case dl1 => k_is)
    (case dc1 => k_is)
    (case dk1 => k_is)
    (case da2 => k_is)
    (case dl2 => k_is)
    (case dc2 => k_is)
    (case dk2 => k_is)
    (case da3 => k_is)
    (case dl3 => k_is)
    (case dc3 => k_is)
    (case dk3 => k_is)
    (case da4 => k_is)
    (case dl4 => k_is)
    (case dc4 => k_is)
    (case dk4 => k_is)
    (case da5 => k_is)
    (case dl5 => k_is)
    (case dc5 => k_is)
    (case dk5 => k_is)
    (case da6 => k_is)
    (case dl6 => k_is)
    (case dc6 => k_is)
    (case dk6 => k_is)
    (case da7 => k_is)
    (case dl7 => k_is)
    (case dc7 => k_is)
    (case dk7 => k_is)
    (case da8 => k_is)
    (case dl8 => k_is)
    (case dc8 => k_is)
    (case dk8 => k_is)
    (case da9 => k_is)
    (case dl9 => k_is)
    (case dc9 => k_is)
    (case dk9 => k_is)
    (case da10 => k_is)
    (case dl10 => k_is)
    (case dc10 => k_is)
    (case dk10 => k_is)
    (case da11 => k_is)
    (case dl11 => k_is)
    (case dc11 => k_is)
    (case dk11 => k_is)
    (case da12 => k_is)
    (case dl12 => k_is)
    (case dc12 => k_is)
    (case dk12 => k_is)
    (case da13 => k_is)
    (case dl13 => k_is)
    (case dc13 => k_is)
    (case dk13 => k_is)
    (case da14 => k_is)
    (case dl14 => k_is)
    (case dc14 => k_is)
    (case dk14 => k_is)
    (case da15 => k_is)
    (case dl15 => k_is)
    (case dc15 => k_is)
    (case dk15 => k_is)
    (case da16 => k_is)
    (case dl16 => k_is)
    (case dc16 => k_is)
    (case dk16 => k_is)
    (case da17 => k_is)
    (case dl17 => k_is)
    (case dc17 => k_is)
    (case dk17 => k_is)
    (case da18 => k_is)
    (case dl18 => k_is)
    (case dc18 => k_is)
    (case dk18 => k_is)
    (case da19 => k_is)
    (case dl19 => k_is)
    (case dc19 => k_is)
    (case dk19 => k_is)
    (case da20 => k_is)
    (case dl20 => k_is)
    (case dc20 => k_is)
    (case dk20 => k_is)
    (case da21 => k_is)
    (case dl21 => k_is)
    (case dc21 => k_is)
    (case dk21 => k_is)
    (case da22 => k_is)
    (case dl22 => k_is)
    (case dc22 => k_is)
    (case dk22 => k_is)
    (case da23 => k_is)
    (case dl23 => k_is)
    (case dc23 => k_is)
    (case dk23 => k_is)
    (case da24 => k_is)
    (case dl24 => k_is)
    (case dc24 => k_is)
    (case dk24 => k_is)
    (case da25 => k_is)
    (case dl25 => k_is)
    (case dc25 => k_is)
    (case dk25 => k_is)
    (case ma0 => k_is)
    (case mi0 => k_is)
    (case ml0 => k_is)
    (case mc0 => k_is)
    (case mk0 => k_is)
    (case ma1 => k_is)
    (case mi1 => k_is)
    (case ml1 => k_is)
    (case mc1 => k_is)
    (case mk1 => k_is)
    (case ma2 => k_is)
    (case mi2 => k_is)
    (case ml2 => k_is)
    (case mc2 => k_is)
    (case mk2 => k_is)
    (case ma3 => k_is)
    (case mi3 => k_is)
    (case ml3 => k_is)
    (case mc3 => k_is)
    (case mk3 => k_is)
    (case ma4 => k_is)
    (case mi4 => k_is)
    (case ml4 => k_is)
    (case mc4 => k_is)
    (case mk4 => k_is)
    (case imk0 => k_is)
    (case ikc0 => k_is)
    (case ia0 => k_is)
    (case ii0 => k_is)
    (case il0 => k_is)
    (case ic0 => k_is)
    (case ik0 => k_is)
    (case imk1 => k_is)
    (case ikc1 => k_is)
    (case ia1 => k_is)
    (case ii1 => k_is)
    (case il1 => k_is)
    (case ic1 => k_is)
    (case ik1 => k_is)
    (case a4 => k_is)
    (case l4 => k_is)
    (case c4 => k_is)
    (case k4 => k_is)
