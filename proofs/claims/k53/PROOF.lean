import PyProof.Rows.All
import Wide.All
import OpenK.AllK
import Wide.FinOn
import HandS.ForMost
import HandS.Deep
import KE.KDictKeyed
import KE.KDictLaw
import KE.KDictDisplayH
import KE.GoesEnum
import PyProof.Rows.CountFlat
import HandS.TupMul
import HandS.TupAny
import HandS.IsInst
import HandS.Finally
import PyProof.IsiBase
import KE.KSuper
import HandS.Property
import HandS.More
import PySem.Challenge.RW_missbounds_k53_whole_far_and_long_runs
import HandS.DictComp
import HandS.NoneIn
import HandS.Style
import HandS.Flow
import HandS.Conv
import HandS.Wide
import HandS.WideBits
import HandS.Walk
import HandS.Small
section
set_option autoImplicit false
set_option linter.all false
namespace K53
variable {N : Type} [DecidableEq N]

/-! ### The mirror: policies, devices, boxes -/
structure Pol where
  lines : Nat
  rows : List (Nat × Nat × List Nat)
structure Dev where
  mode : Nat
  pols : List Pol
structure Bx (N : Type) where
  st : List Nat
  rw : List (List (Option N))

def told (d : Dev) (b : Bx N) (l : Nat) : Nat × Nat × List Nat :=
  (((d.pols[l]?).getD ⟨0, []⟩).rows[(b.st[l]?).getD 0]?).getD (0, 0, [])
def row (b : Bx N) (l : Nat) : List (Option N) := (b.rw[l]?).getD []
def touch (d : Dev) (b : Bx N) (l line : Nat) : Bx N := { b with st := b.st.set l (((told d b l).2.2[line]?).getD 0) }
def fillB (d : Dev) (b : Bx N) (l : Nat) (x : Option N) : Bx N :=
  { st := b.st.set l (told d b l).2.1, rw := b.rw.set l ((row b l).set (told d b l).1 x) }
def fillG (d : Dev) (b : Bx N) (l : Nat) : Option N := ((row b l)[(told d b l).1]?).getD none
def holds (b : Bx N) (x : N) : Bool := b.rw.any fun r => r.contains (some x)
def goDown (d : Dev) (b : Bx N) (x : N) (gone : Option N) : Bx N :=
  if d.mode = 3 then
    if some x ∈ row b 1 then
      touch d { b with rw := b.rw.set 1 ((row b 1).set ((row b 1).idxOf (some x)) gone) } 1 ((row b 1).idxOf (some x))
    else if gone = none then b else fillB d b 1 gone
  else if some x ∈ row b 1 then touch d b 1 ((row b 1).idxOf (some x))
  else if d.mode = 2 ∧ fillG d b 1 ≠ none ∧ fillG d b 1 ∈ row b 0 then
    { fillB d b 1 (some x) with rw := (fillB d b 1 (some x)).rw.set 0 ((row b 0).set ((row b 0).idxOf (fillG d b 1)) none) }
  else fillB d b 1 (some x)
def askB (d : Dev) (b : Bx N) (x : N) : Bx N :=
  if some x ∈ row b 0 then touch d b 0 ((row b 0).idxOf (some x))
  else if b.rw.length = 2 then goDown d (fillB d b 0 (some x)) x (fillG d b 0)
  else fillB d b 0 (some x)
def empty (d : Dev) : Bx N := ⟨List.replicate d.pols.length 0, d.pols.map fun p => List.replicate p.lines none⟩

/-! ### what is well made -/
structure RowOk (lines n : Nat) (r : Nat × Nat × List Nat) : Prop where
  v : r.1 < lines
  a : r.2.1 < n
  hl : r.2.2.length = lines
  l3 : lines ≤ 64
  h : ∀ s ∈ r.2.2, s < n
structure PolOk (p : Pol) : Prop where
  l1 : 1 ≤ p.lines
  l3 : p.lines ≤ 3
  r1 : 1 ≤ p.rows.length
  r6 : p.rows.length ≤ 6
  r : ∀ r ∈ p.rows, RowOk p.lines p.rows.length r
structure DevOk (d : Dev) : Prop where
  m : (d.mode = 0 ∧ d.pols.length = 1) ∨ (1 ≤ d.mode ∧ d.mode ≤ 3 ∧ d.pols.length = 2)
  p : ∀ p ∈ d.pols, PolOk p
structure BxOk (d : Dev) (b : Bx N) : Prop where
  sl : b.st.length = d.pols.length
  rl : b.rw.length = d.pols.length
  s : ∀ (l : Nat) (p : Pol), d.pols[l]? = some p → ∃ s, b.st[l]? = some s ∧ s < p.rows.length
  r : ∀ (l : Nat) (p : Pol), d.pols[l]? = some p → ∃ r, b.rw[l]? = some r ∧ r.length = p.lines
structure ToldOk (d : Dev) (b : Bx N) (l : Nat) (p : Pol) (s : Nat) (rr : Nat × Nat × List Nat) (r : List (Option N)) : Prop where
  hp : d.pols[l]? = some p
  hs : b.st[l]? = some s
  hrr : p.rows[s]? = some rr
  hr : b.rw[l]? = some r
  hrl : r.length = p.lines
  ok : RowOk p.lines p.rows.length rr
  htold : told d b l = rr
  hrow : row b l = r

theorem BxOk.told {d : Dev} {b : Bx N} (D : DevOk d) (B : BxOk d b) {l : Nat} (hl : l < d.pols.length) :
    ∃ p s rr r, ToldOk d b l p s rr r := by
  have hp : d.pols[l]? = some d.pols[l] := List.getElem?_eq_getElem hl
  obtain ⟨s, hs, hs'⟩ := B.s l _ hp
  obtain ⟨r, hr, hr'⟩ := B.r l _ hp
  have hrr : (d.pols[l]).rows[s]? = some (d.pols[l]).rows[s] := List.getElem?_eq_getElem hs'
  refine ⟨_, s, _, r, hp, hs, hrr, hr, hr', (D.p _ (List.getElem_mem hl)).r _ (List.getElem_mem hs'), ?_, ?_⟩
  · unfold K53.told; rw [hp, hs]; simp only [Option.getD_some]; rw [hrr]; rfl
  · unfold K53.row; rw [hr]; rfl

theorem empty_ok {d : Dev} (D : DevOk d) : BxOk d (empty d : Bx N) := by
  refine ⟨by simp [empty], by simp [empty], fun l p hp => ⟨0, ?_, (D.p p (List.mem_of_getElem? hp)).r1⟩, fun l p hp => ⟨List.replicate p.lines none, ?_, by simp⟩⟩
  · have := (List.getElem?_eq_some_iff.mp hp).1
    simp [empty, List.getElem?_replicate, this]
  · simp [empty, hp]

theorem set_get {α : Type} {l : List α} {i j : Nat} {x y : α} (h : (l.set i x)[j]? = some y) : (i = j ∧ y = x ∧ i < l.length) ∨ (i ≠ j ∧ l[j]? = some y) := by
  by_cases e : i = j
  · subst e
    rw [List.getElem?_set] at h
    simp only [if_true] at h
    split at h
    · exact .inl ⟨rfl, (Option.some.inj h).symm, by assumption⟩
    · cases h
  · rw [List.getElem?_set_ne e] at h
    exact .inr ⟨e, h⟩

/-- stages and rows may be changed within their bounds -/
theorem BxOk.upd {d : Dev} {b : Bx N} (B : BxOk d b) {st : List Nat} {rw : List (List (Option N))}
    (h1 : st = b.st ∨ ∃ l p s, d.pols[l]? = some p ∧ st = b.st.set l s ∧ s < p.rows.length)
    (h2 : rw = b.rw ∨ ∃ l p r, d.pols[l]? = some p ∧ rw = b.rw.set l r ∧ r.length = p.lines) : BxOk d ⟨st, rw⟩ := by
  refine ⟨?_, ?_, ?_, ?_⟩
  · rcases h1 with rfl | ⟨l, p, s, _, rfl, _⟩
    · exact B.sl
    · simpa using B.sl
  · rcases h2 with rfl | ⟨l, p, s, _, rfl, _⟩
    · exact B.rl
    · simpa using B.rl
  · intro l p hp
    rcases h1 with rfl | ⟨l', p', s, hp', rfl, hs⟩
    · exact B.s l p hp
    · obtain ⟨s0, e0, h0⟩ := B.s l p hp
      by_cases e : l' = l
      · subst e
        rw [hp] at hp'; cases hp'
        exact ⟨s, by simp [List.getElem?_set, (List.getElem?_eq_some_iff.mp e0).1], hs⟩
      · exact ⟨s0, by show (b.st.set l' s)[l]? = _; rw [List.getElem?_set_ne e]; exact e0, h0⟩
  · intro l p hp
    rcases h2 with rfl | ⟨l', p', s, hp', rfl, hs⟩
    · exact B.r l p hp
    · obtain ⟨s0, e0, h0⟩ := B.r l p hp
      by_cases e : l' = l
      · subst e
        rw [hp] at hp'; cases hp'
        exact ⟨s, by simp [List.getElem?_set, (List.getElem?_eq_some_iff.mp e0).1], hs⟩
      · exact ⟨s0, by show (b.rw.set l' s)[l]? = _; rw [List.getElem?_set_ne e]; exact e0, h0⟩

theorem touch_ok {d : Dev} {b : Bx N} (D : DevOk d) (B : BxOk d b) {l line : Nat} (hl : l < d.pols.length) {r : List (Option N)} (hr : b.rw[l]? = some r) (hx : line < r.length) : BxOk d (touch d b l line) := by
  obtain ⟨p, s, rr, r', t⟩ := B.told D hl
  have e : r' = r := by have := t.hr; rw [hr] at this; exact (Option.some.inj this).symm
  subst e
  refine B.upd (.inr ⟨l, p, _, t.hp, rfl, ?_⟩) (.inl rfl)
  rw [t.htold]
  have hh : line < rr.2.2.length := by rw [t.ok.hl, ← t.hrl]; exact hx
  rw [List.getElem?_eq_getElem hh]
  exact t.ok.h _ (List.getElem_mem hh)
theorem fillB_ok {d : Dev} {b : Bx N} (D : DevOk d) (B : BxOk d b) {l : Nat} (hl : l < d.pols.length) (x : Option N) : BxOk d (fillB d b l x) := by
  obtain ⟨p, s, rr, r, t⟩ := B.told D hl
  refine B.upd (.inr ⟨l, p, _, t.hp, rfl, ?_⟩) (.inr ⟨l, p, _, t.hp, rfl, ?_⟩)
  · rw [t.htold]; exact t.ok.a
  · rw [t.hrow, List.length_set]; exact t.hrl
theorem row_set {b : Bx N} {l k : Nat} {r : List (Option N)} (h : l ≠ k) : row (⟨b.st, b.rw.set l r⟩ : Bx N) k = row b k := by
  unfold row; show ((b.rw.set l r)[k]?).getD [] = _; rw [List.getElem?_set_ne h]
theorem fillB_row {d : Dev} {b : Bx N} {l k : Nat} {x : Option N} (h : l ≠ k) : row (fillB d b l x) k = row b k := by
  unfold row fillB; show ((b.rw.set l _)[k]?).getD [] = _; rw [List.getElem?_set_ne h]
theorem goDown_ok {d : Dev} {b : Bx N} (D : DevOk d) (B : BxOk d b) (h2 : d.pols.length = 2) (x : N) (g : Option N) : BxOk d (goDown d b x g) := by
  have l1 : 1 < d.pols.length := by omega
  have l0 : 0 < d.pols.length := by omega
  obtain ⟨p, s, rr, r, t⟩ := B.told D l1
  obtain ⟨p0, s0, rr0, r0, t0⟩ := B.told D l0
  unfold goDown
  split
  · split
    · rename_i hm
      refine touch_ok D (B.upd (.inl rfl) (.inr ⟨1, p, _, t.hp, rfl, ?_⟩)) l1 (r := (row b 1).set ((row b 1).idxOf (some x)) g) ?_ ?_
      · rw [List.length_set, t.hrow]; exact t.hrl
      · show (b.rw.set 1 _)[1]? = _
        rw [List.getElem?_set_self (List.getElem?_eq_some_iff.mp t.hr).1]
      · rw [List.length_set]; exact List.idxOf_lt_length_of_mem hm
    · split
      · exact B
      · exact fillB_ok D B l1 g
  · split
    · rename_i hm
      exact touch_ok D B l1 t.hr (by rw [← t.hrow]; exact List.idxOf_lt_length_of_mem hm)
    · split
      · exact (fillB_ok D B l1 (some x)).upd (.inl rfl) (.inr ⟨0, p0, _, t0.hp, rfl, by rw [List.length_set, t0.hrow]; exact t0.hrl⟩)
      · exact fillB_ok D B l1 (some x)
theorem askB_ok {d : Dev} {b : Bx N} (D : DevOk d) (B : BxOk d b) (x : N) : BxOk d (askB d b x) := by
  have l0 : 0 < d.pols.length := by rcases D.m with ⟨_, h⟩ | ⟨_, _, h⟩ <;> omega
  obtain ⟨p, s, rr, r, t⟩ := B.told D l0
  unfold askB
  split
  · rename_i hm
    exact touch_ok D B l0 t.hr (by rw [← t.hrow]; exact List.idxOf_lt_length_of_mem hm)
  · split
    · rename_i h
      exact goDown_ok D (fillB_ok D B l0 _) (by rw [← B.rl]; exact h) x _
    · exact fillB_ok D B l0 _

/-! ### names: a request brings in no other name -/
def Only (ok : N → Prop) (b : Bx N) : Prop := ∀ r ∈ b.rw, ∀ x, some x ∈ r → ok x
theorem Only.row {ok : N → Prop} {b : Bx N} (h : Only ok b) {l : Nat} {x : N} (hx : some x ∈ row b l) : ok x := by
  unfold K53.row at hx
  cases e : b.rw[l]? with
  | none => rw [e] at hx; simp at hx
  | some r => rw [e] at hx; exact h r (List.mem_of_getElem? e) x hx
theorem only_set {ok : N → Prop} {b : Bx N} {st : List Nat} {l i : Nat} {g : Option N} (h : Only ok b) (hg : ∀ x, g = some x → ok x) : Only ok ⟨st, b.rw.set l ((row b l).set i g)⟩ := by
  intro r hr x hx
  rcases List.mem_or_eq_of_mem_set hr with hr | rfl
  · exact h r hr x hx
  · rcases List.mem_or_eq_of_mem_set hx with hx | e
    · exact h.row hx
    · exact hg x e.symm
theorem only_touch {ok : N → Prop} {d : Dev} {b : Bx N} (h : Only ok b) (l i : Nat) : Only ok (touch d b l i) := h
theorem only_fill {ok : N → Prop} {d : Dev} {b : Bx N} {g : Option N} (h : Only ok b) (l : Nat) (hg : ∀ x, g = some x → ok x) : Only ok (fillB d b l g) := only_set h hg
theorem only_gone {ok : N → Prop} {d : Dev} {b : Bx N} (h : Only ok b) {l : Nat} {x : N} (e : fillG d b l = some x) : ok x := by
  unfold fillG at e
  cases q : (row b l)[(told d b l).1]? with
  | none => rw [q] at e; cases e
  | some z => rw [q] at e; exact h.row (x := x) (l := l) (by rw [← show z = some x from e]; exact List.mem_of_getElem? q)
theorem only_down {ok : N → Prop} {d : Dev} {b : Bx N} {x : N} {g : Option N} (h : Only ok b) (hx : ok x) (hg : ∀ x, g = some x → ok x) : Only ok (goDown d b x g) := by
  unfold goDown
  split
  · split
    · exact only_touch (only_set h hg) _ _
    · split
      · exact h
      · exact only_fill h _ hg
  · split
    · exact only_touch h _ _
    · have h' : Only ok (fillB d b 1 (some x)) := only_fill h 1 fun y e => by cases e; exact hx
      split
      · intro r hr y hy
        rcases List.mem_or_eq_of_mem_set hr with hr | rfl
        · exact h' r hr y hy
        · rcases List.mem_or_eq_of_mem_set hy with hy | e
          · exact h.row hy
          · cases e
      · exact h'
theorem only_ask {ok : N → Prop} {d : Dev} {b : Bx N} {x : N} (h : Only ok b) (hx : ok x) : Only ok (askB d b x) := by
  have hs : ∀ y, some x = some y → ok y := fun y e => by cases e; exact hx
  unfold askB
  split
  · exact only_touch h _ _
  · split
    · exact only_down (only_fill h 0 hs) hx fun y e => only_gone h e
    · exact only_fill h 0 hs
theorem only_empty (ok : N → Prop) (d : Dev) : Only ok (empty d) := by
  intro r hr x hx
  simp only [empty, List.mem_map] at hr
  obtain ⟨p, _, rfl⟩ := hr
  simp [List.mem_replicate] at hx
theorem holds_iff {b : Bx N} {x : N} : holds b x = true ↔ ∃ r ∈ b.rw, some x ∈ r := by
  simp [holds]
theorem holds_ask {d : Dev} {b : Bx N} {x y : N} (h : holds (askB d b x) y = true) : y = x ∨ holds b y = true := by
  have := only_ask (d := d) (ok := fun y => y = x ∨ holds b y = true) (b := b) (x := x) (fun r hr y hy => .inr (holds_iff.mpr ⟨r, hr, hy⟩)) (.inl rfl)
  obtain ⟨r, hr, hy⟩ := holds_iff.mp h
  exact this r hr y hy
end K53
end
section
set_option autoImplicit false
set_option linter.all false
namespace K53
variable {N : Type} [DecidableEq N]

/-! ### histories, rounds -/
/-- the device behind a history, and its misses -/
def runB (d : Dev) : Bx N → List N → Bx N
  | b, [] => b
  | b, x :: xs => runB d (askB d b x) xs
def runM (d : Dev) : Bx N → List N → Nat
  | _, [] => 0
  | b, x :: xs => (if holds b x = true then 0 else 1) + runM d (askB d b x) xs
def runA (d : Dev) : Bx N → List N → List Bool
  | _, [] => []
  | b, x :: xs => holds b x :: runA d (askB d b x) xs
def itB (d : Dev) (ring : List N) (b : Bx N) : Nat → Bx N
  | 0 => b
  | n + 1 => runB d (itB d ring b n) ring
def itM (d : Dev) (ring : List N) (b : Bx N) : Nat → Nat
  | 0 => 0
  | n + 1 => itM d ring b n + runM d (itB d ring b n) ring

theorem runA_length (d : Dev) : ∀ (xs : List N) (b : Bx N), (runA d b xs).length = xs.length
  | [], _ => rfl
  | x :: xs, b => by simp [runA, runA_length d xs]
theorem runA_count (d : Dev) : ∀ (xs : List N) (b : Bx N), (runA d b xs).count false = runM d b xs
  | [], _ => rfl
  | x :: xs, b => by
    rw [runA, runM, List.count_cons, runA_count d xs]
    cases holds b x <;> simp <;> omega
theorem runB_append (d : Dev) : ∀ (xs ys : List N) (b : Bx N), runB d b (xs ++ ys) = runB d (runB d b xs) ys
  | [], _, _ => rfl
  | x :: xs, ys, b => runB_append d xs ys (askB d b x)
theorem runM_append (d : Dev) : ∀ (xs ys : List N) (b : Bx N), runM d b (xs ++ ys) = runM d b xs + runM d (runB d b xs) ys
  | [], _, _ => by simp [runM, runB]
  | x :: xs, ys, b => by
    rw [List.cons_append, runM, runM, runB, runM_append d xs ys]; omega
theorem runM_le (d : Dev) : ∀ (xs : List N) (b : Bx N), runM d b xs ≤ xs.length
  | [], _ => Nat.le_refl _
  | x :: xs, b => by rw [runM, List.length_cons]; have := runM_le d xs (askB d b x); split <;> omega
theorem run_rep (d : Dev) (ring : List N) (b : Bx N) : ∀ n : Nat, runB d b (List.replicate n ring).flatten = itB d ring b n ∧ runM d b (List.replicate n ring).flatten = itM d ring b n
  | 0 => ⟨rfl, rfl⟩
  | n + 1 => by
    have h := run_rep d ring b n
    have e : (List.replicate (n + 1) ring).flatten = (List.replicate n ring).flatten ++ ring := by
      rw [List.replicate_succ', List.flatten_append]; simp
    rw [e, runB_append, runM_append, h.1, h.2]
    exact ⟨rfl, rfl⟩
theorem itB_add (d : Dev) (ring : List N) (b : Bx N) (m : Nat) : ∀ n : Nat, itB d ring b (m + n) = itB d ring (itB d ring b m) n
  | 0 => rfl
  | n + 1 => by show runB d (itB d ring b (m + n)) ring = runB d (itB d ring (itB d ring b m) n) ring; rw [itB_add d ring b m n]
theorem itM_add (d : Dev) (ring : List N) (b : Bx N) (m : Nat) : ∀ n : Nat, itM d ring b (m + n) = itM d ring b m + itM d ring (itB d ring b m) n
  | 0 => rfl
  | n + 1 => by
    show itM d ring b (m + n) + runM d (itB d ring b (m + n)) ring = itM d ring b m + (itM d ring (itB d ring b m) n + runM d (itB d ring (itB d ring b m) n) ring)
    rw [itM_add d ring b m n, itB_add]; omega
theorem itM_le (d : Dev) (ring : List N) (b : Bx N) : ∀ n : Nat, itM d ring b n ≤ n * ring.length
  | 0 => Nat.zero_le _
  | n + 1 => by
    have h1 := itM_le d ring b n
    have h2 := runM_le d ring (itB d ring b n)
    rw [Nat.succ_mul]
    show itM d ring b n + runM d (itB d ring b n) ring ≤ _
    omega

section
variable {d : Dev} {ring : List N} {b : Bx N}
theorem runB_ok (D : DevOk d) : ∀ (xs : List N) {b : Bx N}, BxOk d b → BxOk d (runB d b xs)
  | [], _, B => B
  | x :: xs, _, B => runB_ok D xs (askB_ok D B x)
theorem itB_ok (D : DevOk d) (B : BxOk d b) : ∀ n : Nat, BxOk d (itB d ring b n)
  | 0 => B
  | n + 1 => runB_ok D ring (itB_ok D B n)
theorem runB_only {ok : N → Prop} : ∀ (xs : List N) {b : Bx N}, (∀ x ∈ xs, ok x) → Only ok b → Only ok (runB d b xs)
  | [], _, _, B => B
  | x :: xs, _, h, B => runB_only xs (fun y hy => h y (List.mem_cons_of_mem _ hy)) (only_ask B (h x List.mem_cons_self))
theorem itB_only {ok : N → Prop} (h : ∀ x ∈ ring, ok x) (B : Only ok b) : ∀ n : Nat, Only ok (itB d ring b n)
  | 0 => B
  | n + 1 => runB_only ring h (itB_only h B n)
end

/-! ### a run that comes round -/
section
variable {d : Dev} {ring : List N} {b : Bx N} {f m : Nat}
theorem loop_B (h : itB d ring b (f + m) = itB d ring b f) : ∀ q r : Nat, itB d ring b (f + (q * m + r)) = itB d ring b (f + r)
  | 0, r => by rw [Nat.zero_mul, Nat.zero_add]
  | q + 1, r => by
    have e : f + ((q + 1) * m + r) = (f + m) + (q * m + r) := by rw [Nat.succ_mul]; omega
    rw [e, itB_add, h, ← itB_add]
    exact loop_B h q r
theorem loop_M (h : itB d ring b (f + m) = itB d ring b f) : ∀ q r : Nat, itM d ring b (f + (q * m + r)) = itM d ring b (f + r) + q * (itM d ring b (f + m) - itM d ring b f)
  | 0, r => by rw [Nat.zero_mul, Nat.zero_add, Nat.zero_mul, Nat.add_zero]
  | q + 1, r => by
    have e : f + ((q + 1) * m + r) = (f + m) + (q * m + r) := by rw [Nat.succ_mul]; omega
    have ih := loop_M h q r
    have e1 := itM_add d ring b (f + m) (q * m + r)
    have e2 := itM_add d ring b f (q * m + r)
    have e3 := itM_add d ring b f m
    rw [e, e1, h]
    rw [Nat.succ_mul]
    omega
end

/-! ### what is seen of a box -/
/-- the states, the contents of all lines -/
def mom (b : Bx N) : List Nat × List (Option N) := (b.st, b.rw.flatten)
theorem flat_inj {α : Type} : ∀ {xs ys : List (List α)}, xs.map List.length = ys.map List.length → xs.flatten = ys.flatten → xs = ys
  | [], [], _, _ => rfl
  | [], _ :: _, h, _ => by simp at h
  | _ :: _, [], h, _ => by simp at h
  | x :: xs, y :: ys, h, e => by
    simp only [List.map_cons, List.cons.injEq] at h
    simp only [List.flatten_cons] at e
    obtain ⟨h1, h2⟩ := List.append_inj e h.1
    rw [h1, flat_inj h.2 h2]
theorem BxOk.lens {d : Dev} {b : Bx N} (B : BxOk d b) : b.rw.map List.length = d.pols.map Pol.lines := by
  refine List.ext_getElem? fun l => ?_
  rw [List.getElem?_map, List.getElem?_map]
  cases e : d.pols[l]? with
  | none =>
    have : b.rw[l]? = none := by
      have h := List.getElem?_eq_none_iff.mp e
      exact List.getElem?_eq_none_iff.mpr (by rw [B.rl]; exact h)
    rw [this]; rfl
  | some p =>
    obtain ⟨r, h1, h2⟩ := B.r l p e
    rw [h1]
    show some r.length = some p.lines
    rw [h2]
theorem mom_inj {d : Dev} {a b : Bx N} (A : BxOk d a) (B : BxOk d b) (h : mom a = mom b) : a = b := by
  obtain ⟨st, rw⟩ := a
  obtain ⟨st', rw'⟩ := b
  unfold mom at h
  simp only [Prod.mk.injEq] at h
  have e := flat_inj (A.lens.trans B.lens.symm) h.2
  simp only at e
  rw [h.1, e]

/-! ### there are only so many -/
theorem nodup_bound : ∀ (n : Nat) (l : List Nat), l.Nodup → (∀ x ∈ l, x < n) → l.length ≤ n
  | 0, [], _, _ => Nat.le_refl _
  | 0, x :: _, _, h => absurd (h x List.mem_cons_self) (Nat.not_lt_zero _)
  | n + 1, l, hn, h => by
    have ih := nodup_bound n (l.erase n) (hn.erase n) fun x hx => by
      have h1 := h x (List.mem_of_mem_erase hx)
      have h2 : x ≠ n := fun e => by
        subst e
        exact (List.Nodup.not_mem_erase hn) hx
      omega
    by_cases hm : n ∈ l
    · have := List.length_erase_of_mem hm
      have : 0 < l.length := List.length_pos_of_mem hm
      omega
    · rw [List.erase_of_not_mem hm] at ih
      omega
/-- a number for a list of figures below k -/
def numL (k : Nat) : List Nat → Nat
  | [] => 0
  | x :: xs => x + k * numL k xs
theorem numL_lt {k : Nat} : ∀ (xs : List Nat), (∀ x ∈ xs, x < k) → numL k xs < k ^ xs.length
  | [], _ => Nat.one_pos
  | x :: xs, h => by
    have h1 := h x List.mem_cons_self
    have h2 := numL_lt xs fun y hy => h y (List.mem_cons_of_mem _ hy)
    rw [numL, List.length_cons, Nat.pow_succ]
    have h3 : k * (numL k xs + 1) ≤ k * k ^ xs.length := Nat.mul_le_mul_left k h2
    rw [Nat.mul_add, Nat.mul_one, Nat.mul_comm k (k ^ xs.length)] at h3
    omega
theorem numL_inj {k : Nat} : ∀ {xs ys : List Nat}, (∀ x ∈ xs, x < k) → (∀ x ∈ ys, x < k) → xs.length = ys.length → numL k xs = numL k ys → xs = ys
  | [], [], _, _, _, _ => rfl
  | [], _ :: _, _, _, h, _ => by simp at h
  | _ :: _, [], _, _, h, _ => by simp at h
  | x :: xs, y :: ys, h1, h2, hl, e => by
    have hx := h1 x List.mem_cons_self
    have hy := h2 y List.mem_cons_self
    simp only [numL] at e
    have ex : x = y := by
      have a := congrArg (· % k) e
      simp only [Nat.add_mul_mod_self_left] at a
      rwa [Nat.mod_eq_of_lt hx, Nat.mod_eq_of_lt hy] at a
    subst ex
    have e2 : numL k xs = numL k ys := by
      have a : k * numL k xs = k * numL k ys := by omega
      exact Nat.eq_of_mul_eq_mul_left (by omega) a
    rw [numL_inj (fun z hz => h1 z (List.mem_cons_of_mem _ hz)) (fun z hz => h2 z (List.mem_cons_of_mem _ hz)) (by simpa using hl) e2]
def figO (names : List N) : Option N → Nat
  | none => 0
  | some x => names.idxOf x + 1
theorem figO_inj {names : List N} {a b : Option N} (ha : ∀ x, a = some x → x ∈ names) (hb : ∀ x, b = some x → x ∈ names) (e : figO names a = figO names b) : a = b := by
  cases a with
  | none => cases b with
    | none => rfl
    | some y => simp [figO] at e
  | some x => cases b with
    | none => simp [figO] at e
    | some y =>
      simp only [figO, Nat.add_right_cancel_iff] at e
      have h1 := List.idxOf_lt_length_of_mem (ha x rfl)
      have h2 := List.idxOf_lt_length_of_mem (hb y rfl)
      have g1 : names[names.idxOf x] = x := List.getElem_idxOf h1
      have g2 : names[names.idxOf y] = y := List.getElem_idxOf h2
      have : names[names.idxOf x] = names[names.idxOf y] := by simp only [e]
      rw [g1, g2] at this
      rw [this]
theorem figO_lt {names : List N} {a : Option N} (ha : ∀ x, a = some x → x ∈ names) : figO names a < names.length + 1 := by
  cases a with
  | none => simp [figO]
  | some x => have := List.idxOf_lt_length_of_mem (ha x rfl); simp only [figO]; omega

def code (names : List N) (b : Bx N) : Nat := numL 6 b.st + 36 * numL 7 (b.rw.flatten.map (figO names))

theorem BxOk.st6 {d : Dev} {b : Bx N} (D : DevOk d) (B : BxOk d b) : ∀ s ∈ b.st, s < 6 := fun s hs => by
  obtain ⟨l, hl⟩ := List.mem_iff_getElem?.mp hs
  have h1 : l < d.pols.length := by rw [← B.sl]; exact (List.getElem?_eq_some_iff.mp hl).1
  have hp : d.pols[l]? = some d.pols[l] := List.getElem?_eq_getElem h1
  obtain ⟨s', e, h2⟩ := B.s l _ hp
  rw [hl] at e; cases e
  exact Nat.lt_of_lt_of_le h2 (D.p _ (List.getElem_mem h1)).r6
theorem DevOk.two {d : Dev} (D : DevOk d) : d.pols.length ≤ 2 := by rcases D.m with ⟨_, h⟩ | ⟨_, _, h⟩ <;> omega
theorem sum_le3 : ∀ (l : List Nat), (∀ x ∈ l, x ≤ 3) → l.sum ≤ 3 * l.length
  | [], _ => by simp
  | x :: l, h => by
    have h1 := h x List.mem_cons_self
    have h2 := sum_le3 l fun y hy => h y (List.mem_cons_of_mem _ hy)
    rw [List.sum_cons, List.length_cons]; omega
theorem BxOk.flat6 {d : Dev} {b : Bx N} (D : DevOk d) (B : BxOk d b) : b.rw.flatten.length ≤ 6 := by
  rw [List.length_flatten, B.lens]
  have h1 := sum_le3 (d.pols.map Pol.lines) fun x hx => by
    obtain ⟨p, hp, rfl⟩ := List.mem_map.mp hx
    exact (D.p p hp).l3
  have := D.two
  rw [List.length_map] at h1
  omega
theorem flat_only {ok : N → Prop} {b : Bx N} (h : Only ok b) : ∀ o ∈ b.rw.flatten, ∀ x, o = some x → ok x := fun o ho x e => by
  obtain ⟨r, hr, hx⟩ := List.mem_flatten.mp ho
  subst e
  exact h r hr x hx

theorem pow_le_of {k m n : Nat} (hk : 0 < k) (h : m ≤ n) : k ^ m ≤ k ^ n := Nat.pow_le_pow_right hk h
theorem code_lt {d : Dev} {b : Bx N} {names : List N} (D : DevOk d) (B : BxOk d b) (h6 : names.length ≤ 6) (O : Only (· ∈ names) b) : code names b < 4235364 := by
  have h1 := numL_lt (k := 6) b.st (B.st6 D)
  have h2 : numL 7 (b.rw.flatten.map (figO names)) < 7 ^ (b.rw.flatten.map (figO names)).length := numL_lt _ fun x hx => by
    obtain ⟨o, ho, rfl⟩ := List.mem_map.mp hx
    have := figO_lt (names := names) (a := o) fun x e => flat_only O o ho x e
    omega
  rw [List.length_map] at h2
  have h3 : 6 ^ b.st.length ≤ 6 ^ 2 := pow_le_of (by decide) (by rw [B.sl]; exact D.two)
  have h4 : 7 ^ b.rw.flatten.length ≤ 7 ^ 6 := pow_le_of (by decide) (B.flat6 D)
  unfold code
  have e1 : (6 : Nat) ^ 2 = 36 := by decide
  have e2 : (7 : Nat) ^ 6 = 117649 := by decide
  omega
theorem code_inj {d : Dev} {a b : Bx N} {names : List N} (D : DevOk d) (A : BxOk d a) (B : BxOk d b) (h6 : names.length ≤ 6) (OA : Only (· ∈ names) a) (OB : Only (· ∈ names) b) (e : code names a = code names b) : a = b := by
  unfold code at e
  have h1 := numL_lt (k := 6) a.st (A.st6 D)
  have h2 := numL_lt (k := 6) b.st (B.st6 D)
  have h3 : 6 ^ a.st.length ≤ 6 ^ 2 := pow_le_of (by decide) (by rw [A.sl]; exact D.two)
  have h4 : 6 ^ b.st.length ≤ 6 ^ 2 := pow_le_of (by decide) (by rw [B.sl]; exact D.two)
  have e1 : (6 : Nat) ^ 2 = 36 := by decide
  have es : numL 6 a.st = numL 6 b.st := by omega
  have er : numL 7 (a.rw.flatten.map (figO names)) = numL 7 (b.rw.flatten.map (figO names)) := by omega
  have fa : ∀ {c : Bx N}, Only (· ∈ names) c → ∀ x ∈ c.rw.flatten.map (figO names), x < 7 := fun {c} O x hx => by
    obtain ⟨o, ho, rfl⟩ := List.mem_map.mp hx
    have := figO_lt (names := names) (a := o) fun x e => flat_only O o ho x e
    omega
  have st : a.st = b.st := numL_inj (A.st6 D) (B.st6 D) (A.sl.trans B.sl.symm) es
  have hl : a.rw.flatten.length = b.rw.flatten.length := by rw [List.length_flatten, List.length_flatten, A.lens, B.lens]
  have fl := numL_inj (fa OA) (fa OB) (by rw [List.length_map, List.length_map]; exact hl) er
  refine mom_inj A B ?_
  unfold mom
  rw [st]
  refine congrArg _ (List.ext_getElem hl fun i h1 h2 => ?_)
  have q : (a.rw.flatten.map (figO names))[i]? = (b.rw.flatten.map (figO names))[i]? := by rw [fl]
  rw [List.getElem?_map, List.getElem?_map, List.getElem?_eq_getElem h1, List.getElem?_eq_getElem h2] at q
  exact figO_inj (fun x e => flat_only OA _ (List.getElem_mem h1) x e) (fun x e => flat_only OB _ (List.getElem_mem h2) x e) (Option.some.inj q)

/-- n rounds without a return: n is small -/
theorem rounds_few {d : Dev} {ring names : List N} {b : Bx N} (D : DevOk d) (B : BxOk d b) (h6 : names.length ≤ 6) (hr : ∀ x ∈ ring, x ∈ names) (O : Only (· ∈ names) b) {n : Nat}
    (h : ∀ i j, i < j → j < n → itB d ring b i ≠ itB d ring b j) : n ≤ 4235364 := by
  have := nodup_bound 4235364 ((List.range n).map fun i => code names (itB d ring b i)) ?_ ?_
  · simpa using this
  · refine List.pairwise_map.mpr (List.Pairwise.imp_of_mem ?_ (List.pairwise_lt_range (n := n)))
    intro i j hi hj hij e
    exact h i j hij (List.mem_range.mp hj) (code_inj D (itB_ok D B i) (itB_ok D B j) h6 (itB_only hr O i) (itB_only hr O j) e)
  · intro x hx
    obtain ⟨i, _, rfl⟩ := List.mem_map.mp hx
    exact code_lt D (itB_ok D B i) h6 (itB_only hr O i)
end K53
end
section
set_option Elab.async false
set_option linter.all false
set_option maxRecDepth 100000
set_option maxHeartbeats 4000000
namespace K53
open PySem PySem.Spec PyProof.Rows L2

/-! ### data made of tuples -/
mutual
inductive TN (H : Hp) : V → NestedKey → Prop
  | none : TN H .non .none
  | num (i : Int) : TN H (.int i) (.num i)
  | text (x : Str) : TN H (.str x) (.text x)
  | tup {a : Addr} {xs : List V} {ks : List NestedKey} : H a = some (.tup xs) → TNs H xs ks → TN H (.ref a) (.tup ks)
inductive TNs (H : Hp) : List V → List NestedKey → Prop
  | nil : TNs H [] []
  | cons {v : V} {vs : List V} {k : NestedKey} {ks : List NestedKey} : TN H v k → TNs H vs ks → TNs H (v :: vs) (k :: ks)
end
/-- the tuples stay -/
def Tk (H H' : Hp) : Prop := ∀ a xs, H a = some (.tup xs) → H' a = some (.tup xs)
theorem Tk.refl (H : Hp) : Tk H H := fun _ _ h => h
theorem Tk.trans {H H1 H2 : Hp} (a : Tk H H1) (b : Tk H1 H2) : Tk H H2 := fun c xs h => b c xs (a c xs h)
theorem Same.tk {H H' : Hp} (s : Same H H') : Tk H H' := fun a xs h => s a _ h
mutual
theorem TN.mono {H H' : Hp} (t : Tk H H') : ∀ (k : NestedKey) (v : V), TN H v k → TN H' v k
  | .none, _, h => by cases h; exact .none
  | .num i, _, h => by cases h; exact .num i
  | .text x, _, h => by cases h; exact .text x
  | .tup ks, _, h => by cases h with | tup e r => exact .tup (t _ _ e) (TNs.mono t ks _ r)
theorem TNs.mono {H H' : Hp} (t : Tk H H') : ∀ (ks : List NestedKey) (vs : List V), TNs H vs ks → TNs H' vs ks
  | [], _, h => by cases h; exact .nil
  | k :: ks, _, h => by cases h with | cons a b => exact .cons (TN.mono t k _ a) (TNs.mono t ks _ b)
end
theorem TN.up {H H' : Hp} {k : NestedKey} {v : V} (h : TN H v k) (t : Tk H H') : TN H' v k := TN.mono t k v h
theorem TNs.up {H H' : Hp} {k : List NestedKey} {v : List V} (h : TNs H v k) (t : Tk H H') : TNs H' v k := TNs.mono t k v h
theorem TNs.length {H : Hp} : ∀ {vs : List V} {ks : List NestedKey}, TNs H vs ks → vs.length = ks.length
  | [], _, h => by cases h; rfl
  | v :: vs, _, h => by cases h with | cons a b => simp [TNs.length b]
theorem TNs.get {H : Hp} : ∀ {vs : List V} {ks : List NestedKey} {i : Nat} {k : NestedKey}, TNs H vs ks → ks[i]? = some k → ∃ v, vs[i]? = some v ∧ TN H v k
  | [], _, i, k, h, e => by cases h; simp at e
  | v :: vs, _, 0, k, h, e => by cases h with | cons a b => simp at e; subst e; exact ⟨v, rfl, a⟩
  | v :: vs, _, i + 1, k, h, e => by cases h with | cons a b => exact TNs.get (i := i) b (by simpa using e)
theorem TNs.getV {H : Hp} : ∀ {vs : List V} {ks : List NestedKey} {i : Nat} {v : V}, TNs H vs ks → vs[i]? = some v → ∃ k, ks[i]? = some k ∧ TN H v k
  | [], _, i, k, h, e => by simp at e
  | v :: vs, _, 0, k, h, e => by cases h with | cons a b => simp at e; subst e; exact ⟨_, rfl, a⟩
  | v :: vs, _, i + 1, k, h, e => by cases h with | cons a b => exact TNs.getV (i := i) b (by simpa using e)
theorem TNs.append {H : Hp} : ∀ {vs ws : List V} {ks ls : List NestedKey}, TNs H vs ks → TNs H ws ls → TNs H (vs ++ ws) (ks ++ ls)
  | [], _, _, _, h, q => by cases h; exact q
  | v :: vs, _, _, _, h, q => by cases h with | cons a b => exact .cons a (TNs.append b q)
theorem TNs.one {H : Hp} {v : V} {k : NestedKey} (h : TN H v k) : TNs H [v] [k] := .cons h .nil
theorem TNs.drop {H : Hp} : ∀ {vs : List V} {ks : List NestedKey} (n : Nat), TNs H vs ks → TNs H (vs.drop n) (ks.drop n)
  | _, _, 0, h => h
  | _, _, n + 1, .nil => .nil
  | _, _, n + 1, .cons a b => by simpa using TNs.drop n b
theorem TNs.take {H : Hp} : ∀ {vs : List V} {ks : List NestedKey} (n : Nat), TNs H vs ks → TNs H (vs.take n) (ks.take n)
  | _, _, 0, h => by simp; exact .nil
  | _, _, n + 1, .nil => by simp; exact .nil
  | _, _, n + 1, .cons a b => by simp only [List.take_succ_cons]; exact .cons a (TNs.take n b)
/-- the values of flat data are written -/
theorem TN.tup_inv {H : Hp} {v : V} {ks : List NestedKey} (h : TN H v (.tup ks)) : ∃ a xs, v = .ref a ∧ H a = some (.tup xs) ∧ TNs H xs ks := by
  cases h with | tup e r => exact ⟨_, _, rfl, e, r⟩
theorem TN.num_inv {H : Hp} {v : V} {i : Int} (h : TN H v (.num i)) : v = .int i := by cases h; rfl
theorem TN.text_inv {H : Hp} {v : V} {x : Str} (h : TN H v (.text x)) : v = .str x := by cases h; rfl
theorem TN.none_inv {H : Hp} {v : V} (h : TN H v .none) : v = .non := by cases h; rfl
theorem TNs.nums {H : Hp} : ∀ {vs : List V} {is : List Int}, TNs H vs (is.map .num) → vs = is.map V.int
  | [], [], _ => rfl
  | [], _ :: _, h => by cases h
  | _ :: _, [], h => by cases h
  | v :: vs, i :: is, h => by cases h with | cons a b => rw [TN.num_inv a, TNs.nums b]; rfl
theorem TNs.of_nums {H : Hp} : ∀ (is : List Int), TNs H (is.map V.int) (is.map .num)
  | [] => .nil
  | i :: is => .cons (.num i) (TNs.of_nums is)
mutual
theorem TN.dp {K : PySem.W.Frag} {H : Hp} : ∀ (k : NestedKey) (v : V), TN H v k → Dp K H v k.data
  | .none, _, h => by cases h; exact .non
  | .num i, _, h => by cases h; exact .int i
  | .text x, _, h => by cases h; exact .str x
  | .tup ks, _, h => by cases h with | tup e r => exact .tup (.inl (.inl e)) (TNs.dp ks _ r)
theorem TNs.dp {K : PySem.W.Frag} {H : Hp} : ∀ (ks : List NestedKey) (vs : List V), TNs H vs ks → DpAll K H vs (NestedKey.datas ks)
  | [], _, h => by cases h; exact .nil
  | k :: ks, _, h => by cases h with | cons a b => exact .cons (TN.dp k _ a) (TNs.dp ks _ b)
end
theorem datas_map : ∀ ks : List NestedKey, NestedKey.datas ks = ks.map NestedKey.data
  | [] => rfl
  | k :: ks => by rw [NestedKey.datas, datas_map ks]; rfl
mutual
theorem eqv_data : ∀ a b : NestedKey, PyData.eqv a.data b.data = NestedKey.beq a b
  | .none, .none => by simp [NestedKey.data, PyData.eqv, NestedKey.beq]
  | .num i, .num j => by simp only [NestedKey.data, PyData.eqv, NestedKey.beq]; by_cases h : i = j <;> simp [h]
  | .text i, .text j => by simp only [NestedKey.data, PyData.eqv, NestedKey.beq]; by_cases h : i = j <;> simp [h]
  | .tup i, .tup j => by simp only [NestedKey.data, PyData.eqv, NestedKey.beq]; exact eqv_datas i j
  | .none, .num _ | .none, .text _ | .none, .tup _ => by simp [NestedKey.data, PyData.eqv, NestedKey.beq]
  | .num _, .none | .num _, .text _ | .num _, .tup _ => by simp [NestedKey.data, PyData.eqv, NestedKey.beq]
  | .text _, .none | .text _, .num _ | .text _, .tup _ => by simp [NestedKey.data, PyData.eqv, NestedKey.beq]
  | .tup _, .none | .tup _, .num _ | .tup _, .text _ => by simp [NestedKey.data, PyData.eqv, NestedKey.beq]
theorem eqv_datas : ∀ a b : List NestedKey, PyData.eqvAll (NestedKey.datas a) (NestedKey.datas b) = NestedKey.beqAll a b
  | [], [] => by simp [NestedKey.datas, PyData.eqvAll, NestedKey.beqAll]
  | [], _ :: _ => by simp [NestedKey.datas, PyData.eqvAll, NestedKey.beqAll]
  | _ :: _, [] => by simp [NestedKey.datas, PyData.eqvAll, NestedKey.beqAll]
  | a :: as, b :: bs => by simp only [NestedKey.datas, PyData.eqvAll, NestedKey.beqAll]; rw [eqv_data a b, eqv_datas as bs]
end
theorem eqv_iff (a b : NestedKey) : PyData.eqv a.data b.data = decide (a = b) := by rw [eqv_data, NestedKey.decide_eq]

/-! ### the tracked tuples are keys of the model -/
section
variable {P : Program} {w : World} {H : Hp} {h : Heap}
mutual
theorem TN.is (ok : HOk P w H h) : ∀ (k : NestedKey) (v : V) (u : Value), TN H v k → RelV v u → NestedIs h k u
  | .none, _, _, t, r => by cases t; rw [show _ = Value.none from r]; exact .none
  | .num i, _, _, t, r => by cases t; obtain ⟨t, rfl⟩ := (show ∃ t, _ = Value.int i t from r); exact .int i t
  | .text x, _, _, t, r => by cases t; obtain ⟨t, rfl⟩ := (show ∃ t, _ = Value.str x t from r); exact .text x t
  | .tup ks, _, _, t, r => by
    cases t with
    | @tup a xs _ e q =>
      obtain rfl : _ = Value.ref a := r
      obtain ⟨_, its, rv, o, h1, h2, n, h3⟩ := (show ObjOk P w H h a (.tup xs) from ok a _ e)
      exact .tup h1 h2 h3 (TNs.is ok ks _ _ q (by simpa using rv))
theorem TNs.is (ok : HOk P w H h) : ∀ (ks : List NestedKey) (vs : List V) (us : List Value), TNs H vs ks → Vals vs us → NestedAll h ks us
  | [], _, _, t, r => by cases t; cases r; exact .nil
  | k :: ks, _, _, t, r => by
    cases t with
    | cons a b =>
      cases r with
      | cons r1 r2 => exact .cons (TN.is ok k _ _ a r1) (TNs.is ok ks _ _ b r2)
end
end

/-! ### a dict whose keys are such tuples: its entries are told by the object alone, the keys' tuples by the abstract heap -/
abbrev KEnt := NestedKey × Addr × V
abbrev KR : List KEnt → List (NestedKey × Addr × Value) → Prop := Paired fun p q => p.1 = q.1 ∧ p.2.1 = q.2.1 ∧ RelV p.2.2 q.2.2
def knownP (P : Program) (w : World) (d : Addr) (xs : List KEnt) (h : Heap) : Prop :=
  xs.length ≤ sizeLine ∧ (d == sysModules) = false ∧ ∃ ys, KR xs ys ∧ ∃ o es ep, h.get? d = some o ∧ o.ExactDict ∧ o.data = .dict es ep ∧ es.toList = ys.map (entryOfKey (nestedKind P w)) ∧ (ys.map (·.1)).Nodup
def knownO (P : Program) (w : World) (d : Addr) (xs : List KEnt) : HO := .ext (knownP P w d xs)
theorem knownP.stay {P : Program} {w : World} {d : Addr} {xs : List KEnt} {h1 h2 : Heap} (x : knownP P w d xs h1) (k : ∀ o, h1.get? d = some o → h2.get? d = some o) : knownP P w d xs h2 := by
  obtain ⟨a, b, ys, r, o, es, ep, e, q⟩ := x
  exact ⟨a, b, ys, r, o, es, ep, k o e, q⟩
theorem knownO_ok {P : Program} {w : World} {H : Hp} {d : Addr} {xs : List KEnt} {h : Heap} (x : knownP P w d xs h) : ObjOk P w H h d (knownO P w d xs) :=
  ⟨x, let ⟨_, _, _, _, o, _, _, e, _⟩ := x; ⟨o, e⟩, fun _ _ p k => p.stay k⟩
def keyAll (H : Hp) (xs : List KEnt) : Prop := ∀ x ∈ xs, TN H (.ref x.2.1) x.1 ∧ x.1.depth ≤ 8
theorem keyAll.up {H H' : Hp} {xs : List KEnt} (h : keyAll H xs) (t : Tk H H') : keyAll H' xs := fun x hx => ⟨(h x hx).1.up t, (h x hx).2⟩
def entV (xs : List KEnt) (k : NestedKey) : Option V := (xs.find? fun x => decide (x.1 = k)).map (·.2.2)
theorem KR.val {k : NestedKey} : ∀ {xs : List KEnt} {ys : List (NestedKey × Addr × Value)}, KR xs ys → RelO (entV xs k) ((atKey ys k).map (·.2))
  | [], _, .nil => trivial
  | x :: xs, y :: ys, .cons h t => by
    obtain ⟨e1, e2, e3⟩ := h
    have ih := KR.val (k := k) t
    unfold entV atKey at *
    by_cases e : x.1 = k
    · have e' : y.1 = k := e1 ▸ e
      simp only [List.find?_cons, e, e', decide_true, Option.map_some]
      exact e3
    · have e' : ¬ y.1 = k := e1 ▸ e
      simp only [List.find?_cons, e, e', decide_false]
      exact ih
section
variable {P : Program} {w : World} {H : Hp} {h : Heap} {d : Addr} {xs : List KEnt}
theorem known_dict (ok : HOk P w H h) (e : H d = some (knownO P w d xs)) (ka : keyAll H xs) : xs.length ≤ sizeLine ∧ (d == sysModules) = false ∧ ∃ ys, KR xs ys ∧ h.DictOfH (nestedKind P w) d ys := by
  obtain ⟨⟨a, b, ys, r, o, es, ep, h1, h2, h3, h4, h5⟩, _, _⟩ := (show ObjOk P w H h d (.ext (knownP P w d xs)) from ok d _ e)
  refine ⟨a, b, ys, r, o, es, ep, h1, h2, h3, h4, ?_, h5⟩
  have all : ∀ {l : List KEnt} {m : List (NestedKey × Addr × Value)}, KR l m → keyAll H l → ∀ y ∈ m, (nestedKind P w).is h y.1 y.2.1 := by
    intro l m q
    induction q with
    | nil => intro _ y hy; exact nomatch hy
    | @cons p q ps qs hq t ih =>
      intro ka y hy
      rcases List.mem_cons.mp hy with e | hy
      · subst e
        obtain ⟨k1, k2⟩ := ka p List.mem_cons_self
        rw [← hq.1, ← hq.2.1]
        exact ⟨TN.is ok p.1 _ _ k1 rfl, k2⟩
      · exact ih (fun z hz => ka z (List.mem_cons_of_mem _ hz)) y hy
  exact all r ka
end
theorem nested_room {P : Program} {w : World} {A : Around} (h : A.units + 64 < cLine) : (nestedKind P w).room A.in1 := by
  show A.units + 1 + 8 < cLine
  omega
theorem nested_room0 {P : Program} {w : World} {A : Around} (h : A.units + 64 < cLine) : (nestedKind P w).room A := by
  show A.units + 8 < cLine
  omega

def rKIn (P : Program) (w : World) : R2 := fun x y H Q => ∃ a d xs k, x = .ref a ∧ y = .ref d ∧ H d = some (knownO P w d xs) ∧ keyAll H xs ∧ TN H (.ref a) k ∧ k.depth ≤ 8 ∧ Q (.bl (entV xs k).isSome) H
def rKGet (P : Program) (w : World) : R2 := fun x y H Q => ∃ a d xs k v, x = .ref d ∧ y = .ref a ∧ H d = some (knownO P w d xs) ∧ keyAll H xs ∧ TN H (.ref a) k ∧ k.depth ≤ 8 ∧ entV xs k = some v ∧ Q v H
def rKSet (P : Program) (w : World) : TSet := fun o i v H Q => ∃ a d xs k, o = .ref d ∧ i = .ref a ∧ H d = some (knownO P w d xs) ∧ keyAll H xs ∧ TN H (.ref a) k ∧ k.depth ≤ 8 ∧ entV xs k = none ∧ xs.length < sizeLine ∧ Q (upd H d (knownO P w d (xs ++ [(k, a, v)])))
section
variable {X : Cx}
theorem op_kin (hu : X.A.units + 64 < cLine) : OpR X (compareOp .In) (rKIn X.prog X.w) := by
  intro pins s σ H x y v u Q I rx ry h
  obtain ⟨a, d, xs, k, rfl, rfl, e, ka, tk, dp, q⟩ := h
  cases rx; cases ry
  obtain ⟨z, hd, ys, r, dd⟩ := known_dict I.hok e ka
  refine wpAny_in_heap (nested_room hu) (k := k) ⟨TN.is I.hok k _ _ tk rfl, dp⟩ hd dd ?_
  have e1 := (KR.val (k := k) r).isSome_eq
  rw [Option.isSome_map] at e1
  exact ⟨.bl _, H, I.tok _, by rw [← e1]; rfl, q⟩
theorem ix_known (hu : X.A.units + 64 < cLine) : IxR X (rKGet X.prog X.w) := by
  intro value slice pins s σ H x y v u Q I rx ry h hs
  obtain ⟨a, d, xs, k, z, rfl, rfl, e, ka, tk, dp, l, q⟩ := h
  cases rx; cases ry
  obtain ⟨_, hd, ys, r, dd⟩ := known_dict I.hok e ka
  obtain ⟨w', hw, rw'⟩ := RelO.some_of (v := z) (o := (atKey ys k).map (·.2)) (by rw [← l]; exact KR.val r)
  obtain ⟨p, hp, hp2⟩ := Option.map_eq_some_iff.mp hw
  refine tail_any dd.typeIs slot_dict_getitem.lookup (wpAny_getItem_heap (nested_room hu) (k := k) ⟨TN.is I.hok k _ _ tk rfl, dp⟩ dd hp ?_) hs
  rw [hp2]
  exact ⟨z, H, I.tok _, rw', q⟩
theorem set_known (hu : X.A.units + 64 < cLine) : PSet X (rKSet X.prog X.w) := by
  intro pins s σ H o i v ov iv u Q I ro ri rv h
  obtain ⟨a, d, xs, k, rfl, rfl, e, ka, tk, dp, l, hz, q⟩ := h
  cases ro; cases ri
  obtain ⟨z, hd, ys, r, dd⟩ := known_dict I.hok e ka
  have hl := Paired.length r
  have hn : atKey ys k = none := by
    have := RelO.none_of (o := (atKey ys k).map (·.2)) (by rw [← l]; exact KR.val r)
    exact Option.map_eq_none_iff.mp this
  refine wpAny_setItem_heap (hsz := by rw [← hl]; exact z) (nested_room hu) (k := k) ⟨TN.is I.hok k _ _ tk rfl, dp⟩ dd fun h' dd' hs => ?_
  rw [storedH_new hn] at dd'
  obtain ⟨ob, es, ep, hq, h2, h3, h4, _, h5⟩ := dd'
  refine ⟨_, d_write I (by rw [e]; exact True.intro) hs ⟨ob, hq⟩ (knownO_ok ⟨?_, hd, ys ++ [(k, a, u)], Paired.snoc r ⟨rfl, rfl, rv⟩, ob, es, ep, hq, h2, h3, h4, h5⟩), q⟩
  rw [List.length_append]; simp; omega
end
end K53
end
section
set_option Elab.async false
set_option linter.all false
set_option maxRecDepth 100000
set_option maxHeartbeats 4000000
namespace K53
open PySem PySem.Spec PyProof.Rows L2

/-! ### {k: v}, k a tuple -/
def tDisp1 (P : Program) (w : World) (tk tv : TE) : TE := fun σ H Q => ∀ p, H p = none → tk σ (upd H p (knownO P w p [])) fun x H1 => tv σ H1 fun y H2 =>
  ∃ a k, x = .ref a ∧ H2 p = some (knownO P w p []) ∧ TN H2 (.ref a) k ∧ k.depth ≤ 8 ∧ Q (.ref p) (upd H2 p (knownO P w p [(k, a, y)]))
theorem pe_disp1 {X : Cx} {pos : Pos} {kx vx : Expr} {tk tv : TE} (hk : PE X kx tk) (hv : PE X vx tv) (hu : X.A.units + 64 < cLine) : PE X (.Dict [some kx] [vx] pos) (tDisp1 X.prog X.w tk tv) := by
  refine ⟨fun pins s σ H Q I q => ?_⟩
  have hn := I.hok.fresh (Nat.le_refl s.heap.objs.size)
  have hb : (s.heap.objs.size == sysModules) = false := beq_eq_false_iff_ne.mpr (Ne.symm (Nat.ne_of_lt I.big))
  have I1 := I.laid (a := s.heap.objs.size) (o := knownO X.prog X.w s.heap.objs.size []) (h' := s.heap.push { cls := .type "dict", data := .dict #[] }) (t' := s.toks) (fun _ _ q => Heap.get?_push_of_some _ q) (Nat.le_refl _)
    (knownO_ok ⟨Nat.zero_le _, hb, [], .nil, _, #[], 0, Heap.get?_push_size _ rfl, ⟨rfl, rfl, rfl⟩, rfl, rfl, List.nodup_nil⟩)
  rw [arm_eval_Dict, zip_pairTrees [some kx] [vx] X.env pos rfl rfl, dictDisplay_pairs _ (by intro e; cases e) (by show 1 < 17; decide)]
  refine wpAny_bind (wpAny_standAt (wpAny_bind (wpAny_subDictH (knd := nestedKind X.prog X.w) (pairs := pairTrees [some kx] [vx] X.env pos) (nested_room0 hu) (by show 1 ≤ 15; decide) ?_)))
  refine pairTrees_cons_walk (thn (hk.run pins _ σ _ _ I1 (q _ hn)) fun u s1 ⟨x, H1, I1, rx, q1⟩ => thn (hv.run pins s1 σ H1 _ I1 q1) fun w2 s2 ⟨y, H2, I2, ry, a, k, ex, e, tk, dp, q2⟩ => pairTrees_nil_walk ?_)
  subst ex
  obtain rfl : u = Value.ref a := rx
  obtain ⟨z, hd, ys, r, dd⟩ := known_dict I2.hok e (fun x hx => absurd hx (List.not_mem_nil))
  cases r
  refine ⟨[(k, a, w2)], ⟨rfl, rfl, ⟨TN.is I2.hok k _ _ tk rfl, dp⟩, trivial⟩, dd, fun h' t' dd' hs => wpAny_pure ⟨.ref s.heap.objs.size, _, ?_, rfl, q2⟩⟩
  have dd2 : h'.DictOfH (nestedKind X.prog X.w) s.heap.objs.size [(k, a, w2)] := dd'
  obtain ⟨ob, es, ep, hq, h2, h3, h4, _, h5⟩ := dd2
  exact d_write I2 (by rw [e]; exact True.intro) hs ⟨ob, hq⟩ (knownO_ok ⟨by show 1 ≤ sizeLine; decide, hd, [(k, a, w2)], .cons ⟨rfl, rfl, ry⟩ .nil, ob, es, ep, hq, h2, h3, h4, h5⟩)

/-! ### count(False) -/
def isF (v : Value) : Bool := match v with | .bool false => true | _ => false
theorem count_isF : ∀ {us : List Value} {bs : List Bool}, Vals (bs.map V.bl) us → us.countP isF = bs.count false
  | [], [], _ => rfl
  | _, b :: bs, h => by
    rw [List.map_cons] at h
    cases h with
    | @cons _ u _ us h t =>
      obtain rfl : u = Value.bool b := h
      rw [List.countP_cons, List.count_cons, count_isF t]
      cases b <;> rfl
  | u :: us, [], h => by cases h
theorem vals_bool : ∀ {us : List Value} {bs : List Bool}, Vals (bs.map V.bl) us → ∀ u ∈ us, ∃ b, u = .bool b
  | [], _, _, u, hu => nomatch hu
  | _ :: _, [], h, _, _ => by cases h
  | w :: us, b :: bs, h, u, hu => by
    rw [List.map_cons] at h
    cases h with
    | cons h t =>
      rcases List.mem_cons.mp hu with rfl | hu
      · exact ⟨b, h⟩
      · exact vals_bool t u hu
theorem isF_at {A : Around} {s : Shared} {b : Bool} : SeqAt.EqAt A s (.bool b) (.bool false) (isF (.bool b)) := by
  refine (SeqAt.EqAt.bool_bool b false).cast ?_
  cases b <;> rfl
section
variable {X : Cx}
def rCntF (K : PySem.W.Frag) : V → List V → Hp → VK → Prop := fun x xs H Q => ∃ (p : Addr) (bs : List Bool), x = .ref p ∧ xs = [.bl false] ∧ SqL K H p (bs.map V.bl) ∧ Q (.int (bs.count false : Nat)) H
theorem mt_lcountF : MtR X "list.count" (rCntF X.K) := by
  intro pins s σ H x xs v us Q I rx rxs h
  obtain ⟨p, bs, rfl, rfl, hs, q⟩ := h
  cases rx
  obtain ⟨u, rfl, ru⟩ := rxs.one
  obtain rfl : u = Value.bool false := ru
  obtain ⟨its, rv, ⟨⟨cls, dd, data, sl⟩, n, ho, hc, hdn, hd⟩, hlen⟩ := I.list hs
  simp only at hc hd
  subst hc hd
  refine call_meets PySem.F.slot_list_count ⟨_, ho, rfl⟩ PySem.F.entry_list_count (PySem.F.args_list_count_2 _ _)
    (SeqAt.list_countAt p its.toArray n dd sl (.bool false) isF) ⟨ho, fun y hy => ?_, ?_⟩
  · obtain ⟨b, rfl⟩ := vals_bool rv y (by simpa using hy)
    exact isF_at
  have ec : its.toArray.toList.countP isF = bs.count false := count_isF rv
  refine ⟨.int (bs.count false : Nat), H, I.tok _, ⟨s.toks, ?_⟩, q⟩
  show Value.int ((its.toArray.toList.countP isF : Nat) : Int) s.toks = Value.int ((bs.count false : Nat) : Int) s.toks
  rw [ec]
def rCntFT (K : PySem.W.Frag) : V → List V → Hp → VK → Prop := fun x xs H Q => ∃ (p : Addr) (bs : List Bool), x = .ref p ∧ xs = [.bl false] ∧ SqT K H p (bs.map V.bl) ∧ Q (.int (bs.count false : Nat)) H
theorem mt_tcountF : MtR X "tuple.count" (rCntFT X.K) := by
  intro pins s σ H x xs v us Q I rx rxs h
  obtain ⟨p, bs, rfl, rfl, hs, q⟩ := h
  cases rx
  obtain ⟨u, rfl, ru⟩ := rxs.one
  obtain rfl : u = Value.bool false := ru
  obtain ⟨its, rv, ⟨⟨cls, dd, data, sl⟩, ho, hc, n, hd⟩, hlen⟩ := I.tuple hs
  simp only at hc hd
  subst hc hd
  refine call_meets PySem.F.slot_tuple_count ⟨_, ho, rfl⟩ PySem.F.entry_tuple_count (PySem.F.args_tuple_count_2 _ _)
    (SeqAt.tuple_countAt p its.toArray n dd sl (.bool false) isF) ⟨ho, fun y hy => ?_, ?_⟩
  · obtain ⟨b, rfl⟩ := vals_bool rv y (by simpa using hy)
    exact isF_at
  have ec : its.toArray.toList.countP isF = bs.count false := count_isF rv
  refine ⟨.int (bs.count false : Nat), H, I.tok _, ⟨s.toks, ?_⟩, q⟩
  show Value.int ((its.toArray.toList.countP isF : Nat) : Int) s.toks = Value.int ((bs.count false : Nat) : Int) s.toks
  rw [ec]
end

/-! ### try: body / finally: suite, where nothing raises -/
section
variable {X : Cx} {body : List Stmt} {f₀ : Stmt} {fs : List Stmt} {pos : Pos} {tb tf : TS}
theorem ps_finN (hb : PSs X.nox body tb) (hf : PSs X.nox (f₀ :: fs) tf) : PS X (.Try body [] [] (f₀ :: fs) pos) (fun D σ H => tb { nx := fun σ1 H1 => tf D σ1 H1, rt := fun _ _ => False } σ H) := by
  refine ⟨fun pins s σ H D I h => ?_⟩
  refine wpAny_Try_finally (wpAny_mono (hb.run pins s σ H { nx := fun σ1 H1 => tf D σ1 H1, rt := fun _ _ => False } (I.wish _) h) (fun g s1 z => ?_) fun _ _ z => False.elim z)
  cases g with
  | ret u =>
    obtain ⟨_, _, _, _, _, q⟩ := z
    exact False.elim q
  | brk =>
    obtain ⟨_, _, _, q⟩ := z
    exact False.elim q
  | cont =>
    obtain ⟨_, _, _, q⟩ := z
    exact False.elim q
  | next =>
    obtain ⟨σ1, H1, J1, q1⟩ := z
    refine wpAny_execs_nil ?_
    refine wpAny_mono (hf.run pins s1 σ1 H1 D J1 q1) (fun g2 s2 q2 => ?_) fun _ _ e => False.elim e
    have q3 : SP X pins D g2 s2 := q2.unwish
    cases g2 <;> exact q3
end

/-! ### enumerate of a tuple -/
theorem meets_enumerate_newT (l : Addr) (items : Array Value) :
    Meets (Builtin.«enumerate.__new__» ⟨[.type "enumerate", .ref l], []⟩) (fun _ R s => s.heap.IsTuple l items ∧
      R (.ok (.ret (.ref (s.heap.push { cls := .type "tuple_iterator", data := .fields #[.ref l, .int 0 0] }).objs.size)))
        { s with heap := (s.heap.push { cls := .type "tuple_iterator", data := .fields #[.ref l, .int 0 0] }).push { cls := .type "enumerate", data := .fields #[.none, .bool false, .ref s.heap.objs.size, rawInt 0, .none, .none] } }) :=
  .of_wp fun prog w A R s h => by
    obtain ⟨hp, g, d, tk, os⟩ := s; obtain ⟨hl, h⟩ := h
    have hsub := sub_enumerate
    have q1 : ∀ {A' : Around} {E : Value → Shared → Prop} {Q : Value → Shared → Prop}, Q (.ref hp.objs.size) ⟨hp.push { cls := .type "tuple_iterator", data := .fields #[.ref l, .int 0 0] }, g, d, tk, os⟩ → wpAny (model prog w) A' (pyIter (.ref l)) Q E ⟨hp, g, d, tk, os⟩ :=
      fun q => wpAny_pyIter_tuple (s := ⟨hp, g, d, tk, os⟩) hl q
    wp_walk using q1
    refine wpAny_stack_any fun st => wpAny_pure ?_
    split
    · rename_i c _ _ _ _ _
      cases (c == Value.type "enumerate")
      · wp_walk using q1
        exact ⟨_, rfl, h⟩
      · wp_walk using q1
        exact ⟨_, rfl, h⟩
    · wp_walk using q1
      exact ⟨_, rfl, h⟩
end K53
end
section
set_option Elab.async false
set_option linter.all false
set_option maxRecDepth 100000
set_option maxHeartbeats 4000000
namespace K53
open PySem PySem.Spec PyProof.Rows L2

/-! ### isinstance of a def -/
namespace F
theorem slot_fn_ga : Slot "function" "__getattribute__" "object.__getattribute__" := .of (owner := "object") (n := "__getattribute__") (by rw [typeLookup_type, builtinLookup_eq_fast]; kernel_rfl) (by decide +kernel) (by decide +kernel) (by decide +kernel)
  (by first | exact .inl (by decide +kernel) | exact .inr (by decide +kernel)) (by rw [isSubtype_type]; kernel_rfl)
theorem lk_fn_class : typeLookup (.type "function") "__class__" = pure (some (.builtin "object.__class__")) := by rw [typeLookup_type, builtinLookup_eq_fast]; kernel_rfl
theorem sub_fn_class_owner : isSubtype (.type "function") (.type (".".intercalate ("object.__class__".cutAt '.').dropLast)) = pure true := by
  rw [PySem.F.owner_object_class, isSubtype_type]; kernel_rfl
end F
section
open Sem (wp)
variable {prog : Program} {w : World} {A : Around} {E : Value → Shared → Prop} {h : Heap} {g : Array GenState} {d : Drawn} {t : Nat} {os : OsState} {a : Addr} {o : Obj}
theorem class_get_fn {R : Result → Shared → Prop} (hx : h.get? a = some o) (hc : o.cls = .type "function") (hq : R (.ok (.ret (.type "function"))) ⟨h, g, d, t, os⟩) :
    codeAny (model prog w) A (.call (.builtin "getset_descriptor.__get__") ⟨[.builtin "object.__class__", .ref a, .type "function"], []⟩) R ⟨h, g, d, t, os⟩ := by
  have hT : (⟨h, g, d, t, os⟩ : Shared).TypeIs (.ref a) "function" := ⟨_, hx, hc⟩
  have hT5 : (⟨h, g, d, t, os⟩ : Shared).TypeIs (.builtin "object.__class__") "getset_descriptor" := PySem.F.typeOf_object_class
  have f8 := F.sub_fn_class_owner
  refine codeAny_call_builtin PySem.F.slot_gs_get.plain PySem.F.entry_gs_get (PySem.F.slot_gs_get.check _ _ _ _ _ _ _ _ hT5 (PySem.F.args_gs_get _ _ _) ?_)
  repeat (any_goals (first | assumption | wp_step))
  refine ⟨Code.quiet_builtin _ (by decide +kernel), codeAny_builtin PySem.F.entry_object_class ?_⟩
  repeat (any_goals (first | assumption | wp_step))
theorem class_entry_fn {tk : Tok} {Q : Fin → Shared → Prop} (hx : h.get? a = some o) (hc : o.cls = .type "function") (hq : Q (.done (.ret (.type "function"))) ⟨h, g, d, t, os⟩) :
    wpAny (model prog w) A (Builtin.«object.__getattribute__» ⟨[.ref a, .str "__class__" tk], []⟩) Q E ⟨h, g, d, t, os⟩ := by
  have hT : (⟨h, g, d, t, os⟩ : Shared).TypeIs (.ref a) "function" := ⟨_, hx, hc⟩
  have hT5 : (⟨h, g, d, t, os⟩ : Shared).TypeIs (.builtin "object.__class__") "getset_descriptor" := PySem.F.typeOf_object_class
  have f4 := F.lk_fn_class
  have f5 := PySem.F.typeOf_object_class
  have f6 := PySem.F.slot_gs_get.lookup
  have f7 := PySem.F.slot_gs_set.lookup
  repeat (any_goals (first | assumption | wp_step))
  refine class_get_fn hx hc ?_
  repeat (any_goals (first | assumption | wp_step))
theorem class_call_fn {tk : Tok} {R : Result → Shared → Prop} (hx : h.get? a = some o) (hc : o.cls = .type "function") (hq : R (.ok (.ret (.type "function"))) ⟨h, g, d, t, os⟩) :
    codeAny (model prog w) A (.call (.builtin "object.__getattribute__") ⟨[.ref a, .str "__class__" tk], []⟩) R ⟨h, g, d, t, os⟩ :=
  codeAny_call_builtin F.slot_fn_ga.plain PySem.F.entry_object_getattribute (F.slot_fn_ga.check _ _ _ _ _ _ _ _ (show (⟨h, g, d, t, os⟩ : Shared).TypeIs (.ref a) "function" from ⟨_, hx, hc⟩) (PySem.F.args_object_getattribute_2 _ _) (class_entry_fn hx hc hq))
theorem class_by_fn {tk : Tok} {Q : Value → Shared → Prop} (hx : h.get? a = some o) (hc : o.cls = .type "function") (hq : Q (.type "function") ⟨h, g, d, t, os⟩) : wpAny (model prog w) A (getAttrBy (.ref a) (.str "__class__" tk) false) Q E ⟨h, g, d, t, os⟩ := by
  have hT : (⟨h, g, d, t, os⟩ : Shared).TypeIs (.ref a) "function" := ⟨_, hx, hc⟩
  have f2 := F.slot_fn_ga.lookup
  have f3 := F.slot_fn_ga.bind (.ref a)
  repeat (any_goals (first | assumption | wp_step))
  refine class_call_fn hx hc ?_
  repeat (any_goals (first | assumption | wp_step))
theorem class_attr_fn {Q : Option Value → Shared → Prop} (hx : h.get? a = some o) (hc : o.cls = .type "function") (hq : Q (some (.type "function")) ⟨h, g, d, t + 1, os⟩) : wpAny (model prog w) A (getAttr? (.ref a) "__class__") Q E ⟨h, g, d, t, os⟩ := by
  unfold getAttr? getAttrBy?
  repeat (any_goals (first | assumption | with_reducible apply class_by_fn hx hc | wp_step))
end
theorem kitx_fn {K : PySem.W.Frag} {a : Addr} : PySem.W.KitX K (.ref a) (.type "function") (PySem.W.KitAt a "function") :=
  PySem.W.kitx_of PySem.W.kitAt_ty (fun {_ _ _ _ _ s} p k => by obtain ⟨h, g, d, t, os⟩ := s; obtain ⟨o, h1, h2⟩ := p; exact class_attr_fn h1 h2 k)
def rIsiF (K : PySem.W.Frag) : List V → Hp → VK → Prop := fun xs H Q => ∃ (f tp : Addr) (cs : List V) (us : List Value) (b : Bool), xs = [.ref f, .ref tp] ∧ PySem.W.typeIn K (.ref f) = some (.type "function") ∧ H tp = some (.tup cs) ∧ Paired ClsV cs us ∧
  PySem.W.kitAny K (.type "function") us = some b ∧ Q (.bl b) H
theorem call_isiF {X : Cx} : CallR X (.builtin "isinstance") (rIsiF X.K) := by
  intro pins s σ H xs us Q I r h
  obtain ⟨f, tp, cs, ws, b, rfl, hf, hT, k, e, q⟩ := h
  obtain ⟨u1, u2, rfl, r1, r2⟩ := vals2 r
  cases (show u1 = Value.ref f from r1)
  cases (show u2 = Value.ref tp from r2)
  obtain ⟨_, its, rv, o, h1, h2, n, h3⟩ := (show ObjOk X.prog X.w H s.heap tp (.tup cs) from I.hok tp _ hT)
  have e3 := ClsV.all k rv
  subst e3
  obtain ⟨oc, od, dt, sl⟩ := o
  simp only at h2 h3
  subst h2 h3
  obtain ⟨of, hof, hofc⟩ : ∃ of, s.heap.get? f = some of ∧ of.cls = .type "function" := by
    have ht' : (X.K.lookup f).map (·.cls) = some (.type "function") := hf
    cases z : X.K.lookup f with
    | none => rw [z] at ht'; cases ht'
    | some of => rw [z] at ht'; exact ⟨of, I.kIn _ _ z, Option.some.inj ht'⟩
  exact PySem.W.kia_tup kitx_fn I.kIn ⟨of, hof, hofc⟩ h1 e (fun z => nomatch z) fun tk => ⟨.bl b, H, I.tok tk, rfl, q⟩

/-! ### o.f(e), f an attribute of the object that holds a def -/
def tFcall (K : PySem.W.Frag) (m : Str) (f : Addr) (sp : Sp) (E : XK) (ta : TE) (t : TA) : TE := fun σ H Q => ta σ H fun x H1 => ∃ a C dx fs, x = .ref a ∧ H1 a = some (.ins C dx fs) ∧ Cls K C ∧ NoAttr K C m ∧ fs.lookup m = some (.ref f) ∧ t σ H1 fun vs H2 => sp vs H2 Q E
section
variable {X : Cx} {CX : CXT} {k : Nat} {f : Addr} {fd : FuncData} {ps : List Str} {sp : Sp} {E : XK} {m : Str} {pos apos : Pos} {e o : Expr} {es : List Expr} {ta : TE} {t : TA}
theorem pe_fcall {pl : Sem Bool} (he : PE X o ta) (F : FnOk X.prog X.w X.K X.mg X.base CX k f fd ps sp) (hr : Room k X.A) (hk : PySem.W.keepIn X.K (.ref f) = true) (hb : Binds X.K fd ps []) (hx : Passes CX X E) (ha : PA X (e :: es) t)
    (hst : starEach (e :: es) X.env = (false, eval e X.env) :: starEach es X.env := by rfl) (hpl : (backTo pos (starEach es X.env)).any (·.1) = false := by rfl)
    (ht : eval (.Call (.Attribute o m apos) (e :: es) [] pos) X.env = (do
      let ov ← eval o X.env
      standAt apos.atName
      let (f, first) ← holding [ov] (getMethod ov m pl)
      callWith pos f first (backTo pos (starEach (e :: es) X.env)) (backToKw pos (keywordEach [] X.env))) := by rfl) :
    PE X (.Call (.Attribute o m apos) (e :: es) [] pos) (tFcall X.K m f sp E ta t) := by
  refine ⟨fun pins s σ H Q I h => ?_⟩
  refine PySem.W.methodCall_KW (pl := pl) (thn (he.run pins s σ H _ I h) fun u s1 ⟨x, H1, I1, rx, a, C, dx, fs, ex, ea, c, n, l, q⟩ => ?_) ht
  subst ex
  obtain rfl : u = Value.ref a := rx
  obtain ⟨mA, O, _, _, _, _⟩ := ins_get I1.hok ea
  obtain ⟨od, J, _⟩ := O.look
  refine PySem.W.method_usual (r := none) I1.kIn J (PySem.W.plainGet_of (c.get m)).1 (PySem.W.plainGet_of (c.get m)).2 n rfl ?_
  refine getattr_ok I1 ea c n l fun u s' I2 ru => ?_
  obtain rfl : u = Value.ref f := ru
  refine PySem.W.callWith_K (first := []) (h₀ := X.base) I.ok.mod.kin hk (thn (ha.run pos pins s' σ H1 _ I2 q) fun us s2 ⟨vs, H2, I3, r, q2⟩ => ⟨I3.kIn, ?_⟩) hst hpl
  exact run_fn (us := us) (vs := vs) (dvs := []) F hr hb .nil hx I3 r (by rw [List.append_nil]; exact q2)
end
end K53
end
section
set_option Elab.async false
set_option linter.all false
set_option maxRecDepth 100000
set_option maxHeartbeats 4000000
set_option pp.maxSteps 300
namespace K53
open PySem PySem.Spec PyProof.Rows L2

/-! ### a method whose first statement is super().m(..) -/
structure FnScopeS (N P : List Str) (sc : Scope) : Prop where
  kind : sc.kind = .function
  co : sc.isCoroutine = false
  gen : sc.isGenerator = false
  nd : N.Nodup
  pre : N.take P.length = P
  par : ∀ x ∈ P, sc.names.lookup x = some .local
  nocell : ∀ y ∈ sc.names, y.2 ≠ .cell
  free : ∀ y ∈ sc.names, y.2 = .free → y.1 = ("__class__" : Str)
  kc : sc.names.lookup ("__class__" : Str) = some .free
  ks : sc.names.lookup ("super" : Str) = some .globalImplicit

theorem rev_lookup {x : Str} {v : Value} : ∀ {P : List Str} {vs : List Value} {i : Nat}, P.Nodup → P[i]? = some x → vs[i]? = some v → (P.zip vs).reverse.lookup x = some v
  | [], _, _, _, h, _ => by simp at h
  | _ :: _, [], _, _, _, h => by simp at h
  | p :: P, w :: vs, 0, nd, h1, h2 => by
    simp at h1 h2
    subst h1; subst h2
    rw [List.zip_cons_cons, List.reverse_cons, List.lookup_append]
    have hn : List.lookup p (P.zip vs).reverse = none := by
      rw [List.lookup_eq_none_iff]
      intro q hq
      have hq' := List.mem_reverse.mp hq
      have : q.1 ∈ P := (List.of_mem_zip (show (q.1, q.2) ∈ P.zip vs from hq')).1
      rw [bne_iff_ne]
      intro e
      exact (List.nodup_cons.mp nd).1 (e ▸ this)
    rw [hn]
    simp
  | p :: P, w :: vs, i + 1, nd, h1, h2 => by
    rw [List.zip_cons_cons, List.reverse_cons, List.lookup_append]
    rw [rev_lookup (i := i) (List.nodup_cons.mp nd).2 (by simpa using h1) (by simpa using h2)]
    rfl

def cxOfS (P : Program) (w : World) (K : PySem.W.Frag) (mg : Str → Option Value) (base : Heap) (N : List Str) (qual : Str) (scope : Scope) (f : Addr) (cd : Value) (cc : Addr) (A : Around) (outer : List Env) (s : Shared) (H : Hp) : Cx where
  prog := P
  w := w
  K := K
  mg := mg
  base := base
  A := A.deeper (PySem.W.ksEnv qual scope s.heap.objs.size f cd cc)
  N := N
  s_0 := s
  H_0 := H
  env := PySem.W.ksEnv qual scope s.heap.objs.size f cd cc
  outer := outer
  stack := PySem.W.ksEnv qual scope s.heap.objs.size f cd cc :: outer
  ex := []
  calm := true
  fn := fun x => !(x == ("__class__" : Str))
  pn := []
  xe := fun _ _ => False

theorem lookup_one {x : Str} {c cc : Addr} (h : List.lookup x [(("__class__" : Str), cc)] = some c) : x = "__class__" ∧ c = cc := by
  by_cases e : x = ("__class__" : Str)
  · subst e
    simp at h
    exact ⟨rfl, h.symm⟩
  · have : (x == ("__class__" : Str)) = false := beq_eq_false_iff_ne.mpr e
    rw [List.lookup_cons, this] at h
    simp at h

theorem inv_startS {P : Program} {w : World} {K : PySem.W.Frag} {mg : Str → Option Value} {base : Heap} {N ps : List Str} {qual : Str} {scope : Scope} {f cc D : Addr} {cd : Value} {A : Around} {outer : List Env} {s : Shared} {H : Hp} {us : List Value} {vs : List V} {h₁ : Heap} {tk : Nat}
    {cl : Value} {cld : Option Addr} {csl : Array (Option Value)}
    (S : FnScopeS N ps scope) (hd : A.handled = none) (e0 : Env0 P w K mg base A outer s H) (hl : vs.length = ps.length) (r : Vals vs us) (hcc : K.lookup cc = some ⟨cl, cld, .cell (some (.ref D)), csl⟩)
    (hn : h₁.Ns s.heap.objs.size (fun x => (ps.zip us).reverse.lookup x)) (hk : ∀ b o, s.heap.get? b = some o → h₁.get? b = some o) :
    Inv (cxOfS P w K mg base N qual scope f cd cc A outer s H) [] (L2.start N vs) H { s with heap := h₁, toks := tk } := by
  have hpl : ps.length ≤ N.length := by have := congrArg List.length S.pre; rw [List.length_take] at this; omega
  have noA : ∀ b : Addr, b ∉ (cxOfS P w K mg base N qual scope f cd cc A outer s H).ex := fun b z => absurd (show b ∈ ([] : List Addr) from z) (by simp)
  have hbase : base.get? cc = some ⟨cl, cld, .cell (some (.ref D)), csl⟩ := e0.mod.kin _ _ hcc
  obtain ⟨hs, hH⟩ := e0.bs _ _ hbase
  refine ⟨⟨e0.mod, S.kind, rfl, rfl, Nat.le_refl _, fun y z c h1 h2 => ?_, fun y hy => ?_, fun y c hf h => ?_, fun _ => hd, Around.frames_deeper e0.frames, .inr ⟨rfl, rfl⟩, fun b z => absurd z (noA b), e0.bs, e0.bsz, fun b _ _ => noA b, fun b z => absurd z (noA b), e0.funs, e0.frf⟩,
    rfl, e0.bare, Un.kept hk, ⟨_, hn, fun i y v h1 h2 h3 => ?_⟩, fun y c h => ?_, e0.hok.fresh (Nat.le_refl _), fun y c h => ?_, fun p hp => absurd (show p ∈ ([] : List (Addr × Obj)) from hp) (by simp), e0.hok.kept hk, ?_⟩
  · rw [(lookup_one h1).1, (lookup_one h2).1]
  · have hy : scope.names.lookup y = some .cell ∨ scope.names.lookup y = some .free := hy
    rcases hy with hy | hy
    · exact absurd rfl (S.nocell _ (PySem.mem_of_lookup hy))
    · have e := S.free _ (PySem.mem_of_lookup hy) rfl
      exact ⟨cc, by show List.lookup y [(("__class__" : Str), cc)] = some cc; rw [show y = ("__class__" : Str) from e]; simp⟩
  · have e := (lookup_one h).1
    have hf' : (!(y == ("__class__" : Str))) = true := hf
    rw [e] at hf'
    exact absurd hf' (by decide)
  · have hi : i < vs.length := by
      unfold L2.start at h2
      by_cases hi : i < vs.length
      · exact hi
      · rw [List.getElem?_append_right (by simpa using hi)] at h2
        rw [List.getElem?_replicate] at h2
        split at h2 <;> cases h2
    have ha : vs[i]? = some v := by
      unfold L2.start at h2
      rw [List.getElem?_append_left (by simpa using hi), List.getElem?_map] at h2
      cases e : vs[i]? with
      | none => rw [e] at h2; cases h2
      | some a => rw [e] at h2; cases h2; rfl
    obtain ⟨u, hu, rv⟩ := r.get ha
    have hp : ps[i]? = some y := by
      rw [← S.pre, List.getElem?_take_of_lt (by omega)]; exact h1
    have ndP : ps.Nodup := by rw [← S.pre]; exact S.nd.sublist (List.take_sublist _ _)
    exact ⟨u, rv, .inl ⟨S.par y (List.mem_of_getElem? hp), rev_lookup ndP hp hu⟩⟩
  · obtain ⟨_, e⟩ := lookup_one h
    subst e
    exact ⟨_, _, hk _ _ hs, rfl⟩
  · obtain ⟨_, e⟩ := lookup_one h
    subst e
    exact hH
  · unfold L2.start
    show _ = N.length
    rw [List.length_append, List.length_map, List.length_replicate]
    omega

/-- what the text must have for super().m in the method at f of the class at D -/
structure SupOk (P : Program) (K : PySem.W.Frag) (C D f f2 cc cda : Addr) (m : Str) : Prop where
  cell : ∃ cl cld csl, K.lookup cc = some ⟨cl, cld, .cell (some (.ref D)), csl⟩
  code : ∃ ccl cdd vs ccs file tf, K.lookup cda = some ⟨ccl, cdd, .fields vs, ccs⟩ ∧ vs[2]? = some (.str file tf) ∧ ((P.main.file : Str) == file) = true
  cls : ∃ cdD, PySem.W.clsIn K D = some cdD
  sub : PySem.W.mroIn K C (.ref D) = some true
  sup : PySem.W.nsIn K mainGlobals "super" = some none
  tp : PySem.W.nsIn K cStatics "thirdparty.any" = some none
  at_ : PySem.W.ks_superIn K C D m = some (some (.ref f2))
  ty : PySem.W.typeIn K (.ref f2) = some (.type "function")
  fi : PySem.W.fnIn K f2 = true
  nm : (m == ("__class__" : Str)) = false
  top : (P.main.scope.names.lookup ("super" : Str)).isSome = false

theorem fn_ofS {P : Program} {w : World} {K : PySem.W.Frag} {mg : Str → Option Value} {base : Heap} {k k2 : Nat} {f f2 C D cc cda : Addr} {fd2 : FuncData} {ps2 : List Str} {sp2 : Sp} {name qual m slf : Str} {params : Arguments} {scope : Scope} {dV kV doc pm ct oc : Value} {an od : Option Addr}
    {osl : Array (Option Value)} {N ps : List Str} {sp : Sp} {e : Expr} {es : List Expr} {rest : List Stmt} {p0 p1 apos cpos epos : Pos} {ar : Arg}
    (lk : K.lookup f = some ⟨oc, od, .func (PySem.W.ksFn name qual params (.Expr (.Call (.Attribute (.Call (.Name "super" p0) [] [] p1) m apos) (e :: es) [] cpos) epos :: rest) scope dV kV doc pm an (.ref cda) ct cc), osl⟩) (hcd : PySem.W.codeIn K (.ref cda) qual = true)
    (S : FnScopeS N ps scope) (hp : (params.posonlyargs ++ params.args).head? = some ar) (hslf : ps[0]? = some ar.arg) (U : SupOk P K C D f f2 cc cda m) (F2 : FnOk P w K mg base CX0 k2 f2 fd2 ps2 sp2) (hk2 : k2 ≤ k) (hb2 : Binds K fd2 ps2 [])
    (len : ∀ vs H Q E, sp vs H Q E → vs.length = ps.length)
    (hbody : ∀ (A : Around) (outer : List Env) (s : Shared) (H : Hp) (vs : List V) (Q : VK) (E : XK), Room k (A.deeper (PySem.W.ksEnv qual scope s.heap.objs.size f (.ref cda) cc)) → sp vs H Q E →
      ∃ ta t, PA (cxOfS P w K mg base N qual scope f (.ref cda) cc A outer s H) (e :: es) ta ∧ PSs (cxOfS P w K mg base N qual scope f (.ref cda) cc A outer s H) rest t ∧
        ∃ a dx fs, vs[0]? = some (.ref a) ∧ H a = some (.ins C dx fs) ∧ Cls K C ∧ ∀ q, H q = none → ta (L2.start N vs) (upd H q (.met f2 a)) fun ws H1 => H1 q = some (.met f2 a) ∧ sp2 (.ref a :: ws) H1 (fun _ H2 => t { nx := fun _ H' => Q .non H', rt := Q } (L2.start N vs) H2) E0)
    (hst : ∀ (L : Addr), starEach (e :: es) (PySem.W.ksEnv qual scope L f (.ref cda) cc) = (false, eval e (PySem.W.ksEnv qual scope L f (.ref cda) cc)) :: starEach es (PySem.W.ksEnv qual scope L f (.ref cda) cc) := by intro _; rfl)
    (hpl : ∀ (L : Addr), (backTo cpos (starEach es (PySem.W.ksEnv qual scope L f (.ref cda) cc))).any (·.1) = false := by intro _; rfl)
    (hev : ∀ (L : Addr), ∃ pl, eval (.Call (.Attribute (.Call (.Name "super" p0) [] [] p1) m apos) (e :: es) [] cpos) (PySem.W.ksEnv qual scope L f (.ref cda) cc) = (do
      let ov ← attributeBase (.Call (.Name "super" p0) [] [] p1) m (PySem.W.ksEnv qual scope L f (.ref cda) cc) (eval (.Call (.Name "super" p0) [] [] p1) (PySem.W.ksEnv qual scope L f (.ref cda) cc))
      standAt apos.atName
      let (g, first) ← holding [ov] (getMethod ov m pl)
      callWith cpos g first (backTo cpos (starEach (e :: es) (PySem.W.ksEnv qual scope L f (.ref cda) cc))) []) := by intro _; exact ⟨_, rfl⟩)
    (hsw : ∀ (L : Addr), swapsWith (.Call (.Attribute (.Call (.Name "super" p0) [] [] p1) m apos) (e :: es) [] cpos) none epos.line (PySem.W.ksEnv qual scope L f (.ref cda) cc) = pure false := by intro _; rfl) :
    FnOk P w K mg base CX0 (k + 1) f (PySem.W.ksFn name qual params (.Expr (.Call (.Attribute (.Call (.Name "super" p0) [] [] p1) m apos) (e :: es) [] cpos) epos :: rest) scope dV kV doc pm an (.ref cda) ct cc) ps sp := by
  refine ⟨len, fun A outer s H args us vs Q E hr e0 hb r hsp => ?_⟩
  have hl := len _ _ _ _ hsp
  have KX : K.In s.heap := e0.mod.kin.keeps fun b o e => (e0.bs b o e).1
  have lim : s.heap.NoLimit := e0.mod.nolimit.keeps fun b o e => (e0.bs b o e).1
  obtain ⟨cl, cld, csl, hcell⟩ := U.cell
  obtain ⟨ccl, cdd, cvs, ccs, file, tf, hcode, hvs, hfile⟩ := U.code
  obtain ⟨cdD, hD⟩ := U.cls
  have hloc : ∀ y ∈ ps.zip us, scope.names.lookup y.1 = some .local := fun ⟨n, v⟩ hy => S.par n (List.of_mem_zip hy).1
  refine ks_codeAny_call_defAt hr.depth (KX _ _ lk) rfl lim (PySem.W.codeRec_of KX hcd) rfl hb S.nocell hloc (fun h₁ hn hk => ?_) S.co S.gen S.kind
  obtain ⟨ta, t, hpa, hps, a, dx, fs, hv0, hHa, hcls, hq⟩ := hbody A outer s H vs Q E (hr.deeper _) hsp
  have I0 : Inv (cxOfS P w K mg base N qual scope f (.ref cda) cc A outer s H) [] (L2.start N vs) H { s with heap := h₁, toks := s.toks + (ps.zip us).length } := inv_startS S hr.hd e0 hl r hcell hn hk
  obtain ⟨u0, hu0, ru0⟩ := r.get hv0
  obtain rfl : u0 = Value.ref a := ru0
  have ndP : ps.Nodup := by rw [← S.pre]; exact S.nd.sublist (List.take_sublist _ _)
  have hself : (ps.zip us).reverse.lookup ar.arg = some (Value.ref a) := rev_lookup ndP hslf hu0
  have hpar : scope.names.lookup ar.arg = some .local := S.par _ (List.mem_of_getElem? hslf)
  obtain ⟨oD, hD1, hD2⟩ : ∃ oD, h₁.get? D = some oD ∧ oD.data = .cls cdD := by
    unfold PySem.W.clsIn at hD
    split at hD
    · rename_i c d cd' sl ho
      cases hD
      exact ⟨_, I0.kIn _ _ ho, rfl⟩
    · cases hD
  obtain ⟨mA, O, _, _, _, _⟩ := ins_get I0.hok hHa
  obtain ⟨od', J, _⟩ := O.look
  obtain ⟨cdC, hC, _⟩ := PySem.W.any_some hcls.hd
  have hat : PySem.W.alongIn K m ((cdC.mro.dropWhile (· != .ref D)).drop 1) = some (some (.ref f2)) := by
    have := U.at_
    unfold PySem.W.ks_superIn at this
    rw [hC] at this
    exact this
  obtain ⟨of, hof, hofc⟩ : ∃ of, K.lookup f2 = some of ∧ of.cls = .type "function" := by
    have ht' : (K.lookup f2).map (·.cls) = some (.type "function") := U.ty
    cases z : K.lookup f2 with
    | none => rw [z] at ht'; cases ht'
    | some of => rw [z] at ht'; exact ⟨of, rfl, Option.some.inj ht'⟩
  obtain ⟨mb, hm1, hm2⟩ := I0.mod.blt
  obtain ⟨pl, hev'⟩ := hev s.heap.objs.size
  refine ks_wpAt_execs_cons (ks_wpAt_Expr_any (ks_wpAt_MethodCall (pl := pl) ?_ hev') (by show interactive (PySem.W.ksEnv qual scope s.heap.objs.size f (.ref cda) cc) = false; unfold interactive; simp [S.kind]) (hsw _))
  refine ks_wpAt_super_base (env := PySem.W.ksEnv qual scope s.heap.objs.size f (.ref cda) cc) S.ks S.kc U.nm rfl (I0.kIn _ _ lk) rfl hp rfl (I0.kIn _ _ hcode) rfl hvs hfile U.top ?_
  refine PySem.W.ks_loadName_global S.kind S.ks (PySem.Calls.loadGlobal_builtin (env := PySem.W.ksEnv qual scope s.heap.objs.size f (.ref cda) cc) (I0.mod.glob.keeps I0.bk) (PySem.W.mg_none_of e0.mod.kin e0.mod.glob U.sup) (hm1.keeps I0.bk) ((hm2 "super" (by decide)).trans (by decide +kernel)) ⟨rfl, ?_⟩)
  refine wpAny_loadName_free S.kind S.kc rfl ⟨_, I0.kIn _ _ hcell, rfl⟩ ?_
  refine wpAny_loadName_local S.kind hpar hn hself ?_
  refine ks_wpAny_isType_cls hD1 hD2 ⟨rfl, ?_⟩
  refine ks_wpAny_call_super hD1 hD2 J.at_ J.cls (fun c ed => ?_) (PySem.W.looks_mroIn I0.kIn U.sub) (fun h' eso k => ?_)
  · have := J.no
    unfold PySem.W.notCls at this
    rw [ed] at this
    exact Bool.noConfusion this
  have I1 := I0.kept (t' := s.toks + (ps.zip us).length) k
  have hX : a ≠ C := PySem.W.ks_ne I0.kIn J hC
  refine ks_wpAny_getMethod_super eso (PySem.W.looks_opaque I1.kIn U.tp) (l₀ := cdC.mro) (fun A Q E s k q => wpAny_bind ((PySem.W.looks_clsIn I1.kIn hC) A _ E s k (wpAny_pure q))) rfl I1.kIn hat (I1.kIn _ _ hof) hofc hX U.nm ?_
  have hq0 : H h'.objs.size = none := I1.hok.fresh (Nat.le_refl _)
  have I2 : Inv (cxOfS P w K mg base N qual scope f (.ref cda) cc A outer s H) [] (L2.start N vs) (upd H h'.objs.size (.met f2 a)) _ := I1.laid (t' := s.toks + (ps.zip us).length + 1) (a := h'.objs.size) (o := .met f2 a) (fun b u z => Heap.get?_push_of_some _ z) (Nat.le_refl _)
    (show (h'.push (PySem.W.methodObj (.ref f2) (.ref a))).get? h'.objs.size = some (PySem.W.methodObj (.ref f2) (.ref a)) from Heap.get?_push_size h' rfl)
  have hst' := hst s.heap.objs.size
  have hpl' := hpl s.heap.objs.size
  show wpAny _ _ (callWith cpos (.ref h'.objs.size) [] (backTo cpos (starEach (e :: es) (PySem.W.ksEnv qual scope s.heap.objs.size f (.ref cda) cc))) []) _ _ _
  have hsp' := thn (hpa.run cpos [] _ _ _ _ I2 (hq _ hq0)) fun us2 s2 ⟨ws, H1, I3, rw3, hm, h2⟩ =>
    (show PySem.W.MethP K h'.objs.size f2 (.ref a) s2.heap ∧ wpAny (model P w) (A.deeper (PySem.W.ksEnv qual scope s.heap.objs.size f (.ref cda) cc)) (call (.ref h'.objs.size) us2)
      (EP (cxOfS P w K mg base N qual scope f (.ref cda) cc A outer s H) [] (L2.start N vs) (fun _ H2 => t { nx := fun _ H' => Q .non H', rt := Q } (L2.start N vs) H2)) (fun _ _ => False) s2 from
      ⟨met_P (X := cxOfS P w K mg base N qual scope f (.ref cda) cc A outer s H) I3 hm, by
        refine wpAny_call (PySem.W.method_call (I3.hok _ _ hm) (codeAny_mono (F2.run _ _ s2 H1 ⟨.ref a :: us2, []⟩ (.ref a :: us2) (.ref a :: ws) _ E0 (hr.deeper _ |>.mono hk2) I3.env0 (by simpa using hb2 s2 (.ref a :: us2) I3.kIn (by rw [List.append_nil, ← (Vals.length (.cons rfl rw3 : Vals (V.ref a :: ws) (.ref a :: us2)))]; exact F2.len _ _ _ _ h2)) (.cons rfl rw3) h2) fun rr s3 hq3 => ?_))
        cases rr with
        | error er => exact False.elim hq3
        | ok fl =>
          cases fl with
          | ret u => exact I3.after hq3
          | next => exact False.elim hq3
          | brk => exact False.elim hq3
          | cont => exact False.elim hq3⟩)
  have hst2 : starEach (e :: es) (cxOfS P w K mg base N qual scope f (.ref cda) cc A outer s H).env = (false, eval e (cxOfS P w K mg base N qual scope f (.ref cda) cc A outer s H).env) :: starEach es (cxOfS P w K mg base N qual scope f (.ref cda) cc A outer s H).env := hst'
  rw [hst2] at hsp'
  rw [hst']
  refine PySem.W.callWith_of (P := PySem.W.MethP K h'.objs.size f2 (.ref a)) (by show ((false || (backTo cpos (starEach es _)).any (·.1)) || false) = false; rw [hpl']; rfl) (PySem.W.keeps_M U.fi) (PySem.Calls.evalArgs_plain ?_)
  refine wpAny_mono hsp' (fun us2 s2 ⟨hM, hc⟩ => ⟨hM, wpAny_mono hc (fun u s3 ⟨v, H3, I4, rv, q4⟩ => ?_) fun _ _ z => False.elim z⟩) fun _ _ z => False.elim z
  refine PySem.wpAt_of_wpAny (wpAny_mono (hps.run [] s3 _ H3 { nx := fun _ H' => Q .non H', rt := Q } I4 q4) (fun fl s4 hs => ?_) fun _ _ z => False.elim z)
  cases fl with
  | ret u =>
    obtain ⟨v, σ', H', J, rv, q⟩ := hs
    exact ⟨v, H', J.os, J.bare, J.base, J.hok, rv, q⟩
  | next =>
    obtain ⟨σ', H', J, q⟩ := hs
    exact ⟨V.non, H', J.os, J.bare, J.base, J.hok, rfl, q⟩
  | brk =>
    obtain ⟨_, _, _, q⟩ := hs
    exact False.elim q
  | cont =>
    obtain ⟨_, _, _, q⟩ := hs
    exact False.elim q
end K53
end
section
set_option Elab.async false
set_option linter.all false
set_option maxRecDepth 100000
set_option maxHeartbeats 4000000
set_option pp.maxSteps 400
namespace K53
open PySem PySem.Spec PyProof.Rows L2

/-! ### tuple * n, n from 0 on -/
theorem tuple_mul1 (l : Addr) (items : Array Value) (n : Nat) (dd : Option Addr) (sl : Array (Option Value)) (u : Tok) (c1 : items.isEmpty = false) :
    Meets (Builtin.«tuple.__mul__» ⟨[.ref l, .int 1 u], []⟩) (fun _ R s => s.heap.get? l = some { cls := .type "tuple", dict := dd, data := .seq items n, slots := sl } ∧ R (.ok (.ret (Value.ref l))) s) :=
  .of_wp fun prog w A R s h => by
    obtain ⟨hp, g, d, tk, os⟩ := s
    obtain ⟨hl, h⟩ := h
    have f1 := AutoSeq1.idx_int
    wp_walk using AutoSeq1.wpAny_loadPart' hl
    repeat (first
      | (refine wpAny_ite_false (decide_eq_false (by decide)) ?_; wp_walk using AutoSeq1.wpAny_loadPart' hl)
      | (refine wpAny_ite_true (decide_eq_true (by rw [c1]; rfl)) ?_; wp_walk using AutoSeq1.wpAny_loadPart' hl))
    all_goals exact ⟨_, rfl, h⟩
theorem tuple_mul0 (l : Addr) (items : Array Value) (n : Nat) (dd : Option Addr) (sl : Array (Option Value)) (u : Tok) (c1 : items.isEmpty = false) :
    Meets (Builtin.«tuple.__mul__» ⟨[.ref l, .int 0 u], []⟩) (fun _ R s => s.heap.get? l = some { cls := .type "tuple", dict := dd, data := .seq items n, slots := sl } ∧
      R (.ok (.ret (Value.ref s.heap.objs.size))) { s with heap := s.heap.push { cls := Value.type "tuple", data := Data.seq #[] }, toks := s.toks }) :=
  .of_wp fun prog w A R s h => by
    obtain ⟨hp, g, d, tk, os⟩ := s
    obtain ⟨hl, h⟩ := h
    have f1 := AutoSeq1.idx_int
    wp_walk using AutoSeq1.wpAny_loadPart' hl
    repeat (first
      | (refine wpAny_ite_false (decide_eq_false (by decide)) ?_; wp_walk using AutoSeq1.wpAny_loadPart' hl)
      | (refine wpAny_ite_false (decide_eq_false (by rw [c1]; decide)) ?_; wp_walk using AutoSeq1.wpAny_loadPart' hl)
      | (refine wpAny_ite_true (decide_eq_true (by rfl)) ?_; wp_walk using AutoSeq1.wpAny_loadPart' hl))
    all_goals exact ⟨_, rfl, h⟩

def rRepN (K : PySem.W.Frag) : R2 := fun x y H Q => ∃ (l : Addr) (n : Nat) (xs : List V), x = .ref l ∧ y = .int (n : Int) ∧ SqT K H l xs ∧ xs ≠ [] ∧ n ≤ 1000 ∧ xs.length ≤ 1000 ∧
  (n = 0 → ∀ p, H p = none → Q (.ref p) (upd H p (.tup []))) ∧ (n = 1 → Q (.ref l) H) ∧ (2 ≤ n → ∀ p, H p = none → Q (.ref p) (upd H p (.tup (List.replicate n xs).flatten)))
section
variable {X : Cx}
theorem op_repN : OpR X (binaryOp .Mult) (rRepN X.K) := by
  intro pins s σ H x y v u Q I rx ry h
  obtain ⟨l, n, xs, rfl, rfl, hT, hne, hn, hz, q0, q1, q2⟩ := h
  by_cases h2 : 2 ≤ n
  · exact op_repT pins s σ H _ _ v u Q I rx ry ⟨l, (n : Int), xs, rfl, rfl, hT, hne, by omega, by omega, hz, by simpa using q2 h2⟩
  cases rx
  obtain ⟨t, rfl⟩ := ry
  obtain ⟨its, r, ⟨⟨cls, dd, data, sl⟩, ho, hc, m, hd⟩, hs⟩ := I.tuple hT
  simp only at hc hd
  subst hc hd
  have hle : its.length = xs.length := r.length.symm
  have hi : its.toArray.isEmpty = false := by
    cases its with
    | nil => exact absurd (List.eq_nil_of_length_eq_zero hle.symm) hne
    | cons a b => rfl
  rcases (show n = 0 ∨ n = 1 by omega) with rfl | rfl
  · refine wpAny_binaryOp_repeat_ref (T := "tuple") (U := "int") (by decide) ⟨_, ho, rfl⟩ (fun s' => typeIs_int s' _ t) noFill_tuple_mul PySem.F.fills_int_mul PySem.F.slot_int_rmul repeat_tuple PySem.F.slot_int_index.lookup
      (call_meets PySem.F.slot_int_rmul (typeIs_int s _ t) PySem.F.entry_int_rmul (PySem.F.args_int_rmul_2 _ _) (int_rmul_tuple _ t l its.toArray m dd sl)
        ⟨ho, rfl, ⟨_, ho, rfl⟩, call_meets PySem.F.slot_tuple_mul ⟨_, ho, rfl⟩ PySem.F.entry_tuple_mul (PySem.F.args_tuple_mul_2 _ _) (tuple_mul0 l its.toArray m dd sl t hi) ⟨ho, ?_⟩⟩)
    exact ⟨.ref s.heap.objs.size, _, I.laid (t' := s.toks) (o := .tup []) (fun b ob q => Heap.get?_push_of_some _ q) (Nat.le_refl _) ⟨Nat.zero_le _, [], .nil, IsTup.new _ _⟩, rfl, q0 rfl _ (I.hok.fresh (Nat.le_refl _))⟩
  · refine wpAny_binaryOp_repeat_ref (T := "tuple") (U := "int") (by decide) ⟨_, ho, rfl⟩ (fun s' => typeIs_int s' _ t) noFill_tuple_mul PySem.F.fills_int_mul PySem.F.slot_int_rmul repeat_tuple PySem.F.slot_int_index.lookup
      (call_meets PySem.F.slot_int_rmul (typeIs_int s _ t) PySem.F.entry_int_rmul (PySem.F.args_int_rmul_2 _ _) (int_rmul_tuple _ t l its.toArray m dd sl)
        ⟨ho, rfl, ⟨_, ho, rfl⟩, call_meets PySem.F.slot_tuple_mul ⟨_, ho, rfl⟩ PySem.F.entry_tuple_mul (PySem.F.args_tuple_mul_2 _ _) (tuple_mul1 l its.toArray m dd sl t hi) ⟨ho, ?_⟩⟩)
    exact ⟨.ref l, H, I, rfl, q1 rfl⟩
end

/-! ### enumerate(tuple) -/
def IteT (K : PySem.W.Frag) (a : Addr) : It :=
  ⟨fun i H => ∃ (xs : List V) (x : V), SqT K H a xs ∧ xs[i]? = some x, fun i H v H' => ∃ T x, v = .ref T ∧ H T = none ∧ H' = upd H T (.tup [.int (i : Nat), x]) ∧ ∀ xs, SqT K H a xs → xs[i]? = some x, fun i H => ∃ xs : List V, SqT K H a xs ∧ xs.length ≤ i⟩
theorem turn_enumT {P : Program} {w : World} {K : PySem.W.Frag} {elts : List Expr} {kk : Nat} {tpos : Pos} (a e it : Addr) :
    Turn P w K (.Tuple elts kk tpos) (IteT K a) [e, it] e (fun i h => (∃ old, IsEnum h e it ((i : Nat) : Int) old) ∧ h.IsTupleIter it a i ∧ e ≠ it) where
  mem := by simp
  obj := fun i h st b hb => by
    obtain ⟨⟨old, he⟩, ⟨o, ho, hc, hd⟩, _⟩ := st
    have e' : b = e ∨ b = it := by simpa using hb
    rcases e' with z | z
    · rw [z]; exact ⟨_, he, fun v q => nomatch q⟩
    · rw [z]; exact ⟨o, ho, fun v q => by rw [hd] at q; cases q⟩
  keep := fun i h h' st k => let ⟨⟨old, he⟩, hi, hne⟩ := st; ⟨⟨old, k e (by simp) _ he⟩, hi.at fun o q => k it (by simp) o q, hne⟩
  item := by
    intro X hP hw hK hc i pins s σ H E I hf st hg
    subst hP hw hK
    obtain ⟨⟨old, he⟩, hit, hne⟩ := st
    obtain ⟨xs, x, hq, hx⟩ := hg
    obtain ⟨its, rv, p, hz⟩ := I.tuple hq
    obtain ⟨u, hu, ru⟩ := rv.get hx
    have hp : s.heap.IsTuple a its.toArray := p
    have hel : e < s.heap.objs.size := Heap.lt_size he
    have hil : it < s.heap.objs.size := by obtain ⟨_, q, _⟩ := hit; exact Heap.lt_size q
    have hai : a ≠ it := fun z => by
      obtain ⟨o1, e1, c1, n1, d1⟩ := hp
      obtain ⟨o2, e2, c2, d2⟩ := id hit
      rw [z, e2] at e1
      have eo : o2 = o1 := Option.some.inj e1
      rw [eo, d1] at d2
      cases d2
    have hae : a ≠ e := fun z => by
      obtain ⟨o1, e1, c1, n1, d1⟩ := hp
      rw [z, he] at e1
      have eo := Option.some.inj e1
      rw [← eo] at d1
      cases d1
    refine wpAny_pyNext_enum_itemC (Draws.tuple (prog := X.prog) (w := X.w) (A := X.A.in1) (I.ok.hd hc) it a hai its.toArray) he ⟨hit, hp⟩ (by have := (List.getElem?_eq_some_iff.mp hu).1; simpa using this) hne (by simp [hne, Ne.symm hae]) fun y h' tk hy ho hst' hT hsz hk => ?_
    obtain rfl : y = u := by
      have hy' : its.toArray[i]? = some y := hy
      rw [List.getElem?_toArray, hu] at hy'
      exact (Option.some.inj hy').symm
    refine ⟨_, rfl, wpAny_letOwnedTupleGo_enum (s := { s with heap := h', toks := tk + 1 }) ho fun h'' he' sb => ?_⟩
    have hT2 : h''.get? s.heap.objs.size = some { cls := .type "tuple", data := .seq #[.int i tk, y] } := (sb.2 _ (Nat.ne_of_gt hel)).trans hT
    have new : ObjOk X.prog X.w (upd H s.heap.objs.size (.tup [.int (i : Nat), x])) h'' s.heap.objs.size (.tup [.int (i : Nat), x]) :=
      ⟨by show 2 ≤ sizeLine; decide, [.int i tk, y], .cons ⟨_, rfl⟩ (.cons ru .nil), ⟨_, hT2, rfl, _, rfl⟩⟩
    have I1 : Inv X pins σ (upd H s.heap.objs.size (.tup [.int (i : Nat), x])) { s with heap := h'', toks := tk + 1 } :=
      I.turnedNew (ch := [e, it]) (fun b ob hb q => (sb.2 b (fun z => hb (by simp [z]))).trans (hk b ob (fun z => hb (by simp [z])) (fun z => hb (by simp [z])) q)) hf (Nat.le_refl _) new
    refine ⟨.ref s.heap.objs.size, _, I1, rfl, ⟨_, x, rfl, I.hok.fresh (Nat.le_refl _), rfl, fun ys hy => by rw [I.tuple_inj hy hq]; exact hx⟩, ⟨⟨y, ?_⟩, hst'.1.at fun o q => (sb.2 it (Ne.symm hne)).trans q, hne⟩, fun b hb => ?_⟩
    · have e1 : ((i + 1 : Nat) : Int) = (i : Int) + 1 := by omega
      rw [e1]; exact he'
    · have hb' : b < s.heap.objs.size := by
        have e' : b = e ∨ b = it := by simpa using hb
        rcases e' with z | z
        · rw [z]; exact hel
        · rw [z]; exact hil
      rw [upd_ne (Nat.ne_of_lt hb')]
      exact (hf b hb).1
  done := by
    intro X hP hw hK hc i pins s σ H E I hf st hg
    subst hP hw hK
    obtain ⟨⟨old, he⟩, hit, hne⟩ := st
    obtain ⟨xs, hq, hx⟩ := hg
    obtain ⟨its, rv, p, hz⟩ := I.tuple hq
    obtain ⟨f0, f1, f2, f3, f4, f5⟩ := hf it (by simp)
    have hp : s.heap.IsTuple a its.toArray := p
    have hl := rv.length
    have hT : s.TypeIs (.ref e) "enumerate" := ⟨_, he, rfl⟩
    unfold pyNext
    refine wpAny_bind (wpAny_attempt (wpAny_callSpecial?_slot (name := Str.ofString "__next__") hT PySem.F.slot_enumerate_next
      (wpAny_call_entry PySem.F.slot_enumerate_next hT PySem.F.entry_enumerate_next ?_ (PySem.F.args_enumerate_next_1 _))))
    show wpAny _ _ (field (.ref e) 2 >>= _) _ _ _
    refine wpAny_bind (wpAny_field he rfl (x := .ref it) rfl ?_)
    refine wpAny_bind (wpAny_nextOf_tuple_end (A := X.A.in1) (I.ok.hd hc) hit hp (by simp; omega) fun h' x he' hx' => ?_)
    obtain ⟨o, ho, hc⟩ := hx'
    refine wpAny_bind (wpAny_isInstance (T := "StopIteration") (b := true) ⟨o, ho, hc⟩ isSubtype_stop ?_)
    exact wpAny_pure ⟨rfl, I.turned (t' := s.toks) (fun b o hb q => he' b o hb q) f0 f1 f3 f4 f5⟩
  self := fun A i s Q E st h => let ⟨⟨_, he⟩, _⟩ := st; wpAny_pyIter_enum he h
def iEnumT (K : PySem.W.Frag) (ta : TA) : TI := fun σ H R => ta σ H fun vs H1 => ∃ a xs, vs = [.ref a] ∧ SqT K H1 a xs ∧ R (IteT K a) H1
theorem pi_enumT {X : Cx} {e : Expr} {ta : TA} {p pos tpos : Pos} {elts : List Expr} {kk : Nat} (hg : Gl X "enumerate") (hm : X.mg "enumerate" = none) (ha : PA X [e] ta) (hs : starEach [e] X.env = [(false, eval e X.env)] := by rfl) :
    PI X (.Tuple elts kk tpos) (.Call (.Name "enumerate" p) [e] [] pos) (iEnumT X.K ta) := by
  refine ⟨fun pins s σ H R I h => ?_⟩
  refine Call_ (ld_blt I hg hm boot_enumerate (PyProof.Rows.callWith_type1 (thn (ha.run pos pins s σ H _ I h) fun us s1 ⟨vs, H1, I1, r1, q1⟩ => ?_) hs rfl))
  obtain ⟨a, xs, ex, hq, q⟩ := q1
  subst ex
  cases r1 with
  | cons r rr =>
    cases rr
    cases r
    obtain ⟨its, rv, p', hz⟩ := I1.tuple hq
    have hp : s1.heap.IsTuple a its.toArray := p'
    refine callType_new PySem.F.called_enumerate (by decide) (PySem.F.typeCall_enumerate_1 _) (PySem.F.newCall_enumerate_1 _) (fun obj => PySem.F.args_object_init_2 obj _) PySem.F.entry_enumerate_new
      (meets_enumerate_newT a its.toArray) ⟨hp, ?_⟩
    have hz1 : (s1.heap.push { cls := .type "tuple_iterator", data := .fields #[.ref a, .int 0 0] }).objs.size = s1.heap.objs.size + 1 := Heap.size_push ..
    show _ ∧ _
    rw [hz1]
    have he : IsEnum ((s1.heap.push { cls := .type "tuple_iterator", data := .fields #[.ref a, .int 0 0] }).push
        { cls := .type "enumerate", data := .fields #[.none, .bool false, .ref s1.heap.objs.size, rawInt 0, .none, .none] }) (s1.heap.objs.size + 1) s1.heap.objs.size 0 .none := by
      have := Heap.get?_push_size (s1.heap.push { cls := .type "tuple_iterator", data := .fields #[.ref a, .int 0 0] })
        (o := { cls := .type "enumerate", data := .fields #[.none, .bool false, .ref s1.heap.objs.size, rawInt 0, .none, .none] }) rfl
      rw [hz1] at this; exact this
    refine ⟨⟨_, he, rfl⟩, wpAny_pyIter_enum he ?_⟩
    have I2 := I1.kept (t' := s1.toks) (h' := (s1.heap.push { cls := .type "tuple_iterator", data := .fields #[.ref a, .int 0 0] }).push
        { cls := .type "enumerate", data := .fields #[.none, .bool false, .ref s1.heap.objs.size, rawInt 0, .none, .none] }) fun b o x => Heap.get?_push_of_some _ (Heap.get?_push_of_some _ x)
    refine ⟨s1.heap.objs.size + 1, [s1.heap.objs.size + 1, s1.heap.objs.size], _, _, H1, rfl, I2, turn_enumT a (s1.heap.objs.size + 1) s1.heap.objs.size, ⟨⟨.none, he⟩, ⟨_, Heap.get?_push_of_some _ (Heap.get?_push_size _ rfl), rfl, rfl⟩, Nat.succ_ne_self _⟩, fun b hb => ?_, q⟩
    have e' : b = s1.heap.objs.size + 1 ∨ b = s1.heap.objs.size := by simpa using hb
    have hle : s1.heap.objs.size ≤ b := by
      rcases e' with z | z
      · rw [z]; exact Nat.le_add_right _ _
      · rw [z]; exact Nat.le_refl _
    exact I1.fpOk hle (I1.hok.fresh hle)
/-- a for over enumerate(tuple): the pair is a new tuple at T -/
theorem for_enumT {K : PySem.W.Frag} {a : Addr} {xs : List V} {g : TG} {tb : TS} {D : Ends} {σ : L2.St} {H : Hp} (Pv : Nat → L2.St → Hp → Prop) (h0 : Pv 0 σ H) (hl : ∀ i σ H, i ≤ xs.length → Pv i σ H → H a = some (.tup xs))
    (hs : ∀ i x T σ H, xs[i]? = some x → Pv i σ H → H T = none → g (.ref T) σ (upd H T (.tup [.int (i : Nat), x])) fun σ2 H2 => tb { D with nx := Pv (i + 1), ct := Pv (i + 1), bk := D.nx } σ2 H2) (hd : ∀ σ H, Pv xs.length σ H → D.nx σ H) :
    ∃ W : Nat → Nat → L2.St → Hp → Prop, (∃ m, W 0 m σ H) ∧ ∀ i m σ H, W i m σ H → ((IteT K a).stop i H ∧ D.nx σ H) ∨ ((IteT K a).go i H ∧ ∃ N : L2.St → Hp → Prop, (∀ σ' H', N σ' H' → ∃ m', m' < m ∧ W (i + 1) m' σ' H') ∧
      ∀ x H', (IteT K a).yld i H x H' → g x σ H' fun σ2 H2 => tb { D with nx := N, ct := N, bk := D.nx } σ2 H2) := by
  refine ⟨fun i m σ H => Pv i σ H ∧ i + m = xs.length, ⟨xs.length, h0, Nat.zero_add _⟩, fun i m σ H ⟨hP, hm⟩ => ?_⟩
  have hT := hl i σ H (by omega) hP
  by_cases hi : i < xs.length
  · refine .inr ⟨⟨xs, xs[i], .inl (.inl hT), List.getElem?_eq_getElem hi⟩, Pv (i + 1), fun σ' H' h' => ⟨m - 1, by omega, h', by omega⟩, fun x H' hy => ?_⟩
    obtain ⟨T, y, rfl, hn, rfl, hx⟩ := hy
    exact hs i y T σ H (hx xs (.inl (.inl hT))) hP hn
  · have e : i = xs.length := by omega
    subst e
    exact .inl ⟨⟨xs, .inl (.inl hT), Nat.le_refl _⟩, hd σ H hP⟩
end K53
end
section
set_option Elab.async false
set_option linter.all false
set_option maxRecDepth 100000
set_option maxHeartbeats 4000000
set_option pp.maxSteps 600
namespace K53
open PySem PySem.Spec PyProof.Rows L2

/-! ### the text by places -/
def top (i : Nat) : Stmt := PySem.Challenge.pw_missbounds_k53_whole_far_and_long_runs.main.body.getD i (.Pass ⟨0, 0, 0, 0⟩)

/-! ### what a call leaves: all but F as it was -/
structure Fr (F : Addr → Prop) (H H' : Hp) : Prop where
  keep : ∀ a o, H a = some o → ¬ F a → H' a = some o
  tk : Tk H H'
  dom : ∀ a, H' a = none → H a = none
theorem Fr.refl (F : Addr → Prop) (H : Hp) : Fr F H H := ⟨fun _ _ h _ => h, Tk.refl H, fun _ h => h⟩
theorem Fr.trans {F : Addr → Prop} {H H1 H2 : Hp} (a : Fr F H H1) (b : Fr F H1 H2) : Fr F H H2 :=
  ⟨fun c o h n => b.keep c o (a.keep c o h n) n, a.tk.trans b.tk, fun c h => a.dom c (b.dom c h)⟩
theorem Fr.weak {F F' : Addr → Prop} {H H' : Hp} (a : Fr F H H') (h : ∀ c o, H c = some o → F c → F' c) : Fr F' H H' :=
  ⟨fun c o e n => a.keep c o e fun z => n (h c o e z), a.tk, a.dom⟩
abbrev F0 : Addr → Prop := fun _ => False
theorem Fr.any {F' : Addr → Prop} {H H' : Hp} (a : Fr F0 H H') : Fr F' H H' := a.weak fun _ _ _ z => z.elim
theorem Fr.same {H H' : Hp} (a : Fr F0 H H') : Same H H' := fun c o e => a.keep c o e fun z => z
theorem Fr.new {F : Addr → Prop} {H : Hp} {p : Addr} (o : HO) (h : H p = none) : Fr F H (upd H p o) :=
  ⟨fun c u e _ => by rw [upd_ne (ne_of_none e h)]; exact e, fun c u e => by rw [upd_ne (ne_of_none e h)]; exact e, fun c e => by
    by_cases z : c = p
    · subst z; exact h
    · rwa [upd_ne z] at e⟩
theorem Fr.set {F : Addr → Prop} {H : Hp} {p : Addr} {u : HO} (o : HO) (h : H p = some u) (hp : F p) (hu : ∀ xs, u ≠ .tup xs) : Fr F H (upd H p o) :=
  ⟨fun c v e n => by rw [upd_ne (fun z => n (by rw [z]; exact hp))]; exact e, fun c xs e => by
    rw [upd_ne (ne_of e h fun z => hu xs z.symm)]; exact e, fun c e => by
    by_cases z : c = p
    · subst z; rw [upd_same] at e; cases e
    · rwa [upd_ne z] at e⟩
theorem Fr.setL {F : Addr → Prop} {H : Hp} {p : Addr} {xs : List V} (o : HO) (h : H p = some (.lst xs)) (hp : F p) : Fr F H (upd H p o) := Fr.set o h hp fun _ z => nomatch z
theorem Fr.setI {F : Addr → Prop} {H : Hp} {p C dx : Addr} {fs : List (Str × V)} (o : HO) (h : H p = some (.ins C dx fs)) (hp : F p) : Fr F H (upd H p o) := Fr.set o h hp fun _ z => nomatch z
theorem Fr.seqT {K : PySem.W.Frag} {H H' : Hp} {F : Addr → Prop} (f : Fr F H H') {a : Addr} {xs : List V} (h : H a = some (.tup xs)) : SqT K H' a xs := .inl (.inl (f.tk _ _ h))
theorem sqT {K : PySem.W.Frag} {H : Hp} {a : Addr} {xs : List V} (h : H a = some (.tup xs)) : SqT K H a xs := .inl (.inl h)
theorem sqL {K : PySem.W.Frag} {H : Hp} {a : Addr} {xs : List V} (h : H a = some (.lst xs)) : SqL K H a xs := .inl (.inl h)
theorem tk_new {H : Hp} {p : Addr} (o : HO) (h : H p = none) : Tk H (upd H p o) := (Fr.new (F := F0) o h).tk
theorem tk_setL {H : Hp} {p : Addr} {xs : List V} (o : HO) (h : H p = some (.lst xs)) : Tk H (upd H p o) := (Fr.setL (F := fun _ => True) o h trivial).tk
theorem tn_made {H : Hp} {p : Addr} {xs : List V} {ks : List NestedKey} (hn : H p = none) (h : TNs H xs ks) : TN (upd H p (.tup xs)) (.ref p) (.tup ks) := .tup upd_same (h.up (tk_new _ hn))

/-! ### defs by their promises -/
structure Def (P : Program) (w : World) (K : PySem.W.Frag) (mg : Str → Option Value) (base : Heap) (x : Str) (ps : List Str) (k : Nat) (sp : Sp) where
  f : Addr
  fd : FuncData
  m : mg x = some (.ref f)
  kp : PySem.W.keepIn K (.ref f) = true
  b : Binds K fd ps []
  ok : FnOk P w K mg base CX0 k f fd ps sp
structure MDef (P : Program) (w : World) (K : PySem.W.Frag) (mg : Str → Option Value) (base : Heap) (C : Addr) (x : Str) (ps : List Str) (k : Nat) (sp : Sp) where
  f : Addr
  fd : FuncData
  m : Meth K C x f
  b : Binds K fd ps []
  ok : FnOk P w K mg base CX0 k f fd ps sp
structure PDef (P : Program) (w : World) (K : PySem.W.Frag) (mg : Str → Option Value) (base : Heap) (C : Addr) (x : Str) (k : Nat) (sp : Sp) where
  p : Addr
  g : Addr
  fd : FuncData
  m : PropOf K C x p g
  b : Binds K fd ["self"] []
  ok : FnOk P w K mg base CX0 k g fd ["self"] sp
structure CDef (P : Program) (w : World) (K : PySem.W.Frag) (mg : Str → Option Value) (base : Heap) (C : Addr) (x : Str) (ps : List Str) (k : Nat) (sp : Sp) where
  f : Addr
  fd : FuncData
  m : mg x = some (.ref C)
  mkk : Mk K C f
  b : Binds K fd ps []
  ok : FnOk P w K mg base CX0 k f fd ps sp
section
variable {X : Cx} {x : Str} {ps : List Str} {k : Nat} {sp : Sp} {C : Addr} {p pos apos : Pos} {e o : Expr} {es : List Expr} {ta : TE} {t : TA}
theorem pe_def (D : Def X.prog X.w X.K X.mg X.base x ps k sp) (hr : Room k X.A) (hg : Gl X x) (ha : PA X (e :: es) t)
    (hdb : (x == ("__debug__" : Str)) = false := by decide) (he : starEach (e :: es) X.env = (false, eval e X.env) :: starEach es X.env := by rfl) (hpl : (backTo pos (starEach es X.env)).any (·.1) = false := by rfl) :
    PE X (.Call (.Name x p) (e :: es) [] pos) (tCall sp [] E0 t) := pe_call D.ok hr hg D.m D.kp D.b .nil pass0 ha hdb he hpl
theorem pe_mdef {pl : Sem Bool} (ho : PE X o ta) (c : Cls X.K C) (D : MDef X.prog X.w X.K X.mg X.base C x ps k sp) (hr : Room k X.A) (ha : PA X (e :: es) t)
    (hst : starEach (e :: es) X.env = (false, eval e X.env) :: starEach es X.env := by rfl) (hpl : (backTo pos (starEach es X.env)).any (·.1) = false := by rfl)
    (ht : eval (.Call (.Attribute o x apos) (e :: es) [] pos) X.env = (do
      let ov ← eval o X.env
      standAt apos.atName
      let (f, first) ← holding [ov] (getMethod ov x pl)
      callWith pos f first (backTo pos (starEach (e :: es) X.env)) (backToKw pos (keywordEach [] X.env))) := by rfl) :
    PE X (.Call (.Attribute o x apos) (e :: es) [] pos) (tMeth C x sp [] E0 ta t) := pe_meth (pl := pl) ho c D.m D.ok hr D.b .nil pass0 ha hst hpl ht
theorem pe_mdef0 {pl : Sem Bool} (ho : PE X o ta) (c : Cls X.K C) (D : MDef X.prog X.w X.K X.mg X.base C x ps k sp) (hr : Room k X.A)
    (ht : eval (.Call (.Attribute o x apos) [] [] pos) X.env = (do
      let ov ← eval o X.env
      standAt apos.atName
      let (f, first) ← holding [ov] (getMethod ov x pl)
      callWith pos f first (backTo pos (starEach [] X.env)) (backToKw pos (keywordEach [] X.env))) := by rfl) :
    PE X (.Call (.Attribute o x apos) [] [] pos) (tMeth C x sp [] E0 ta tNil) := pe_meth0 (pl := pl) ho c D.m D.ok hr D.b .nil pass0 ht
theorem pe_pdef (he : PE X e ta) (c : Cls X.K C) (D : PDef X.prog X.w X.K X.mg X.base C x k sp) (hr : Room (k + 1) X.A)
    (hab : attributeBase e x X.env (eval e X.env) = eval e X.env) : PE X (.Attribute e x pos) (tProp C sp [] E0 ta) := pe_prop he c D.m D.ok hr D.b .nil pass0 hab
theorem pe_cdef (D : CDef X.prog X.w X.K X.mg X.base C x ps k sp) (hr : Room (k + 1) X.A) (hg : Gl X x) (ha : PA X (e :: es) t)
    (hdb : (x == ("__debug__" : Str)) = false := by decide) (he : starEach (e :: es) X.env = (false, eval e X.env) :: starEach es X.env := by rfl) (hpl : (backTo pos (starEach es X.env)).any (·.1) = false := by rfl) :
    PE X (.Call (.Name x p) (e :: es) [] pos) (tMake C sp [] E0 t) := pe_make D.mkk D.ok hr hg D.m D.b .nil pass0 ha hdb he hpl
end

/-! ### built-ins and constants that the top leaves alone -/
structure Bi (mg : Str → Option Value) : Prop where
  len : mg "len" = none
  isinstance : mg "isinstance" = none
  int : mg "int" = none
  bool : mg "bool" = none
  str : mg "str" = none
  tuple : mg "tuple" = none
  list : mg "list" = none
  dict : mg "dict" = none
  all : mg "all" = none
  any : mg "any" = none
  enumerate : mg "enumerate" = none
  range : mg "range" = none
  max : mg "max" = none
  min : mg "min" = none
  abs : mg "abs" = none
  divmod : mg "divmod" = none
  sorted : mg "sorted" = none
def letters : Str := "abcdefghijklmnopqrstuvwxyz"
structure Cn (K : PySem.W.Frag) (mg : Str → Option Value) : Prop where
  letters : ∃ t, mg "LETTERS" = some (.str letters t)
  longest : ∃ t, mg "LONGEST" = some (.int 6 t)
  lines : ∃ t, mg "MOST_LINES" = some (.int 4 t)
  states : ∃ t, mg "MOST_STATES" = some (.int 64 t)
  requests : ∃ t, mg "MOST_REQUESTS" = some (.int 2000 t)
  times : ∃ t, mg "MOST_TIMES" = some (.int 1000000000000000000000000000000 t)
  levels : ∃ a, mg "LEVELS" = some (.ref a) ∧ ∀ H, SqT K H a [.str "plain", .str "inclusive", .str "victim"]

/-! ### the data as tuples -/
abbrev Nm := Str
def ov : Option Nm → V
  | none => .non
  | some x => .str x
def optK : Option Nm → NestedKey
  | none => .none
  | some x => .text x
theorem ov_tn (H : Hp) : ∀ o : Option Nm, TN H (ov o) (optK o)
  | none => .none
  | some x => .text x
theorem ovs_tn (H : Hp) : ∀ l : List (Option Nm), TNs H (l.map ov) (l.map optK)
  | [] => .nil
  | o :: l => .cons (ov_tn H o) (ovs_tn H l)
theorem ov_inj {a b : Option Nm} (h : ov a = ov b) : a = b := by
  cases a <;> cases b <;> first | rfl | (simp [ov] at h; try rw [h])
theorem optK_inj {a b : Option Nm} (h : optK a = optK b) : a = b := by
  cases a <;> cases b <;> first | rfl | (simp [optK] at h; try rw [h])
abbrev nums (l : List Nat) : List NestedKey := l.map fun s : Nat => .num (s : Int)
abbrev numV (l : List Nat) : List V := l.map fun s : Nat => .int (s : Int)
theorem numV_tn (H : Hp) : ∀ l : List Nat, TNs H (numV l) (nums l)
  | [] => .nil
  | i :: l => .cons (.num (i : Int)) (numV_tn H l)
theorem nums_inv {H : Hp} : ∀ {vs : List V} {l : List Nat}, TNs H vs (nums l) → vs = numV l
  | [], [], _ => rfl
  | [], _ :: _, h => by cases h
  | _ :: _, [], h => by cases h
  | v :: vs, i :: l, h => by cases h with | cons a b => rw [TN.num_inv a, nums_inv b]; rfl
def rowK (r : Nat × Nat × List Nat) : NestedKey := .tup [.num (r.1 : Int), .num (r.2.1 : Int), .tup (nums r.2.2)]
def polK (p : Pol) : NestedKey := .tup [.num (p.lines : Int), .tup (p.rows.map rowK)]
def modeS : Nat → Str
  | 0 => "cache"
  | 1 => "plain"
  | 2 => "inclusive"
  | _ => "victim"
def devK (d : Dev) : NestedKey := .tup (.text (modeS d.mode) :: d.pols.map polK)
def momK (b : Bx Nm) : NestedKey := .tup [.tup (nums b.st), .tup (b.rw.flatten.map optK)]
def lvK (b : Bx Nm) : NestedKey := .tup (b.rw.map fun r => .tup (r.map optK))
def standK (b : Bx Nm) : NestedKey := .tup [.tup (nums b.st), lvK b]
def ringK (r : List Nm) : NestedKey := .tup (r.map .text)
theorem ring_inv {H : Hp} : ∀ {vs : List V} {r : List Nm}, TNs H vs (r.map .text) → vs = r.map V.str
  | [], [], _ => rfl
  | [], _ :: _, h => by cases h
  | _ :: _, [], h => by cases h
  | v :: vs, i :: l, h => by cases h with | cons a b => rw [TN.text_inv a, ring_inv b]; rfl
theorem ring_tn (H : Hp) : ∀ r : List Nm, TNs H (r.map V.str) (r.map .text)
  | [] => .nil
  | x :: r => .cons (.text x) (ring_tn H r)
theorem nums_inj : ∀ {a b : List Nat}, nums a = nums b → a = b
  | [], [], _ => rfl
  | [], _ :: _, h => by simp [nums] at h
  | _ :: _, [], h => by simp [nums] at h
  | x :: a, y :: b, h => by
    simp only [nums, List.map_cons, List.cons.injEq, NestedKey.num.injEq] at h
    rw [Int.ofNat.inj h.1, nums_inj h.2]
theorem optKs_inj : ∀ {a b : List (Option Nm)}, a.map optK = b.map optK → a = b
  | [], [], _ => rfl
  | [], _ :: _, h => by simp at h
  | _ :: _, [], h => by simp at h
  | x :: a, y :: b, h => by
    simp only [List.map_cons, List.cons.injEq] at h
    rw [optK_inj h.1, optKs_inj h.2]
theorem momK_inj {a b : Bx Nm} (h : momK a = momK b) : mom a = mom b := by
  simp only [momK, NestedKey.tup.injEq, List.cons.injEq, and_true] at h
  unfold mom
  rw [nums_inj h.1, optKs_inj h.2]
theorem lv_inj : ∀ {a b : List (List (Option Nm))}, (a.map fun r => NestedKey.tup (r.map optK)) = (b.map fun r => NestedKey.tup (r.map optK)) → a = b
  | [], [], _ => rfl
  | [], _ :: _, h => by simp at h
  | _ :: _, [], h => by simp at h
  | x :: a, y :: b, h => by
    simp only [List.map_cons, List.cons.injEq, NestedKey.tup.injEq] at h
    rw [optKs_inj h.1, lv_inj h.2]
theorem standK_inj {a b : Bx Nm} (h : standK a = standK b) : a = b := by
  obtain ⟨s, r⟩ := a
  obtain ⟨s', r'⟩ := b
  simp only [standK, lvK, NestedKey.tup.injEq, List.cons.injEq, and_true] at h
  rw [nums_inj h.1, lv_inj h.2]
theorem momK_depth (b : Bx Nm) : (momK b).depth ≤ 8 := by
  have h1 : ∀ l : List Nat, NestedKey.depthAll (nums l) = 0 := fun l => by
    induction l with
    | nil => rfl
    | cons x l ih => simp only [nums, List.map_cons, NestedKey.depthAll, NestedKey.depth] at ih ⊢; omega
  have h2 : ∀ l : List (Option Nm), NestedKey.depthAll (l.map optK) = 0 := fun l => by
    induction l with
    | nil => rfl
    | cons x l ih =>
      simp only [List.map_cons, NestedKey.depthAll]
      cases x <;> simp only [optK, NestedKey.depth] <;> omega
  simp only [momK, NestedKey.depth, NestedKey.depthAll, h1, h2]
  omega
def nameOk (x : Nm) : Prop := 1 ≤ x.length ∧ x.length ≤ 6 ∧ ∀ c ∈ x.cps.toList, c ∈ letters.cps.toList
end K53
end
section
set_option Elab.async false
set_option linter.all false
set_option maxRecDepth 100000
set_option maxHeartbeats 4000000
set_option pp.maxSteps 1500
namespace K53
open PySem PySem.Spec PyProof.Rows L2

theorem at0 {α : Type} {x : α} {xs : List α} : atI (x :: xs) 0 = some x := atI_nat (j := 0) rfl
theorem at1 {α : Type} {x y : α} {xs : List α} : atI (x :: y :: xs) 1 = some y := atI_nat (j := 1) rfl
theorem at2 {α : Type} {x y z : α} {xs : List α} : atI (x :: y :: z :: xs) 2 = some z := atI_nat (j := 2) rfl
/-! ### rules with the written part told, for use within comprehensions -/
section
variable {X : Cx} {K : PySem.W.Frag}
theorem k_len (h : X.K = K) : CallR X (.builtin "len") (fun xs H Q => ∃ p ys, xs = [.ref p] ∧ (SqL K H p ys ∨ SqT K H p ys) ∧ Q (.int ys.length) H) := by subst h; exact call_len_seq
theorem k_tuple (h : X.K = K) : CallR X (.type "tuple") (fun xs H Q => ∃ p ys, xs = [.ref p] ∧ ((SqL K H p ys ∧ ∀ l, H l = none → Q (.ref l) (upd H l (.tup ys))) ∨ (SqT K H p ys ∧ Q (.ref p) H))) := by subst h; exact call_tuple_of
theorem k_list (h : X.K = K) : CallR X (.type "list") (fun xs H Q => ∃ p ys, xs = [.ref p] ∧ (SqL K H p ys ∨ SqT K H p ys) ∧ ∀ l, H l = none → Q (.ref l) (upd H l (.lst ys))) := by subst h; exact call_list_of
theorem k_in (h : X.K = K) : OpR X (compareOp .In) (rIn K false) := by subst h; exact op_in_seq
theorem k_ixl (h : X.K = K) : IxR X (rIxL K) := by subst h; exact ix_list
theorem k_ixt (h : X.K = K) : IxR X (rIxT K) := by subst h; exact ix_tup
theorem k_sll (h : X.K = K) : SlR X (rSlL K) := by subst h; exact sl_list
theorem k_inD (h : X.K = K) (hu : X.A.units + 65 < cLine) : OpR X (compareOp .In) (rInD K) := by subst h; exact op_inD hu
theorem k_notinD (h : X.K = K) (hu : X.A.units + 65 < cLine) : OpR X (compareOp .NotIn) (rNotInD K) := by subst h; exact op_notInD hu
theorem k_idxD (h : X.K = K) (hu : X.A.units + 65 < cLine) : MtR X "list.index" (rIndexD K) := by subst h; exact mt_indexD hu
theorem k_catA (h : X.K = K) : OpR X (binaryOp .Add) (rCatA K) := by subst h; exact op_catA
theorem k_repN (h : X.K = K) : OpR X (binaryOp .Mult) (rRepN K) := by subst h; exact op_repN
theorem k_pil (h : X.K = K) {tg l : Expr} {tl : TE} (hl : PE X l tl) : PI X tg l (iList K tl) := by subst h; exact pi_list hl
theorem k_pit (h : X.K = K) {tg l : Expr} {tl : TE} (hl : PE X l tl) : PI X tg l (iTup K tl) := by subst h; exact pi_tup hl
end

/-! ### isinstance -/
theorem isi_ty {K : PySem.W.Frag} {H : Hp} {x : V} {a b : String} {r : Bool} {Q : VK} (ty : TyX K H x (.type a)) (h : kitB a b = some r) (q : Q (.bl r) H) : rIsi K [x, .ty b] H Q :=
  ⟨x, .ty b, .type a, .type b, r, rfl, .ty b, ty, kit_ty h, q⟩
theorem isi_str {K : PySem.W.Frag} {H : Hp} {x : Str} {Q : VK} (q : Q (.bl true) H) : rIsi K [.str x, .ty "str"] H Q := isi_ty (.base (.str x)) (by decide +kernel) q
theorem isi_int {K : PySem.W.Frag} {H : Hp} {x : Int} {Q : VK} (q : Q (.bl true) H) : rIsi K [.int x, .ty "int"] H Q := isi_ty (.base (.int x)) (by decide +kernel) q
theorem isi_int_bool {K : PySem.W.Frag} {H : Hp} {x : Int} {Q : VK} (q : Q (.bl false) H) : rIsi K [.int x, .ty "bool"] H Q := isi_ty (.base (.int x)) (by decide +kernel) q
theorem isi_tup {K : PySem.W.Frag} {H : Hp} {a : Addr} {xs : List V} {Q : VK} (e : H a = some (.tup xs)) (q : Q (.bl true) H) : rIsi K [.ref a, .ty "tuple"] H Q := isi_ty (.base (.tup e)) (by decide +kernel) q

/-! ### a comprehension of one name, no test: what is made, what is left as it was -/
theorem wipe1 (σ : L2.St) (i : Nat) : wipe σ [i] = σ.set i none := rfl
/-- what the element's value must bring, at turn i -/
def LcQ (F : Addr → Prop) (C : Addr → Nat → List V → Hp → Prop) (H1 : Hp) (D : Addr) (i : Nat) : VK := fun y H4 => ∃ acc, H4 D = some (.lst acc) ∧ acc.length < sizeLine ∧
  ∃ acc', (upd H4 D (.lst (acc ++ [y]))) D = some (.lst acc') ∧ acc'.length = i + 1 ∧ Fr F H1 (upd H4 D (.lst (acc ++ [y]))) ∧ C D (i + 1) acc' (upd H4 D (.lst (acc ++ [y])))
theorem fr_fresh {F : Addr → Prop} {H1 H : Hp} {D : Addr} {xs : List V} (o : HO) (f : Fr F H1 H) (hD : H1 D = none) (e : H D = some (.lst xs)) : Fr F H1 (upd H D o) :=
  ⟨fun a u h n => by rw [upd_ne (ne_of_none h hD)]; exact f.keep a u h n, fun a ys h => by rw [upd_ne (ne_of_none h hD)]; exact f.tk a ys h, fun a h => by
    by_cases z : a = D
    · subst z; rw [upd_same] at h; cases h
    · rw [upd_ne z] at h; exact f.dom a h⟩
theorem LcQ.mk {F : Addr → Prop} {C : Addr → Nat → List V → Hp → Prop} {H1 H4 : Hp} {D : Addr} {i : Nat} {acc : List V} {y : V} (hD : H1 D = Option.none) (e : H4 D = some (.lst acc)) (el : acc.length = i) (hi : i < sizeLine) (f : Fr F H1 H4)
    (c : C D (i + 1) (acc ++ [y]) (upd H4 D (.lst (acc ++ [y])))) : LcQ F C H1 D i y H4 :=
  ⟨acc, e, by rw [el]; exact hi, _, upd_same, by rw [List.length_append, el]; rfl, fr_fresh _ f hD e, c⟩
/-- a comprehension of the one name i0 over J, no test, from the heap H1 on -/
def LcAll (J : It) (i0 : Nat) (te : TE) (σ : L2.St) (Q : VK) (H1 : Hp) : Prop :=
    ∀ D, H1 D = none → ∃ W : Nat → Nat → Hp → Prop, (∃ m, W 0 m (upd H1 D (.lst []))) ∧ ∀ i m H, W i m H →
      (J.stop i H ∧ Q (.ref D) H) ∨ (J.go i H ∧ ∃ Nx : Hp → Prop, (∀ H', Nx H' → ∃ m', m' < m ∧ W (i + 1) m' H') ∧ ∀ x H', J.yld i H x H' → gName i0 x (wipe σ [i0]) H' fun σ2 H2 => wipe σ2 [i0] = wipe σ [i0] ∧ tYes σ2 H2 fun b H3 =>
        if b = true then te σ2 H3 fun y H4 => ∃ acc, H4 D = some (.lst acc) ∧ acc.length < sizeLine ∧ Nx (upd H4 D (.lst (acc ++ [y]))) else Nx H3)
theorem tlc {wi : TI} {i0 : Nat} {te : TE} {vs : List Nat} {σ : L2.St} {H : Hp} {Q : VK} (hvs : vs = [i0]) (h : wi σ H fun J H1 => LcAll J i0 te σ Q H1) : tLc wi (gName i0) tYes te vs σ H Q := by
  subst hvs
  exact h
theorem lc_fr {J : It} {n : Nat} {G : Hp → Prop} {Y : Nat → Hp → V → Hp → Prop} (w : Walk J n G Y) {i0 : Nat} {te : TE} {σ : L2.St} {H1 : Hp} {Q : VK} (F : Addr → Prop) (C : Addr → Nat → List V → Hp → Prop)
    (hG : ∀ D i acc H, Fr F H1 H → C D i acc H → G H)
    (h0 : ∀ D, H1 D = none → C D 0 [] (upd H1 D (.lst [])))
    (hs : ∀ D i x H H' acc, H1 D = none → i < n → acc.length = i → Fr F H1 H → C D i acc H → H D = some (.lst acc) → Y i H x H' → te (σ.set i0 (some x)) H' (LcQ F C H1 D i))
    (hd : ∀ D acc H, H1 D = none → acc.length = n → Fr F H1 H → C D n acc H → H D = some (.lst acc) → Q (.ref D) H) :
    LcAll J i0 te σ Q H1 := by
  intro D hD
  refine lc_it w (fun i H => ∃ acc, H D = some (.lst acc) ∧ acc.length = i ∧ Fr F H1 H ∧ C D i acc H) ⟨[], upd_same, rfl, Fr.new _ hD, h0 D hD⟩ (fun i H _ ⟨acc, _, _, f, c⟩ => hG D i acc H f c) ?_ ?_
  · rintro i x H H' hi ⟨acc, e, el, f, c⟩ hy
    have e1 : (wipe σ [i0]).set i0 (some x) = σ.set i0 (some x) := by rw [wipe1, List.set_set]
    show wipe ((wipe σ [i0]).set i0 (some x)) [i0] = wipe σ [i0] ∧ _
    rw [e1]
    refine ⟨by rw [wipe1, wipe1, List.set_set], ?_⟩
    show if true = true then te (σ.set i0 (some x)) H' (LcQ F C H1 D i) else (∃ acc, H' D = some (.lst acc) ∧ acc.length = i + 1 ∧ Fr F H1 H' ∧ C D (i + 1) acc H')
    rw [if_pos rfl]
    exact hs D i x H H' acc hD hi el f c e hy
  · rintro H ⟨acc, e, el, f, c⟩
    exact hd D acc H hD el f c e
end K53
end
section
set_option Elab.async false
set_option linter.all false
set_option maxRecDepth 100000
set_option maxHeartbeats 4000000
set_option pp.maxSteps 2500
namespace K53
open PySem PySem.Spec PyProof.Rows L2
local macro_rules | `(tactic| walk_at "rd") => `(tactic| (
  try dsimp only [tSeq, tIfS, tOr, tAnd, tNot, tNotV, tAndV, tOrV, tB, tCB, tCons, tNil, tVar, tC, tTest, tChain, tRet, tRetN, tNext, tOp, rI0, rI, tAsg, gName, tDrop, tIf, tTup, tLst, tFld, tUn, rU, tCall, tMeth, tMake, tProp, iStr, iTup, iList, iRng1, iRng2, iEnumT,
    tPar, tPar3, gTup, gCons, gNil, gSub, gUnl, rSetL, rIxL, rIxT, rAppend, rExtend, tBM, tBM0, sFld, sFldAug, tSl, tPart, tNoPart, rSlL, rSlA, tAug, ipI, t2I, rEq, rNe, scal, List.append_nil, List.cons_append, List.nil_append, List.getElem?_cons_zero, List.getElem?_cons_succ, List.set_cons_zero, List.set_cons_succ,
    List.map_cons, List.map_nil]
  try simp only [Option.some.injEq, exists_eq_left', exists_eq_left, exists_eq_right, exists_eq', V.int.injEq, V.str.injEq, V.bl.injEq, V.ref.injEq, List.cons.injEq, and_true, true_and, and_assoc, exists_and_left, exists_const, Bool.not_true, Bool.not_false, Bool.false_eq_true, if_true, if_false, ite_true, ite_false, decide_true, decide_false, reduceCtorEq, false_and, false_or, or_false, List.cons_ne_nil, exists_false, List.length_cons, List.length_nil, Nat.reduceAdd, Nat.zero_add, Int.cast_ofNat_Int, Int.reduceEq, Int.reduceLT, Int.reduceLE, Int.reduceAdd, Int.reduceSub, at0, at1, at2]))

section
variable {P : Program} {w : World} {K : PySem.W.Frag} {mg : Str → Option Value} {base : Heap}

/-! ### is_name, check_name, check_history -/
abbrev sIsName : Stmt := (top 17)
abbrev sIsNameN : List Str := ["value", "letter"]
theorem sIsNameS : FnScope sIsNameN ["value"] (defScope sIsName) := ⟨rfl, rfl, rfl, by decide +kernel, rfl, by decide +kernel, by decide +kernel⟩
def spIsName : Sp := fun vs H Q _ => ∃ x : Nm, vs = [.str x] ∧ nameOk x ∧ ∀ H', Fr F0 H H' → Q (.bl true) H'
theorem line6 {x : Nm} (h : x.length ≤ 6) : x.length ≤ sizeLine := Nat.le_trans h (by decide)
theorem ok_is_name {f : Addr} {fd : FuncData} (F : Fun K "is_name" "is_name" sIsName f fd) (Bb : Bi mg) (Cc : Cn K mg) : FnOk P w K mg base CX0 1 f fd ["value"] spIsName := by
  obtain ⟨_, mLet⟩ := Cc.letters
  obtain ⟨_, mLon⟩ := Cc.longest
  refine F.ok sIsNameS (fun vs H Q E h => ?_) (fun cdv A outer s H vs Q E hr h => ?_)
  · obtain ⟨x, rfl, _⟩ := h
    rfl
  · obtain ⟨x, rfl, ⟨h1, h2, h3⟩, k⟩ := h
    refine ⟨_, (pss_cons (ps_if (PW.pt (pw_or (pt_not (pt_val (pe_callB (id := "isinstance") call_isi (by rfl) Bb.isinstance (by decide +kernel) (pa_cons (pv 0) (pa_cons (pe_bltn (v := .ty "str") (by rfl) Bb.str (by decide +kernel) rfl) pa_nil))))) (pw_or1 (pt_not (pt_chain op_le op_le pe_int (pe_callB (id := "len") call_len_str (by rfl) Bb.len (by decide +kernel) (pa_cons (pv 0) pa_nil)) (pe_glob (v := .int 6) (by rfl) mLon ⟨_, rfl⟩)))))) (pss_one (ps_ret pe_bl)) pss_nil)
      (pss_one (ps_ret (pe_callB (id := "all") (cr_all rfl) (by rfl) Bb.all (by decide +kernel) (pa_cons (pe_lc (own := [("letter", 1)]) (g := gName 1) (tt := tYes) rfl sIsNameS.nd (pi_str (pv 0)) (blkOk_by (N := sIsNameN) (sc := (defScope sIsName)) (by decide +kernel)) (fun _ _ _ _ _ => pg_name (i := 1) sIsNameS.nd rfl (Or.inl rfl)) (fun _ _ _ _ _ => pts_nil) (fun _ _ _ _ _ => (pe_cmpR op_in_sign (pv 1) (pe_glob (v := .str letters) (by rfl) mLet ⟨_, rfl⟩) rfl))) pa_nil))))), ?_⟩
    rw [show L2.start sIsNameN [V.str x] = [some (.str x), none] from rfl]
    walk_at "rd"
    refine isi_str ?_
    walk_at "rd"
    refine ⟨line6 h2, ?_⟩
    rw [decide_eq_true (show (1 : Int) ≤ (x.length : Int) by omega), decide_eq_true (show (x.length : Int) ≤ 6 by omega)]
    walk_at "rd"
    refine tlc rfl ?_
    walk_at "rd"
    refine lc_fr (walk_str (z := x)) F0 (fun D i acc H' => acc = (List.replicate i true).map V.bl) (fun _ _ _ _ _ _ => trivial) (fun _ _ => rfl) ?_ ?_
    · rintro D i y H1 H2 acc hD hi el fr rfl e ⟨rfl, c, hc, rfl⟩
      walk_at "rd"
      refine ⟨c, rfl, ?_⟩
      rw [decide_eq_true (h3 c (by rw [Array.mem_toList_iff]; exact Array.mem_of_getElem? hc))]
      refine LcQ.mk hD e el ?_ fr ?_
      · have : i < x.length := hi
        have := line6 h2
        omega
      · rw [List.replicate_succ', List.map_append]; rfl
    · rintro D acc H1 hD el fr rfl e
      refine ⟨D, _, rfl, sqL e, ?_⟩
      rw [show (List.replicate x.cps.size true).all id = true by simp]
      exact k _ fr
abbrev sChkName : Stmt := (top 18)
abbrev sChkNameN : List Str := ["name"]
theorem sChkNameS : FnScope sChkNameN ["name"] (defScope sChkName) := ⟨rfl, rfl, rfl, by decide +kernel, rfl, by decide +kernel, by decide +kernel⟩
def spChkName : Sp := fun vs H Q _ => ∃ x : Nm, vs = [.str x] ∧ nameOk x ∧ ∀ H', Fr F0 H H' → Q .non H'
theorem ok_check_name {f : Addr} {fd : FuncData} (F : Fun K "check_name" "check_name" sChkName f fd) (D_is_name : Def P w K mg base "is_name" ["value"] 1 spIsName) : FnOk P w K mg base CX0 2 f fd ["name"] spChkName := by
  refine F.ok sChkNameS (fun vs H Q E h => ?_) (fun cdv A outer s H vs Q E hr h => ?_)
  · obtain ⟨x, rfl, _⟩ := h
    rfl
  · obtain ⟨x, rfl, hx, k⟩ := h
    refine ⟨_, (pss_one (ps_if (pt_not (pt_val (pe_def D_is_name (hr.mono (by decide)) (by rfl) (pa_cons (pv 0) pa_nil)))) (pss_one ps_never) pss_nil)), ?_⟩
    rw [show L2.start sChkNameN [V.str x] = [some (.str x)] from rfl]
    walk_at "rd"
    refine ⟨x, rfl, hx, fun H1 f1 => ?_⟩
    walk_at "rd"
    exact k _ f1
abbrev sChkHist : Stmt := (top 19)
abbrev sChkHistN : List Str := ["names", "index", "name"]
theorem sChkHistS : FnScope sChkHistN ["names"] (defScope sChkHist) := ⟨rfl, rfl, rfl, by decide +kernel, rfl, by decide +kernel, by decide +kernel⟩
def spChkHist : Sp := fun vs H Q _ => ∃ (a : Addr) (r : List Nm), vs = [.ref a] ∧ H a = some (.tup (r.map V.str)) ∧ r.length ≤ 2000 ∧ (∀ x ∈ r, nameOk x) ∧ ∀ H', Fr F0 H H' → Q .non H'
theorem ok_check_history {f : Addr} {fd : FuncData} (F : Fun K "check_history" "check_history" sChkHist f fd) (Bb : Bi mg) (Cc : Cn K mg) (D_is_name : Def P w K mg base "is_name" ["value"] 1 spIsName) : FnOk P w K mg base CX0 2 f fd ["names"] spChkHist := by
  obtain ⟨_, mReq⟩ := Cc.requests
  refine F.ok sChkHistS (fun vs H Q E h => ?_) (fun cdv A outer s H vs Q E hr h => ?_)
  · obtain ⟨a, r, rfl, _⟩ := h
    rfl
  · obtain ⟨a, r, rfl, ha, hl, hn, k⟩ := h
    refine ⟨_, (pss_cons (ps_if (PW.pt (pw_or (pt_not (pt_val (pe_callB (id := "isinstance") call_isi (by rfl) Bb.isinstance (by decide +kernel) (pa_cons (pv 0) (pa_cons (pe_bltn (v := .ty "tuple") (by rfl) Bb.tuple (by decide +kernel) rfl) pa_nil))))) (pw_or1 (pt_cmpR op_gt (pe_callB (id := "len") call_len_seq (by rfl) Bb.len (by decide +kernel) (pa_cons (pv 0) pa_nil)) (pe_glob (v := .int 2000) (by rfl) mReq ⟨_, rfl⟩) (nomark _))))) (pss_one ps_never) pss_nil)
      (pss_one (ps_for PassesOwn.never rfl (pi_enumT (by rfl) Bb.enumerate (pa_cons (pv 0) pa_nil)) (pg_tup rfl (pgs_cons (pg_name (i := 1) sChkHistS.nd rfl (Or.inl rfl)) (pgs_cons (pg_name (i := 2) sChkHistS.nd rfl (Or.inl rfl)) pgs_nil))) (pss_one (ps_if (pt_not (pt_val (pe_def D_is_name (hr.mono (by decide)) (by rfl) (pa_cons (pv 2) pa_nil)))) (pss_one ps_never) pss_nil))))), ?_⟩
    rw [show L2.start sChkHistN [V.ref a] = [some (.ref a), none, none] from rfl]
    walk_at "rd"
    refine isi_tup ha ?_
    walk_at "rd"
    refine ⟨_, .inr (sqT ha), ?_⟩
    rw [decide_eq_false (show ¬ (2000 : Int) < ((r.map V.str).length : Int) by rw [List.length_map]; omega)]
    walk_at "rd"
    refine ⟨_, rfl, a, _, rfl, sqT ha, for_enumT (xs := r.map V.str) (fun i σ H2 => ∃ u v, σ = [some (.ref a), u, v] ∧ Fr F0 H H2) ⟨none, none, rfl, Fr.refl _ _⟩ (fun i σ H2 _ ⟨_, _, _, f2⟩ => f2.tk _ _ ha) ?_ ?_⟩
    · rintro i x T σ H2 hx ⟨u, v, rfl, f2⟩ hT
      obtain ⟨y, hy, rfl⟩ : ∃ y, r[i]? = some y ∧ x = V.str y := by
        rw [List.getElem?_map] at hx
        cases e : r[i]? with
        | none => rw [e] at hx; cases hx
        | some y => rw [e] at hx; exact ⟨y, rfl, (Option.some.inj hx).symm⟩
      refine ⟨T, _, rfl, sqT upd_same, rfl, _, _, rfl, _, _, rfl, rfl, ?_⟩
      walk_at "rd"
      refine ⟨y, rfl, hn y (List.mem_of_getElem? hy), fun H3 f3 => ?_⟩
      walk_at "rd"
      exact (f2.trans (Fr.new _ hT)).trans f3
    · rintro σ H2 ⟨u, v, rfl, f2⟩
      exact k _ f2
end
end K53
end
section
set_option Elab.async false
set_option linter.all false
set_option maxRecDepth 100000
set_option maxHeartbeats 4000000
set_option pp.maxSteps 2500
namespace K53
open PySem PySem.Spec PyProof.Rows L2
local macro_rules | `(tactic| walk_at "rd") => `(tactic| (
  try dsimp only [tSeq, tIfS, tOr, tAnd, tNot, tNotV, tAndV, tOrV, tB, tCB, tCons, tNil, tVar, tC, tTest, tChain, tRet, tRetN, tNext, tOp, rI0, rI, tAsg, gName, tDrop, tIf, tTup, tLst, tFld, tUn, rU, tCall, tMeth, tMake, tProp, iStr, iTup, iList, iRng1, iRng2, iEnumT,
    tPar, tPar3, gTup, gCons, gNil, gSub, gUnl, rSetL, rIxL, rIxT, rAppend, rExtend, tBM, tBM0, sFld, sFldAug, tSl, tPart, tNoPart, rSlL, rSlA, rSlT, tAug, ipI, t2I, rEq, rNe, scal, List.append_nil, List.cons_append, List.nil_append, List.getElem?_cons_zero, List.getElem?_cons_succ, List.set_cons_zero, List.set_cons_succ,
    List.map_cons, List.map_nil]
  try simp only [Option.some.injEq, exists_eq_left', exists_eq_left, exists_eq_right, exists_eq', V.int.injEq, V.str.injEq, V.bl.injEq, V.ref.injEq, List.cons.injEq, and_true, true_and, and_assoc, exists_and_left, exists_const, Bool.not_true, Bool.not_false, Bool.false_eq_true, if_true, if_false, ite_true, ite_false, decide_true, decide_false, reduceCtorEq, false_and, false_or, or_false, List.cons_ne_nil, exists_false, List.length_cons, List.length_nil, Nat.reduceAdd, Nat.zero_add, Int.cast_ofNat_Int, Int.reduceEq, Int.reduceLT, Int.reduceLE, Int.reduceAdd, Int.reduceSub, at0, at1, at2, eq_self, List.reverse_cons, List.reverse_nil]))

section
variable {P : Program} {w : World} {K : PySem.W.Frag} {mg : Str → Option Value} {base : Heap}

/-! ### is_integer .. check_device -/
abbrev sIsInt : Stmt := (top 24)
abbrev sIsIntN : List Str := ["value"]
theorem sIsIntS : FnScope sIsIntN ["value"] (defScope sIsInt) := ⟨rfl, rfl, rfl, by decide +kernel, rfl, by decide +kernel, by decide +kernel⟩
def spIsInt : Sp := fun vs H Q _ => ∃ i : Int, vs = [.int i] ∧ Q (.bl true) H
theorem ok_is_integer {f : Addr} {fd : FuncData} (F : Fun K "is_integer" "is_integer" sIsInt f fd) (Bb : Bi mg) : FnOk P w K mg base CX0 1 f fd ["value"] spIsInt := by
  refine F.ok sIsIntS (fun vs H Q E h => ?_) (fun cdv A outer s H vs Q E hr h => ?_)
  · obtain ⟨x, rfl, _⟩ := h
    rfl
  · obtain ⟨x, rfl, k⟩ := h
    refine ⟨_, (pss_one (ps_ret (pe_and (pe_callB (id := "isinstance") call_isi (by rfl) Bb.isinstance (by decide +kernel) (pa_cons (pv 0) (pa_cons (pe_bltn (v := .ty "int") (by rfl) Bb.int (by decide +kernel) rfl) pa_nil))) (pe_one (pe_not (pe_callB (id := "isinstance") call_isi (by rfl) Bb.isinstance (by decide +kernel) (pa_cons (pv 0) (pa_cons (pe_bltn (v := .ty "bool") (by rfl) Bb.bool (by decide +kernel) rfl) pa_nil)))))))), ?_⟩
    rw [show L2.start sIsIntN [V.int x] = [some (.int x)] from rfl]
    walk_at "rd"
    refine isi_int ?_
    walk_at "rd"
    refine isi_int_bool ?_
    walk_at "rd"
    exact k
abbrev sIsBet : Stmt := (top 25)
abbrev sIsBetN : List Str := ["value", "least", "greatest"]
theorem sIsBetS : FnScope sIsBetN ["value", "least", "greatest"] (defScope sIsBet) := ⟨rfl, rfl, rfl, by decide +kernel, rfl, by decide +kernel, by decide +kernel⟩
def spIsBet : Sp := fun vs H Q _ => ∃ v lo hi : Int, vs = [.int v, .int lo, .int hi] ∧ lo ≤ v ∧ v ≤ hi ∧ Q (.bl true) H
theorem ok_is_between {f : Addr} {fd : FuncData} (F : Fun K "is_between" "is_between" sIsBet f fd) (D_is_integer : Def P w K mg base "is_integer" ["value"] 1 spIsInt) : FnOk P w K mg base CX0 2 f fd ["value", "least", "greatest"] spIsBet := by
  refine F.ok sIsBetS (fun vs H Q E h => ?_) (fun cdv A outer s H vs Q E hr h => ?_)
  · obtain ⟨v, lo, hi, rfl, _⟩ := h
    rfl
  · obtain ⟨v, lo, hi, rfl, h1, h2, k⟩ := h
    refine ⟨_, (pss_one (ps_ret (pe_and (pe_def D_is_integer (hr.mono (by decide)) (by rfl) (pa_cons (pv 0) pa_nil)) (pe_one (pe_chain op_le op_le (pv 1) (pv 0) (pv 2)))))), ?_⟩
    rw [show L2.start sIsBetN [V.int v, .int lo, .int hi] = [some (.int v), some (.int lo), some (.int hi)] from rfl]
    walk_at "rd"
    refine ⟨v, rfl, ?_⟩
    rw [decide_eq_true h1, decide_eq_true h2]
    walk_at "rd"
    exact k
theorem row_inv {H : Hp} {v : V} {r : Nat × Nat × List Nat} (h : TN H v (rowK r)) : ∃ a b, v = .ref a ∧ H a = some (.tup [.int (r.1 : Int), .int (r.2.1 : Int), .ref b]) ∧ H b = some (.tup (numV r.2.2)) := by
  obtain ⟨a, xs, rfl, e, t⟩ := h.tup_inv
  cases t with | cons t1 t =>
  cases t with | cons t2 t =>
  cases t with | cons t3 t =>
  cases t
  cases t1; cases t2
  obtain ⟨b, ys, rfl, e2, t4⟩ := t3.tup_inv
  rw [nums_inv t4] at e2
  exact ⟨a, b, rfl, e, e2⟩
abbrev sIsRow : Stmt := (top 26)
abbrev sIsRowN : List Str := ["value", "lines", "states", "state"]
theorem sIsRowS : FnScope sIsRowN ["value", "lines", "states"] (defScope sIsRow) := ⟨rfl, rfl, rfl, by decide +kernel, rfl, by decide +kernel, by decide +kernel⟩
def spIsRow : Sp := fun vs H Q _ => ∃ (v : V) (r : Nat × Nat × List Nat) (l n : Nat), vs = [v, .int (l : Int), .int (n : Int)] ∧ TN H v (rowK r) ∧ RowOk l n r ∧ ∀ H', Fr F0 H H' → Q (.bl true) H'
theorem ok_is_row {f : Addr} {fd : FuncData} (F : Fun K "is_row" "is_row" sIsRow f fd) (Bb : Bi mg) (D_is_between : Def P w K mg base "is_between" ["value", "least", "greatest"] 2 spIsBet) : FnOk P w K mg base CX0 3 f fd ["value", "lines", "states"] spIsRow := by
  refine F.ok sIsRowS (fun vs H Q E h => ?_) (fun cdv A outer s H vs Q E hr h => ?_)
  · obtain ⟨v, r, l, n, rfl, _⟩ := h
    rfl
  · obtain ⟨v, r, l, n, rfl, t, ok, k⟩ := h
    obtain ⟨a, b, rfl, ea, eb⟩ := row_inv t
    have o1 := ok.v
    have o2 := ok.a
    have o3 := ok.hl
    refine ⟨_, (pss_cons (ps_if (PW.pt (pw_or (pt_not (pt_val (pe_callB (id := "isinstance") call_isi (by rfl) Bb.isinstance (by decide +kernel) (pa_cons (pv 0) (pa_cons (pe_bltn (v := .ty "tuple") (by rfl) Bb.tuple (by decide +kernel) rfl) pa_nil))))) (pw_or (pt_cmpR op_ne (pe_callB (id := "len") call_len_seq (by rfl) Bb.len (by decide +kernel) (pa_cons (pv 0) pa_nil)) pe_int (nomark _)) (pw_or1 (pt_not (pt_val (pe_def D_is_between (hr.mono (by decide)) (by rfl) (pa_cons (pe_ix ix_tup (pv 0) pe_int (fun _ _ => rfl)) (pa_cons pe_int (pa_cons (pe_op op_sub (pv 1) pe_int) pa_nil)))))))))) (pss_one (ps_ret pe_bl)) pss_nil)
      (pss_cons (ps_if (PW.pt (pw_or (pt_not (pt_val (pe_def D_is_between (hr.mono (by decide)) (by rfl) (pa_cons (pe_ix ix_tup (pv 0) pe_int (fun _ _ => rfl)) (pa_cons pe_int (pa_cons (pe_op op_sub (pv 2) pe_int) pa_nil)))))) (pw_or (pt_not (pt_val (pe_callB (id := "isinstance") call_isi (by rfl) Bb.isinstance (by decide +kernel) (pa_cons (pe_ix ix_tup (pv 0) pe_int (fun _ _ => rfl)) (pa_cons (pe_bltn (v := .ty "tuple") (by rfl) Bb.tuple (by decide +kernel) rfl) pa_nil))))) (pw_or1 (pt_cmpR op_ne (pe_callB (id := "len") call_len_seq (by rfl) Bb.len (by decide +kernel) (pa_cons (pe_ix ix_tup (pv 0) pe_int (fun _ _ => rfl)) pa_nil)) (pv 1) (nomark _)))))) (pss_one (ps_ret pe_bl)) pss_nil)
      (pss_one (ps_ret (pe_callB (id := "all") (cr_all rfl) (by rfl) Bb.all (by decide +kernel) (pa_cons (pe_lc (own := [("state", 3)]) (g := gName 3) (tt := tYes) rfl sIsRowS.nd (pi_tup (pe_ix ix_tup (pv 0) pe_int (fun _ _ => rfl))) (blkOk_by (N := sIsRowN) (sc := (defScope sIsRow)) (by decide +kernel)) (fun _ _ _ _ _ => pg_name (i := 3) sIsRowS.nd rfl (Or.inl rfl)) (fun _ _ _ _ _ => pts_nil) (fun _ _ _ _ _ => (pe_def D_is_between (hr.mono (by decide)) (by rfl) (pa_cons (pv 3) (pa_cons pe_int (pa_cons (pe_op op_sub (pv 2) pe_int) pa_nil)))))) pa_nil)))))), ?_⟩
    rw [show L2.start sIsRowN [V.ref a, .int (l : Int), .int (n : Int)] = [some (.ref a), some (.int (l : Int)), some (.int (n : Int)), none] from rfl]
    walk_at "rd"
    refine isi_tup ea ?_
    walk_at "rd"
    refine ⟨_, .inr (sqT ea), ?_⟩
    walk_at "rd"
    refine ⟨_, sqT ea, ?_⟩
    walk_at "rd"
    refine ⟨_, _, _, rfl, by omega, by omega, ?_⟩
    walk_at "rd"
    refine ⟨_, sqT ea, ?_⟩
    walk_at "rd"
    refine ⟨_, _, _, rfl, by omega, by omega, ?_⟩
    walk_at "rd"
    refine ⟨_, sqT ea, ?_⟩
    walk_at "rd"
    refine isi_tup eb ?_
    walk_at "rd"
    refine ⟨_, sqT ea, ?_⟩
    walk_at "rd"
    refine ⟨_, .inr (sqT eb), ?_⟩
    walk_at "rd"
    rw [decide_eq_true (show ((numV r.2.2).length : Int) = (l : Int) by rw [List.length_map, o3])]
    walk_at "rd"
    refine tlc rfl ?_
    walk_at "rd"
    refine ⟨_, sqT ea, ?_⟩
    walk_at "rd"
    refine ⟨⟨_, sqT eb⟩, ?_⟩
    refine lc_fr (walk_tup (K := K) (a := b) (xs := numV r.2.2)) F0 (fun D i acc H' => acc = (List.replicate i true).map V.bl) (fun _ _ _ _ fr _ => fr.seqT eb) (fun _ _ => rfl) ?_ ?_
    · rintro D i y H1 H2 acc hD hi el fr rfl e ⟨rfl, hy⟩
      obtain ⟨z, hz, rfl⟩ : ∃ z, r.2.2[i]? = some z ∧ y = V.int (z : Int) := by
        rw [List.getElem?_map] at hy
        cases e : r.2.2[i]? with
        | none => rw [e] at hy; cases hy
        | some y => rw [e] at hy; exact ⟨y, rfl, (Option.some.inj hy).symm⟩
      have hz' := ok.h z (List.mem_of_getElem? hz)
      walk_at "rd"
      refine ⟨_, _, _, rfl, by omega, by omega, ?_⟩
      refine LcQ.mk hD e el ?_ fr ?_
      · have h1 : i < (numV r.2.2).length := hi
        rw [List.length_map, o3] at h1
        have h2 := ok.l3
        exact Nat.lt_of_lt_of_le (Nat.lt_of_lt_of_le h1 h2) (by decide)
      · rw [List.replicate_succ', List.map_append]; rfl
    · rintro D acc H1 hD el fr rfl e
      refine ⟨D, _, rfl, sqL e, ?_⟩
      rw [show (List.replicate (numV r.2.2).length true).all id = true by simp]
      exact k _ fr
theorem pol_inv {H : Hp} {v : V} {p : Pol} (h : TN H v (polK p)) : ∃ a b rs, v = .ref a ∧ H a = some (.tup [.int (p.lines : Int), .ref b]) ∧ H b = some (.tup rs) ∧ TNs H rs (p.rows.map rowK) := by
  obtain ⟨a, xs, rfl, e, t⟩ := h.tup_inv
  cases t with | cons t1 t =>
  cases t with | cons t2 t =>
  cases t
  cases t1
  obtain ⟨b, ys, rfl, e2, t4⟩ := t2.tup_inv
  exact ⟨a, b, ys, rfl, e, e2, t4⟩
abbrev sIsPol : Stmt := (top 27)
abbrev sIsPolN : List Str := ["value", "lines", "rows", "row"]
theorem sIsPolS : FnScope sIsPolN ["value"] (defScope sIsPol) := ⟨rfl, rfl, rfl, by decide +kernel, rfl, by decide +kernel, by decide +kernel⟩
def spIsPol : Sp := fun vs H Q _ => ∃ (v : V) (p : Pol), vs = [v] ∧ TN H v (polK p) ∧ PolOk p ∧ ∀ H', Fr F0 H H' → Q (.bl true) H'
theorem ok_is_policy {f : Addr} {fd : FuncData} (F : Fun K "is_policy" "is_policy" sIsPol f fd) (Bb : Bi mg) (Cc : Cn K mg) (D_is_between : Def P w K mg base "is_between" ["value", "least", "greatest"] 2 spIsBet) (D_is_row : Def P w K mg base "is_row" ["value", "lines", "states"] 3 spIsRow) :
    FnOk P w K mg base CX0 4 f fd ["value"] spIsPol := by
  obtain ⟨_, mLin⟩ := Cc.lines
  obtain ⟨_, mSta⟩ := Cc.states
  refine F.ok sIsPolS (fun vs H Q E h => ?_) (fun cdv A outer s H vs Q E hr h => ?_)
  · obtain ⟨v, p, rfl, _⟩ := h
    rfl
  · obtain ⟨v, p, rfl, t, ok, k⟩ := h
    obtain ⟨a, b, rs, rfl, ea, eb, tr⟩ := pol_inv t
    have o1 := ok.l1
    have o2 := ok.l3
    have o3 := ok.r1
    have o4 := ok.r6
    have hl : rs.length = p.rows.length := by rw [tr.length, List.length_map]
    refine ⟨_, (pss_cons (ps_if (PW.pt (pw_or (pt_not (pt_val (pe_callB (id := "isinstance") call_isi (by rfl) Bb.isinstance (by decide +kernel) (pa_cons (pv 0) (pa_cons (pe_bltn (v := .ty "tuple") (by rfl) Bb.tuple (by decide +kernel) rfl) pa_nil))))) (pw_or (pt_cmpR op_ne (pe_callB (id := "len") call_len_seq (by rfl) Bb.len (by decide +kernel) (pa_cons (pv 0) pa_nil)) pe_int (nomark _)) (pw_or1 (pt_not (pt_val (pe_def D_is_between (hr.mono (by decide)) (by rfl) (pa_cons (pe_ix ix_tup (pv 0) pe_int (fun _ _ => rfl)) (pa_cons pe_int (pa_cons (pe_glob (v := .int 4) (by rfl) mLin ⟨_, rfl⟩) pa_nil)))))))))) (pss_one (ps_ret pe_bl)) pss_nil)
      (pss_cons (ps_asg (pv 0) (pg_tup rfl (pgs_cons (pg_name (i := 1) sIsPolS.nd rfl (Or.inr rfl)) (pgs_cons (pg_name (i := 2) sIsPolS.nd rfl (Or.inr rfl)) pgs_nil))))
      (pss_cons (ps_if (PW.pt (pw_or (pt_not (pt_val (pe_callB (id := "isinstance") call_isi (by rfl) Bb.isinstance (by decide +kernel) (pa_cons (pv 2) (pa_cons (pe_bltn (v := .ty "tuple") (by rfl) Bb.tuple (by decide +kernel) rfl) pa_nil))))) (pw_or1 (pt_not (pt_chain op_le op_le pe_int (pe_callB (id := "len") call_len_seq (by rfl) Bb.len (by decide +kernel) (pa_cons (pv 2) pa_nil)) (pe_glob (v := .int 64) (by rfl) mSta ⟨_, rfl⟩)))))) (pss_one (ps_ret pe_bl)) pss_nil)
      (pss_one (ps_ret (pe_callB (id := "all") (cr_all rfl) (by rfl) Bb.all (by decide +kernel) (pa_cons (pe_lc (own := [("row", 3)]) (g := gName 3) (tt := tYes) rfl sIsPolS.nd (pi_tup (pv 2)) (blkOk_by (N := sIsPolN) (sc := (defScope sIsPol)) (by decide +kernel)) (fun _ _ _ _ _ => pg_name (i := 3) sIsPolS.nd rfl (Or.inl rfl)) (fun _ _ _ _ _ => pts_nil) (fun _ _ _ _ _ => (pe_def D_is_row (hr.mono (by decide)) (by rfl) (pa_cons (pv 3) (pa_cons (pv 1) (pa_cons (pe_callB (id := "len") (k_len (K := K) rfl) (by rfl) Bb.len (by decide +kernel) (pa_cons (pv 2) pa_nil)) pa_nil)))))) pa_nil))))))), ?_⟩
    rw [show L2.start sIsPolN [V.ref a] = [some (.ref a), none, none, none] from rfl]
    walk_at "rd"
    refine isi_tup ea ?_
    walk_at "rd"
    refine ⟨_, .inr (sqT ea), ?_⟩
    walk_at "rd"
    refine ⟨_, sqT ea, ?_⟩
    walk_at "rd"
    refine ⟨_, _, _, rfl, by omega, by omega, ?_⟩
    walk_at "rd"
    refine ⟨_, sqT ea, rfl, ?_⟩
    walk_at "rd"
    refine isi_tup eb ?_
    walk_at "rd"
    refine ⟨_, .inr (sqT eb), ?_⟩
    rw [hl]
    rw [decide_eq_true (show (1 : Int) ≤ (p.rows.length : Int) by omega)]
    walk_at "rd"
    rw [decide_eq_true (show (p.rows.length : Int) ≤ 64 by omega)]
    walk_at "rd"
    refine tlc rfl ?_
    walk_at "rd"
    refine ⟨⟨_, sqT eb⟩, ?_⟩
    refine lc_fr (walk_tup (K := K) (a := b) (xs := rs)) F0 (fun D i acc H' => acc = (List.replicate i true).map V.bl) (fun _ _ _ _ fr _ => fr.seqT eb) (fun _ _ => rfl) ?_ ?_
    · rintro D i y H1 H2 acc hD hi el fr rfl e ⟨rfl, hy⟩
      obtain ⟨kk, hk, tk⟩ := tr.getV hy
      obtain ⟨r, hr', rfl⟩ : ∃ r, p.rows[i]? = some r ∧ kk = rowK r := by
        rw [List.getElem?_map] at hk
        cases e : p.rows[i]? with
        | none => rw [e] at hk; cases hk
        | some y => rw [e] at hk; exact ⟨y, rfl, (Option.some.inj hk).symm⟩
      walk_at "rd"
      refine ⟨_, .inr (fr.seqT eb), ?_⟩
      walk_at "rd"
      rw [hl]
      refine ⟨y, r, _, _, rfl, tk.up fr.tk, ok.r r (List.mem_of_getElem? hr'), fun H3 f3 => ?_⟩
      refine LcQ.mk hD (f3.same _ _ e) el ?_ (fr.trans f3) ?_
      · have h1 : i < rs.length := hi
        exact Nat.lt_of_lt_of_le (Nat.lt_of_lt_of_le h1 (by rw [hl]; exact o4)) (by decide)
      · rw [List.replicate_succ', List.map_append]; rfl
    · rintro D acc H1 hD el fr rfl e
      refine ⟨D, _, rfl, sqL e, ?_⟩
      rw [show (List.replicate rs.length true).all id = true by simp]
      exact k _ fr
theorem dev_inv {H : Hp} {v : V} {d : Dev} (h : TN H v (devK d)) : ∃ a ps, v = .ref a ∧ H a = some (.tup (.str (modeS d.mode) :: ps)) ∧ TNs H ps (d.pols.map polK) := by
  obtain ⟨a, xs, rfl, e, t⟩ := h.tup_inv
  cases t with | cons t1 t =>
  cases t1
  exact ⟨a, _, rfl, e, t⟩
abbrev sIsDev : Stmt := (top 28)
abbrev sIsDevN : List Str := ["value", "policy"]
theorem sIsDevS : FnScope sIsDevN ["value"] (defScope sIsDev) := ⟨rfl, rfl, rfl, by decide +kernel, rfl, by decide +kernel, by decide +kernel⟩
def spIsDev : Sp := fun vs H Q _ => ∃ (v : V) (d : Dev), vs = [v] ∧ TN H v (devK d) ∧ DevOk d ∧ ∀ H', Fr F0 H H' → Q (.bl true) H'
theorem ok_is_device {f : Addr} {fd : FuncData} (F : Fun K "is_device" "is_device" sIsDev f fd) (Bb : Bi mg) (Cc : Cn K mg) (D_is_policy : Def P w K mg base "is_policy" ["value"] 4 spIsPol) :
    FnOk P w K mg base CX0 5 f fd ["value"] spIsDev := by
  obtain ⟨al, mLev, hLev⟩ := Cc.levels
  refine F.ok sIsDevS (fun vs H Q E h => ?_) (fun cdv A outer s H vs Q E hr h => ?_)
  · obtain ⟨v, p, rfl, _⟩ := h
    rfl
  · obtain ⟨v, d, rfl, t, ok, k⟩ := h
    obtain ⟨a, ps, rfl, ea, tp⟩ := dev_inv t
    have hl : ps.length = d.pols.length := by rw [tp.length, List.length_map]
    refine ⟨_, (pss_cons (ps_if (PW.pt (pw_or (pt_not (pt_val (pe_callB (id := "isinstance") call_isi (by rfl) Bb.isinstance (by decide +kernel) (pa_cons (pv 0) (pa_cons (pe_bltn (v := .ty "tuple") (by rfl) Bb.tuple (by decide +kernel) rfl) pa_nil))))) (pw_or (pt_cmpR op_notIn_seq (pe_callB (id := "len") call_len_seq (by rfl) Bb.len (by decide +kernel) (pa_cons (pv 0) pa_nil)) (pe_tup (pa_cons pe_int (pa_cons pe_int pa_nil))) rfl) (pw_or1 (pt_not (pt_val (pe_callB (id := "isinstance") call_isi (by rfl) Bb.isinstance (by decide +kernel) (pa_cons (pe_ix ix_tup (pv 0) pe_int (fun _ _ => rfl)) (pa_cons (pe_bltn (v := .ty "str") (by rfl) Bb.str (by decide +kernel) rfl) pa_nil))))))))) (pss_one (ps_ret pe_bl)) pss_nil)
      (pss_cons (ps_if (PW.pt (pw_or (PW.pt (pw_and (pt_cmpR op_eq (pe_callB (id := "len") call_len_seq (by rfl) Bb.len (by decide +kernel) (pa_cons (pv 0) pa_nil)) pe_int (nomark _)) (pw_and1 (pt_cmpR op_ne (pe_ix ix_tup (pv 0) pe_int (fun _ _ => rfl)) pe_str (nomark _))))) (pw_or1 (PW.pt (pw_and (pt_cmpR op_eq (pe_callB (id := "len") call_len_seq (by rfl) Bb.len (by decide +kernel) (pa_cons (pv 0) pa_nil)) pe_int (nomark _)) (pw_and1 (pt_cmpR op_notIn_seq (pe_ix ix_tup (pv 0) pe_int (fun _ _ => rfl)) (pe_glob (v := .ref al) (by rfl) mLev rfl) rfl))))))) (pss_one (ps_ret pe_bl)) pss_nil)
      (pss_one (ps_ret (pe_callB (id := "all") (cr_all rfl) (by rfl) Bb.all (by decide +kernel) (pa_cons (pe_lc (own := [("policy", 1)]) (g := gName 1) (tt := tYes) rfl sIsDevS.nd (pi_tup (pe_slice sl_tup (pv 0) (po_some pe_int) po_none)) (blkOk_by (N := sIsDevN) (sc := (defScope sIsDev)) (by decide +kernel)) (fun _ _ _ _ _ => pg_name (i := 1) sIsDevS.nd rfl (Or.inl rfl)) (fun _ _ _ _ _ => pts_nil) (fun _ _ _ _ _ => (pe_def D_is_policy (hr.mono (by decide)) (by rfl) (pa_cons (pv 1) pa_nil)))) pa_nil)))))), ?_⟩
    rw [show L2.start sIsDevN [V.ref a] = [some (.ref a), none] from rfl]
    -- what stands at the end of both ways
    have last : ∀ (H1 : Hp) (q : Addr), Fr F0 H H1 → H1 q = some (.tup ps) → LcAll (Itt K q) 1 (tCall spIsPol [] E0 (tCons (tVar 1) tNil)) [some (.ref a), none] (fun x H1 => rAll K [x] H1 Q) H1 := by
      intro H1 q f1 eq
      refine lc_fr (walk_tup (K := K) (a := q) (xs := ps)) F0 (fun D i acc H' => acc = (List.replicate i true).map V.bl) (fun _ _ _ _ fr _ => fr.seqT eq) (fun _ _ => rfl) ?_ ?_
      · rintro D i y H2 H3 acc hD hi el fr rfl e ⟨rfl, hy⟩
        obtain ⟨kk, hk, tk⟩ := tp.getV hy
        obtain ⟨p, hp, rfl⟩ : ∃ p, d.pols[i]? = some p ∧ kk = polK p := by
          rw [List.getElem?_map] at hk
          cases e : d.pols[i]? with
          | none => rw [e] at hk; cases hk
          | some y => rw [e] at hk; exact ⟨y, rfl, (Option.some.inj hk).symm⟩
        walk_at "rd"
        refine ⟨y, p, rfl, tk.up (f1.trans fr).tk, ok.p p (List.mem_of_getElem? hp), fun H4 f4 => ?_⟩
        refine LcQ.mk hD (f4.same _ _ e) el ?_ (fr.trans f4) ?_
        · have h1 : i < ps.length := hi
          have h2 := ok.two
          exact Nat.lt_of_lt_of_le (Nat.lt_of_lt_of_le h1 (by rw [hl]; exact h2)) (by decide)
        · rw [List.replicate_succ', List.map_append]; rfl
      · rintro D acc H2 hD el fr rfl e
        refine ⟨D, _, rfl, sqL e, ?_⟩
        rw [show (List.replicate ps.length true).all id = true by simp]
        exact k _ (f1.trans fr)
    rcases ok.m with ⟨m0, l1⟩ | ⟨m1, m3, l2⟩
    · rw [l1] at hl
      obtain ⟨p0, rfl⟩ : ∃ p0, ps = [p0] := by
        match ps, hl with
        | [p0], _ => exact ⟨p0, rfl⟩
      rw [m0] at ea
      have ea' : H a = some (.tup [.str "cache", p0]) := ea
      walk_at "rd"
      refine isi_tup ea' ?_
      walk_at "rd"
      refine ⟨_, .inr (sqT ea'), ?_⟩
      walk_at "rd"
      refine ⟨by decide, fun p hp => ?_⟩
      have f1 : Fr F0 H (upd H p (.tup [.int 2, .int 3])) := Fr.new _ hp
      refine ⟨p, _, rfl, .inr (sqT upd_same), rfl, rfl, ?_⟩
      walk_at "rd"
      rw [show inV (V.int 2) [V.int 2, V.int 3] = true from rfl]
      walk_at "rd"
      refine ⟨_, f1.seqT ea', ?_⟩
      walk_at "rd"
      refine isi_str ?_
      walk_at "rd"
      refine ⟨_, .inr (f1.seqT ea'), ?_⟩
      walk_at "rd"
      refine ⟨_, f1.seqT ea', ?_⟩
      walk_at "rd"
      refine ⟨_, .inr (f1.seqT ea'), ?_⟩
      walk_at "rd"
      refine tlc rfl ?_
      walk_at "rd"
      refine ⟨_, f1.seqT ea', fun z => absurd z.1 (by show ¬ (1 : Nat) = 0; decide), fun q hq => ?_⟩
      rw [show cutV [V.str "cache", p0] (some 1) none = [p0] from rfl]
      walk_at "rd"
      exact ⟨⟨_, sqT upd_same⟩, last _ q (f1.trans (Fr.new _ hq)) upd_same⟩
    · rw [l2] at hl
      obtain ⟨p0, p1, rfl⟩ : ∃ p0 p1, ps = [p0, p1] := by
        match ps, hl with
        | [p0, p1], _ => exact ⟨p0, p1, rfl⟩
      have hm : inV (V.str (modeS d.mode)) [V.str "plain", V.str "inclusive", V.str "victim"] = true := by
        rcases (show d.mode = 1 ∨ d.mode = 2 ∨ d.mode = 3 by omega) with e | e | e <;> rw [e] <;> rfl
      walk_at "rd"
      refine isi_tup ea ?_
      walk_at "rd"
      refine ⟨_, .inr (sqT ea), ?_⟩
      walk_at "rd"
      refine ⟨by decide, fun p hp => ?_⟩
      have f1 : Fr F0 H (upd H p (.tup [.int 2, .int 3])) := Fr.new _ hp
      refine ⟨p, _, rfl, .inr (sqT upd_same), rfl, rfl, ?_⟩
      walk_at "rd"
      rw [show inV (V.int 3) [V.int 2, V.int 3] = true from rfl]
      walk_at "rd"
      refine ⟨_, f1.seqT ea, ?_⟩
      walk_at "rd"
      refine isi_str ?_
      walk_at "rd"
      refine ⟨_, .inr (f1.seqT ea), ?_⟩
      walk_at "rd"
      refine ⟨_, .inr (f1.seqT ea), ?_⟩
      walk_at "rd"
      refine ⟨_, f1.seqT ea, ?_⟩
      walk_at "rd"
      refine ⟨al, _, rfl, .inr (hLev _), rfl, rfl, ?_⟩
      rw [hm]
      walk_at "rd"
      refine tlc rfl ?_
      walk_at "rd"
      refine ⟨_, f1.seqT ea, fun z => absurd z.1 (by show ¬ (1 : Nat) = 0; decide), fun q hq => ?_⟩
      rw [show cutV [V.str (modeS d.mode), p0, p1] (some 1) none = [p0, p1] from rfl]
      walk_at "rd"
      exact ⟨⟨_, sqT upd_same⟩, last _ q (f1.trans (Fr.new _ hq)) upd_same⟩
abbrev sChkDev : Stmt := (top 29)
abbrev sChkDevN : List Str := ["device"]
theorem sChkDevS : FnScope sChkDevN ["device"] (defScope sChkDev) := ⟨rfl, rfl, rfl, by decide +kernel, rfl, by decide +kernel, by decide +kernel⟩
def spChkDev : Sp := fun vs H Q _ => ∃ (v : V) (d : Dev), vs = [v] ∧ TN H v (devK d) ∧ DevOk d ∧ ∀ H', Fr F0 H H' → Q .non H'
theorem ok_check_device {f : Addr} {fd : FuncData} (F : Fun K "check_device" "check_device" sChkDev f fd) (D_is_device : Def P w K mg base "is_device" ["value"] 5 spIsDev) : FnOk P w K mg base CX0 6 f fd ["device"] spChkDev := by
  refine F.ok sChkDevS (fun vs H Q E h => ?_) (fun cdv A outer s H vs Q E hr h => ?_)
  · obtain ⟨x, d, rfl, _⟩ := h
    rfl
  · obtain ⟨x, d, rfl, t, ok, k⟩ := h
    refine ⟨_, (pss_one (ps_if (pt_not (pt_val (pe_def D_is_device (hr.mono (by decide)) (by rfl) (pa_cons (pv 0) pa_nil)))) (pss_one ps_never) pss_nil)), ?_⟩
    rw [show L2.start sChkDevN [x] = [some x] from rfl]
    walk_at "rd"
    refine ⟨x, d, rfl, t, ok, fun H1 f1 => ?_⟩
    walk_at "rd"
    exact k _ f1
end
end K53
end
section
set_option Elab.async false
set_option linter.all false
set_option maxRecDepth 100000
set_option maxHeartbeats 4000000
set_option pp.maxSteps 2500
namespace K53
open PySem PySem.Spec PyProof.Rows L2
local macro_rules | `(tactic| walk_at "rd") => `(tactic| (
  try dsimp only [tSeq, tIfS, tOr, tAnd, tNot, tNotV, tAndV, tOrV, tB, tCB, tCons, tNil, tVar, tC, tTest, tChain, tRet, tRetN, tNext, tOp, rI0, rI, tAsg, gName, tDrop, tIf, tTup, tLst, tFld, tUn, rU, tCall, tMeth, tMake, tProp, iStr, iTup, iList, iRng1, iRng2, iEnumT,
    tPar, tPar3, gTup, gCons, gNil, gSub, gUnl, rSetL, rIxL, rIxT, rAppend, rExtend, tBM, tBM0, sFld, sFldAug, tSl, tPart, tNoPart, rSlL, rSlA, rSlT, tAug, ipI, t2I, rEq, rNe, scal, List.append_nil, List.cons_append, List.nil_append, List.getElem?_cons_zero, List.getElem?_cons_succ, List.set_cons_zero, List.set_cons_succ,
    List.map_cons, List.map_nil]
  try simp only [Option.some.injEq, exists_eq_left', exists_eq_left, exists_eq_right, exists_eq', V.int.injEq, V.str.injEq, V.bl.injEq, V.ref.injEq, List.cons.injEq, and_true, true_and, and_assoc, exists_and_left, exists_const, Bool.not_true, Bool.not_false, Bool.false_eq_true, if_true, if_false, ite_true, ite_false, decide_true, decide_false, reduceCtorEq, false_and, false_or, or_false, List.cons_ne_nil, exists_false, List.length_cons, List.length_nil, Nat.reduceAdd, Nat.zero_add, Int.cast_ofNat_Int, Int.reduceEq, Int.reduceLT, Int.reduceLE, Int.reduceAdd, Int.reduceSub, at0, at1, at2, eq_self, List.reverse_cons, List.reverse_nil]))

theorem ixN_nat {n j : Nat} (h : j < n) : ixN n (j : Int) = some j := by
  unfold ixN
  rw [if_pos (by omega), if_pos (by omega)]
  simp
theorem mapGet {α β : Type} {l : List α} {f : α → β} {i : Nat} {y : β} (h : (l.map f)[i]? = some y) : ∃ x, l[i]? = some x ∧ y = f x := by
  rw [List.getElem?_map] at h
  cases e : l[i]? with
  | none => rw [e] at h; cases h
  | some x => rw [e] at h; exact ⟨x, rfl, (Option.some.inj h).symm⟩
theorem mapGet' {α β : Type} {l : List α} (f : α → β) {i : Nat} {x : α} (h : l[i]? = some x) : (l.map f)[i]? = some (f x) := by rw [List.getElem?_map, h]; rfl
theorem num_set (l : List Nat) (i s : Nat) : (numV l).set i (.int (s : Int)) = numV (l.set i s) := by simp [numV, List.map_set]
theorem ov_set (l : List (Option Nm)) (i : Nat) (o : Option Nm) : (l.map ov).set i (ov o) = (l.set i o).map ov := by simp [List.map_set]

/-! ### a box -/
def bxF (d : Dev) (pt ls lr : Addr) : List (Str × V) := [("mode", .str (modeS d.mode)), ("policies", .ref pt), ("stages", .ref ls), ("rows", .ref lr)]
theorem bxF_mode (d : Dev) (pt ls lr : Addr) : (bxF d pt ls lr).lookup ("mode" : Str) = some (.str (modeS d.mode)) := by kernel_rfl
theorem bxF_pols (d : Dev) (pt ls lr : Addr) : (bxF d pt ls lr).lookup ("policies" : Str) = some (.ref pt) := by kernel_rfl
theorem bxF_stages (d : Dev) (pt ls lr : Addr) : (bxF d pt ls lr).lookup ("stages" : Str) = some (.ref ls) := by kernel_rfl
theorem bxF_rows (d : Dev) (pt ls lr : Addr) : (bxF d pt ls lr).lookup ("rows" : Str) = some (.ref lr) := by kernel_rfl
structure BoxAt (B : Addr) (H : Hp) (p : Addr) (d : Dev) (b : Bx Nm) (ls lr : Addr) (ll : List Addr) : Prop where
  ob : ∃ dx pt, H p = some (.ins B dx (bxF d pt ls lr)) ∧ TN H (.ref pt) (.tup (d.pols.map polK))
  st : H ls = some (.lst (numV b.st))
  rw : H lr = some (.lst (ll.map .ref))
  ln : ll.length = b.rw.length
  li : ∀ (i : Nat) (a : Addr) (r : List (Option Nm)), ll[i]? = some a → b.rw[i]? = some r → H a = some (.lst (r.map ov))
  nd : ll.Nodup
  n1 : ls ∉ ll
  n2 : lr ∉ ll
  n3 : ls ≠ lr
  ok : BxOk d b
  dok : DevOk d
/-- what ask may change -/
def FB (ls : Addr) (ll : List Addr) : Addr → Prop := fun a => a = ls ∨ a ∈ ll
section
variable {B : Addr} {H H' : Hp} {p : Addr} {d : Dev} {b : Bx Nm} {ls lr : Addr} {ll : List Addr}
theorem BoxAt.up {F : Addr → Prop} (x : BoxAt B H p d b ls lr ll) (f : Fr F H H') (h1 : ¬ F p) (h2 : ¬ F ls) (h3 : ¬ F lr) (h4 : ∀ a ∈ ll, ¬ F a) : BoxAt B H' p d b ls lr ll := by
  obtain ⟨⟨dx, pt, e1, e2⟩, st, rw, ln, li, nd, n1, n2, n3, ok, dok⟩ := x
  exact ⟨⟨dx, pt, f.keep _ _ e1 h1, e2.up f.tk⟩, f.keep _ _ st h2, f.keep _ _ rw h3, ln, fun i a r ha hr => f.keep _ _ (li i a r ha hr) (h4 a (List.mem_of_getElem? ha)), nd, n1, n2, n3, ok, dok⟩
theorem BoxAt.up0 (x : BoxAt B H p d b ls lr ll) (f : Fr F0 H H') : BoxAt B H' p d b ls lr ll := x.up f id id id fun _ _ => id
theorem BoxAt.pne (x : BoxAt B H p d b ls lr ll) : p ≠ ls ∧ p ≠ lr ∧ p ∉ ll := by
  obtain ⟨⟨dx, pt, e1, e2⟩, st, rw, ln, li, nd, n1, n2, n3, ok, dok⟩ := x
  refine ⟨ne_of e1 st (fun z => nomatch z), ne_of e1 rw (fun z => nomatch z), fun hm => ?_⟩
  obtain ⟨i, hi⟩ := List.mem_iff_getElem?.mp hm
  have hl : i < b.rw.length := by rw [← ln]; exact (List.getElem?_eq_some_iff.mp hi).1
  have := li i p _ hi (List.getElem?_eq_getElem hl)
  rw [e1] at this
  cases this
/-- a level's line list -/
theorem BoxAt.row (x : BoxAt B H p d b ls lr ll) {l : Nat} (hl : l < d.pols.length) : ∃ a r, ll[l]? = some a ∧ b.rw[l]? = some r ∧ H a = some (.lst (r.map ov)) := by
  have h1 : l < b.rw.length := by rw [x.ok.rl]; exact hl
  have h2 : l < ll.length := by rw [x.ln]; exact h1
  exact ⟨_, _, List.getElem?_eq_getElem h2, List.getElem?_eq_getElem h1, x.li _ _ _ (List.getElem?_eq_getElem h2) (List.getElem?_eq_getElem h1)⟩
/-- the states change -/
theorem BoxAt.setS (x : BoxAt B H p d b ls lr ll) {st : List Nat} (hok : BxOk d ⟨st, b.rw⟩) : BoxAt B (upd H ls (.lst (numV st))) p d ⟨st, b.rw⟩ ls lr ll := by
  obtain ⟨p1, p2, p3⟩ := x.pne
  obtain ⟨⟨dx, pt, e1, e2⟩, s, rw, ln, li, nd, n1, n2, n3, ok, dok⟩ := x
  have f : Fr (· = ls) H (upd H ls (.lst (numV st))) := Fr.setL _ s rfl
  refine ⟨⟨dx, pt, f.keep _ _ e1 p1, e2.up f.tk⟩, upd_same, f.keep _ _ rw (Ne.symm n3), ln, fun i a r ha hr => f.keep _ _ (li i a r ha hr) fun z => n1 (by rw [← z]; exact List.mem_of_getElem? ha), nd, n1, n2, n3, hok, dok⟩
/-- a level's lines change -/
theorem BoxAt.setR (x : BoxAt B H p d b ls lr ll) {l : Nat} {a : Addr} {r : List (Option Nm)} (ha : ll[l]? = some a) (hok : BxOk d ⟨b.st, b.rw.set l r⟩) : BoxAt B (upd H a (.lst (r.map ov))) p d ⟨b.st, b.rw.set l r⟩ ls lr ll := by
  obtain ⟨p1, p2, p3⟩ := x.pne
  obtain ⟨⟨dx, pt, e1, e2⟩, s, rw, ln, li, nd, n1, n2, n3, ok, dok⟩ := x
  have hm : a ∈ ll := List.mem_of_getElem? ha
  have hlt : l < b.rw.length := by rw [← ln]; exact (List.getElem?_eq_some_iff.mp ha).1
  have f : Fr (· = a) H (upd H a (.lst (r.map ov))) := Fr.setL _ (li l a _ ha (List.getElem?_eq_getElem hlt)) rfl
  refine ⟨⟨dx, pt, f.keep _ _ e1 (fun z => p3 (z ▸ hm)), e2.up f.tk⟩, f.keep _ _ s (fun z => n1 (z ▸ hm)), f.keep _ _ rw (fun z => n2 (z ▸ hm)), by rw [ln]; simp, fun i c q hc hq => ?_, nd, n1, n2, n3, hok, dok⟩
  rcases set_get hq with ⟨rfl, rfl, _⟩ | ⟨hne, hq'⟩
  · rw [ha] at hc
    cases hc
    exact upd_same
  · have hca : c ≠ a := fun z => hne ((List.getElem?_inj (List.getElem?_eq_some_iff.mp ha).1 nd).mp (by rw [ha, hc, z]))
    exact f.keep _ _ (li i c q hc hq') hca
end
end K53
end
section
set_option Elab.async false
set_option linter.all false
set_option maxRecDepth 100000
set_option maxHeartbeats 4000000
set_option pp.maxSteps 2500
namespace K53
open PySem PySem.Spec PyProof.Rows L2
local macro_rules | `(tactic| walk_at "rd") => `(tactic| (
  try dsimp only [tSeq, tIfS, tOr, tAnd, tNot, tNotV, tAndV, tOrV, tB, tCB, tCons, tNil, tVar, tC, tTest, tChain, tRet, tRetN, tNext, tOp, rI0, rI, tAsg, gName, tDrop, tIf, tTup, tLst, tFld, tUn, rU, tCall, tMeth, tMake, tProp, iStr, iTup, iList, iRng1, iRng2, iEnumT,
    tPar, tPar3, gTup, gCons, gNil, gSub, gUnl, rSetL, rIxL, rIxT, rAppend, rExtend, tBM, tBM0, sFld, sFldAug, tSl, tPart, tNoPart, rSlL, rSlA, rSlT, tAug, ipI, t2I, rEq, rNe, scal, List.append_nil, List.cons_append, List.nil_append, List.getElem?_cons_zero, List.getElem?_cons_succ, List.set_cons_zero, List.set_cons_succ,
    List.map_cons, List.map_nil]
  try simp only [Option.some.injEq, exists_eq_left', exists_eq_left, exists_eq_right, exists_eq', V.int.injEq, V.str.injEq, V.bl.injEq, V.ref.injEq, List.cons.injEq, and_true, true_and, and_assoc, exists_and_left, exists_const, Bool.not_true, Bool.not_false, Bool.false_eq_true, if_true, if_false, ite_true, ite_false, decide_true, decide_false, reduceCtorEq, false_and, false_or, or_false, List.cons_ne_nil, exists_false, List.length_cons, List.length_nil, Nat.reduceAdd, Nat.zero_add, Int.cast_ofNat_Int, Int.reduceEq, Int.reduceLT, Int.reduceLE, Int.reduceAdd, Int.reduceSub, at0, at1, at2, eq_self, List.reverse_cons, List.reverse_nil]))

structure BK (K : PySem.W.Frag) (B : Addr) : Prop where
  c : Cls K B
  mode : NoAttr K B "mode"
  policies : NoAttr K B "policies"
  stages : NoAttr K B "stages"
  rows : NoAttr K B "rows"
theorem eqV_ov (a b : Option Nm) : eqV (ov a) (ov b) = decide (a = b) := by
  cases a with
  | none => cases b <;> simp [ov, eqV]
  | some x => cases b with
    | none => simp [ov, eqV]
    | some y =>
      show (x == y) = decide (some x = some y)
      by_cases e : x = y
      · subst e; simp
      · simp [e]
theorem flat_ov (a : Option Nm) : flatV (ov a) = true := by cases a <;> rfl
theorem flats_ov (l : List (Option Nm)) : (l.map ov).all flatV = true := by simp [flat_ov]
theorem inV_ov (a : Option Nm) (l : List (Option Nm)) : inV (ov a) (l.map ov) = decide (a ∈ l) := by
  unfold inV
  rw [List.any_map]
  induction l with
  | nil => simp
  | cons x l ih =>
    rw [List.any_cons, ih, Function.comp, eqV_ov]
    by_cases e : x = a
    · subst e; simp
    · have : a ≠ x := fun z => e z.symm
      simp [e, this]
section
variable {P : Program} {w : World} {K : PySem.W.Frag} {mg : Str → Option Value} {base : Heap} {B : Addr}
theorem rIndex_ov {H : Hp} {a : Addr} {r : List (Option Nm)} {x : Option Nm} {Q : VK} (h : H a = some (.lst (r.map ov))) (hx : x ∈ r) (q : Q (.int ((r.idxOf x : Nat) : Int)) H) : rIndex K (.ref a) [ov x] H Q := by
  have h1 := List.idxOf_lt_length_of_mem hx
  refine ⟨a, r.map ov, ov x, r.idxOf x, ov x, rfl, rfl, sqL h, flat_ov x, flats_ov r, ?_, by rw [eqV_ov]; simp, ?_, q⟩
  · rw [List.getElem?_map, List.getElem?_eq_getElem h1, List.getElem_idxOf]; rfl
  · intro m z' hm hz
    obtain ⟨y, hy, rfl⟩ := mapGet hz
    rw [eqV_ov]
    refine decide_eq_false fun e => ?_
    subst e
    have hm' : m < r.findIdx (· == y) := hm
    have h2 := List.not_of_lt_findIdx hm'
    have h3 := (List.getElem?_eq_some_iff.mp hy).2
    rw [h3] at h2
    simp at h2

theorem bxF_told (d : Dev) (pt ls lr : Addr) : (bxF d pt ls lr).lookup ("told" : Str) = none := by kernel_rfl
theorem bxF_holds (d : Dev) (pt ls lr : Addr) : (bxF d pt ls lr).lookup ("holds" : Str) = none := by kernel_rfl
theorem bxF_touch (d : Dev) (pt ls lr : Addr) : (bxF d pt ls lr).lookup ("touch" : Str) = none := by kernel_rfl
theorem bxF_fill (d : Dev) (pt ls lr : Addr) : (bxF d pt ls lr).lookup ("fill" : Str) = none := by kernel_rfl
theorem bxF_ask (d : Dev) (pt ls lr : Addr) : (bxF d pt ls lr).lookup ("ask" : Str) = none := by kernel_rfl
theorem bxF_go_down (d : Dev) (pt ls lr : Addr) : (bxF d pt ls lr).lookup ("go_down" : Str) = none := by kernel_rfl
theorem bxF_moment (d : Dev) (pt ls lr : Addr) : (bxF d pt ls lr).lookup ("moment" : Str) = none := by kernel_rfl
local macro_rules | `(tactic| walk_at "fd") => `(tactic| (
  repeat (first
    | (apply And.intro
       · first
         | assumption
         | exact sqT (by assumption)
         | exact sqL (by assumption)
         | exact .inl (sqL (by assumption))
         | exact .inr (sqT (by assumption))
         | exact atI_nat (by assumption)
         | exact at0
         | exact at1
         | exact at2
         | exact bxF_rows _ _ _ _
         | exact bxF_stages _ _ _ _
         | exact bxF_pols _ _ _ _
         | exact bxF_mode _ _ _ _
         | exact bxF_told _ _ _ _
         | exact bxF_holds _ _ _ _
         | exact bxF_touch _ _ _ _
         | exact bxF_fill _ _ _ _
         | exact bxF_ask _ _ _ _
         | exact bxF_go_down _ _ _ _
         | exact bxF_moment _ _ _ _
         | exact BK.c (by assumption)
         | exact BK.rows (by assumption)
         | exact BK.stages (by assumption)
         | exact BK.policies (by assumption)
         | exact BK.mode (by assumption)
         | rfl)
    | with_reducible apply Exists.intro)))

theorem tyL {H : Hp} {a : Addr} {xs : List V} (h : H a = some (.lst xs)) : tyV K "list" (.ref a) H := .inl ⟨rfl, _, sqL h⟩
/-! ### Box -/
abbrev sHolds : Stmt := (inClass (top 20) 1)
abbrev sHoldsN : List Str := ["self", "name", "lines"]
theorem sHoldsS : FnScope sHoldsN ["self", "name"] (defScope sHolds) := ⟨rfl, rfl, rfl, by decide +kernel, rfl, by decide +kernel, by decide +kernel⟩
def spHolds (B : Addr) : Sp := fun vs H Q _ => ∃ (p : Addr) (x : Nm) (d : Dev) (b : Bx Nm) (ls lr : Addr) (ll : List Addr), vs = [.ref p, .str x] ∧ BoxAt B H p d b ls lr ll ∧ ∀ H', Fr F0 H H' → Q (.bl (holds b x)) H'
theorem ok_holds {f : Addr} {fd : FuncData} (F : Fun K "holds" "Box.holds" sHolds f fd) (Bb : Bi mg) (bk : BK K B) : FnOk P w K mg base CX0 1 f fd ["self", "name"] (spHolds B) := by
  refine F.ok sHoldsS (fun vs H Q E h => ?_) (fun cdv A outer s H vs Q E hr h => ?_)
  · obtain ⟨p, x, d, b, ls, lr, ll, rfl, _⟩ := h
    rfl
  · obtain ⟨p, x, d, b, ls, lr, ll, rfl, ba, k⟩ := h
    obtain ⟨dx, pt, ob, tp⟩ := ba.ob
    refine ⟨_, (pss_one (ps_ret (pe_callB (id := "any") (cr_any rfl) (by rfl) Bb.any (by decide +kernel) (pa_cons (pe_lc (own := [("lines", 2)]) (g := gName 2) (tt := tYes) rfl sHoldsS.nd (pi_list (pe_fld (pv 0) rfl)) (blkOk_by (N := sHoldsN) (sc := (defScope sHolds)) (by decide +kernel)) (fun _ _ _ _ _ => pg_name (i := 2) sHoldsS.nd rfl (Or.inl rfl)) (fun _ _ _ _ _ => pts_nil) (fun _ _ _ _ _ => (pe_cmpR (k_in (K := K) rfl) (pv 1) (pv 2) rfl))) pa_nil)))), ?_⟩
    rw [show L2.start sHoldsN [.ref p, .str x] = [some (.ref p), some (.str x), none] from rfl]
    walk_at "rd"
    refine tlc rfl ?_
    walk_at "rd"
    refine ⟨_, _, _, ob, bk.c, bk.rows, _, bxF_rows d pt ls lr, ?_⟩
    walk_at "rd"
    refine ⟨⟨_, sqL ba.rw⟩, ?_⟩
    refine lc_fr (walk_list (K := K) (a := lr) (xs := ll.map V.ref)) F0 (fun D i acc H' => acc = ((b.rw.take i).map fun r => r.contains (some x)).map V.bl) (fun _ _ _ _ fr _ => sqL (fr.keep _ _ ba.rw id)) (fun _ _ => rfl) ?_ ?_
    · rintro D i y H1 H2 acc hD hi el fr rfl e ⟨rfl, hy⟩
      obtain ⟨a, ha, rfl⟩ := mapGet hy
      have hi' : i < b.rw.length := by rw [← ba.ln]; simpa using hi
      have hr' := List.getElem?_eq_getElem hi'
      walk_at "rd"
      refine ⟨a, _, rfl, .inl (sqL (fr.keep _ _ (ba.li i a _ ha hr') id)), rfl, flats_ov _, ?_⟩
      refine LcQ.mk hD e el ?_ fr ?_
      · have := ba.ok.rl
        have := ba.dok.two
        exact Nat.lt_of_lt_of_le (show i < 3 by omega) (by decide)
      · rw [List.take_succ, hr', show V.str x = ov (some x) from rfl, inV_ov, List.map_append, List.map_append]
        simp
    · rintro D acc H1 hD el fr rfl e
      refine ⟨D, _, rfl, sqL e, ?_⟩
      have : ((b.rw.take (ll.map V.ref).length).map fun r => r.contains (some x)).any id = holds b x := by
        rw [List.length_map, ba.ln, List.take_length, List.any_map]; rfl
      rw [this]
      exact k _ fr
abbrev sTold : Stmt := (inClass (top 20) 2)
abbrev sToldN : List Str := ["self", "level"]
theorem sToldS : FnScope sToldN ["self", "level"] (defScope sTold) := ⟨rfl, rfl, rfl, by decide +kernel, rfl, by decide +kernel, by decide +kernel⟩
def spTold (B : Addr) : Sp := fun vs H Q _ => ∃ (p : Addr) (l : Nat) (d : Dev) (b : Bx Nm) (ls lr : Addr) (ll : List Addr), vs = [.ref p, .int (l : Int)] ∧ BoxAt B H p d b ls lr ll ∧ l < d.pols.length ∧ ∀ v, TN H v (rowK (told d b l)) → Q v H
theorem ok_told {f : Addr} {fd : FuncData} (F : Fun K "told" "Box.told" sTold f fd) (Bb : Bi mg) (bk : BK K B) : FnOk P w K mg base CX0 1 f fd ["self", "level"] (spTold B) := by
  refine F.ok sToldS (fun vs H Q E h => ?_) (fun cdv A outer s H vs Q E hr h => ?_)
  · obtain ⟨p, l, d, b, ls, lr, ll, rfl, _⟩ := h
    rfl
  · obtain ⟨p, l, d, b, ls, lr, ll, rfl, ba, hl, k⟩ := h
    obtain ⟨dx, pt, ob, tp⟩ := ba.ob
    obtain ⟨q, s0, rr, r, t⟩ := ba.ok.told ba.dok hl
    obtain ⟨a0, ps, e0, ep, tps⟩ := tp.tup_inv
    cases e0
    obtain ⟨pv, hpv, tpv⟩ := tps.get (mapGet' polK t.hp)
    obtain ⟨a1, a2, rs, rfl, ea1, ea2, trs⟩ := pol_inv tpv
    obtain ⟨rv, hrv, trv⟩ := trs.get (mapGet' rowK t.hrr)
    refine ⟨_, (pss_one (ps_ret (pe_ix ix_tup (pe_ix ix_tup (pe_ix ix_tup (pe_fld (pv 0) rfl) (pv 1) (fun _ _ => rfl)) pe_int (fun _ _ => rfl)) (pe_ix ix_list (pe_fld (pv 0) rfl) (pv 1) (fun _ _ => rfl)) (fun _ _ => rfl)))), ?_⟩
    rw [show L2.start sToldN [.ref p, .int (l : Int)] = [some (.ref p), some (.int (l : Int))] from rfl]
    walk_at "rd"
    refine ⟨_, _, _, ob, bk.c, bk.policies, _, bxF_pols d pt ls lr, ?_⟩
    walk_at "rd"
    exact ⟨_, sqT ep, _, atI_nat hpv, _, rfl, _, sqT ea1, _, at1, _, _, _, ob, bk.c, bk.stages, _, bxF_stages d pt ls lr, _, rfl, _, sqL ba.st, _, atI_nat (mapGet' _ t.hs), _, rfl, _, _, rfl, sqT ea2, _, atI_nat hrv, k _ (t.htold ▸ trv)⟩
abbrev sTouch : Stmt := (inClass (top 20) 3)
abbrev sTouchN : List Str := ["self", "level", "line"]
theorem sTouchS : FnScope sTouchN ["self", "level", "line"] (defScope sTouch) := ⟨rfl, rfl, rfl, by decide +kernel, rfl, by decide +kernel, by decide +kernel⟩
def spTouch (B : Addr) : Sp := fun vs H Q _ => ∃ (p : Addr) (l line : Nat) (d : Dev) (b : Bx Nm) (ls lr : Addr) (ll : List Addr) (r : List (Option Nm)), vs = [.ref p, .int (l : Int), .int (line : Int)] ∧ BoxAt B H p d b ls lr ll ∧ l < d.pols.length ∧ b.rw[l]? = some r ∧ line < r.length ∧
  ∀ H', BoxAt B H' p d (touch d b l line) ls lr ll → Fr (FB ls ll) H H' → Q .non H'
theorem ok_touch {f : Addr} {fd : FuncData} (F : Fun K "touch" "Box.touch" sTouch f fd) (bk : BK K B) (cB : Cls K B) (D_told : MDef P w K mg base B "told" ["self", "level"] 1 (spTold B)) : FnOk P w K mg base CX0 2 f fd ["self", "level", "line"] (spTouch B) := by
  refine F.ok sTouchS (fun vs H Q E h => ?_) (fun cdv A outer s H vs Q E hr h => ?_)
  · obtain ⟨p, l, i, d, b, ls, lr, ll, r, rfl, _⟩ := h
    rfl
  · obtain ⟨p, l, i, d, b, ls, lr, ll, r0, rfl, ba, hl, hr0, hi, k⟩ := h
    obtain ⟨dx, pt, ob, tp⟩ := ba.ob
    obtain ⟨q, s0, rr, r, t⟩ := ba.ok.told ba.dok hl
    have er : r0 = r := by have := t.hr; rw [hr0] at this; exact Option.some.inj this
    subst er
    have hh : i < rr.2.2.length := by rw [t.ok.hl, ← t.hrl]; exact hi
    refine ⟨_, (pss_one (ps_asg (pe_ix ix_tup (pe_ix ix_tup (pe_mdef (pv 0) cB D_told (hr.mono (by decide)) (pa_cons (pv 1) pa_nil)) pe_int (fun _ _ => rfl)) (pv 2) (fun _ _ => rfl)) (pg_sub (pe_fld (pv 0) rfl) (pv 1) set_list))), ?_⟩
    rw [show L2.start sTouchN [.ref p, .int (l : Int), .int (i : Int)] = [some (.ref p), some (.int (l : Int)), some (.int (i : Int))] from rfl]
    walk_at "rd"
    refine ⟨_, _, ob, bxF_told d pt ls lr, p, l, d, b, ls, lr, ll, rfl, ba, hl, fun v tv => ?_⟩
    rw [t.htold] at tv
    obtain ⟨va, vb, rfl, e1, e2⟩ := row_inv tv
    walk_at "rd"
    have hh' : (numV rr.2.2)[i]? = some (.int (rr.2.2[i] : Int)) := mapGet' _ (List.getElem?_eq_getElem hh)
    have e3 := ba.st
    have e4 : ixN (numV b.st).length (l : Int) = some l := ixN_nat (by rw [List.length_map, ba.ok.sl]; exact hl)
    walk_at "fd"
    rw [num_set]
    have ht : touch d b l i = ⟨b.st.set l rr.2.2[i], b.rw⟩ := by unfold touch; rw [t.htold, List.getElem?_eq_getElem hh]; rfl
    have okt := touch_ok ba.dok ba.ok hl hr0 hi
    rw [ht] at okt
    refine k _ ?_ (Fr.setL _ ba.st (.inl rfl))
    rw [ht]
    exact ba.setS okt
abbrev sFill : Stmt := (inClass (top 20) 4)
abbrev sFillN : List Str := ["self", "level", "name", "gone", "victim", "state", "hits"]
theorem sFillS : FnScope sFillN ["self", "level", "name"] (defScope sFill) := ⟨rfl, rfl, rfl, by decide +kernel, rfl, by decide +kernel, by decide +kernel⟩
def spFill (B : Addr) : Sp := fun vs H Q _ => ∃ (p : Addr) (l : Nat) (x : Option Nm) (d : Dev) (b : Bx Nm) (ls lr : Addr) (ll : List Addr), vs = [.ref p, .int (l : Int), ov x] ∧ BoxAt B H p d b ls lr ll ∧ l < d.pols.length ∧
  ∀ H', BoxAt B H' p d (fillB d b l x) ls lr ll → Fr (FB ls ll) H H' → Q (ov (fillG d b l)) H'
theorem ok_fill {f : Addr} {fd : FuncData} (F : Fun K "fill" "Box.fill" sFill f fd) (bk : BK K B) (cB : Cls K B) (D_told : MDef P w K mg base B "told" ["self", "level"] 1 (spTold B)) : FnOk P w K mg base CX0 2 f fd ["self", "level", "name"] (spFill B) := by
  refine F.ok sFillS (fun vs H Q E h => ?_) (fun cdv A outer s H vs Q E hr h => ?_)
  · obtain ⟨p, l, x, d, b, ls, lr, ll, rfl, _⟩ := h
    rfl
  · obtain ⟨p, l, x, d, b, ls, lr, ll, rfl, ba, hl, k⟩ := h
    obtain ⟨dx, pt, ob, tp⟩ := ba.ob
    obtain ⟨q, s0, rr, r, t⟩ := ba.ok.told ba.dok hl
    have hli : l < ll.length := by rw [ba.ln, ba.ok.rl]; exact hl
    have ha := List.getElem?_eq_getElem hli
    have ea := ba.li l _ _ ha t.hr
    have hv : rr.1 < r.length := by rw [t.hrl]; exact t.ok.v
    have hg := List.getElem?_eq_getElem hv
    refine ⟨_, (pss_cons (ps_asg (pe_mdef (pv 0) cB D_told (hr.mono (by decide)) (pa_cons (pv 1) pa_nil)) (pg_tup rfl (pgs_cons (pg_name (i := 4) sFillS.nd rfl (Or.inl rfl)) (pgs_cons (pg_name (i := 5) sFillS.nd rfl (Or.inl rfl)) (pgs_cons (pg_name (i := 6) sFillS.nd rfl (Or.inl rfl)) pgs_nil)))))
      (pss_cons (ps_set (i := 3) sFillS.nd rfl (Or.inl rfl) (pe_ix ix_list (pe_ix ix_list (pe_fld (pv 0) rfl) (pv 1) (fun _ _ => rfl)) (pv 4) (fun _ _ => rfl)))
      (pss_cons (ps_asg (pv 2) (pg_sub (pe_ix ix_list (pe_fld (pv 0) rfl) (pv 1) (fun _ _ => rfl)) (pv 4) set_list))
      (pss_cons (ps_asg (pv 5) (pg_sub (pe_fld (pv 0) rfl) (pv 1) set_list))
      (pss_one (ps_ret (pv 3))))))), ?_⟩
    rw [show L2.start sFillN [.ref p, .int (l : Int), ov x] = [some (.ref p), some (.int (l : Int)), some (ov x), none, none, none, none] from rfl]
    walk_at "rd"
    refine ⟨_, _, ob, bxF_told d pt ls lr, p, l, d, b, ls, lr, ll, rfl, ba, hl, fun v tv => ?_⟩
    rw [t.htold] at tv
    obtain ⟨va, vb, rfl, e1, e2⟩ := row_inv tv
    walk_at "rd"
    refine ⟨_, sqT e1, rfl, ?_⟩
    walk_at "rd"
    have hl1 : (ll.map V.ref)[l]? = some (.ref ll[l]) := mapGet' _ ha
    have hl2 : (r.map ov)[rr.1]? = some (ov r[rr.1]) := mapGet' _ hg
    have e3 := ba.rw
    have e4 : ixN (r.map ov).length (rr.1 : Int) = some rr.1 := ixN_nat (by rw [List.length_map]; exact hv)
    have hf : fillB d b l x = ⟨b.st.set l rr.2.1, b.rw.set l (r.set rr.1 x)⟩ := by unfold fillB; rw [t.htold, t.hrow]
    have hgone : fillG d b l = r[rr.1] := by unfold fillG; rw [t.htold, t.hrow, hg]; rfl
    have okf := fillB_ok ba.dok ba.ok hl x
    rw [hf] at okf
    have ok1 : BxOk d ⟨b.st, b.rw.set l (r.set rr.1 x)⟩ := ba.ok.upd (.inl rfl) (.inr ⟨l, q, _, t.hp, rfl, by rw [List.length_set]; exact t.hrl⟩)
    have b1 := ba.setR ha ok1
    rw [← ov_set] at b1
    obtain ⟨dx', pt', ob1, tp1⟩ := b1.ob
    have e5 := b1.st
    have e6 : ixN (numV b.st).length (l : Int) = some l := ixN_nat (by rw [List.length_map, ba.ok.sl]; exact hl)
    walk_at "fd"
    rw [num_set, ← hgone]
    refine k _ ?_ ((Fr.setL _ ea (.inr (List.getElem_mem hli))).trans (Fr.setL _ b1.st (.inl rfl)))
    rw [hf]
    exact b1.setS okf
abbrev sDown : Stmt := (inClass (top 20) 6)
abbrev sDownN : List Str := ["self", "name", "gone", "upper", "lower", "line", "lost"]
theorem sDownS : FnScope sDownN ["self", "name", "gone"] (defScope sDown) := ⟨rfl, rfl, rfl, by decide +kernel, rfl, by decide +kernel, by decide +kernel⟩
def spDown (B : Addr) : Sp := fun vs H Q _ => ∃ (p : Addr) (x : Nm) (g : Option Nm) (d : Dev) (b : Bx Nm) (ls lr : Addr) (ll : List Addr), vs = [.ref p, .str x, ov g] ∧ BoxAt B H p d b ls lr ll ∧ d.pols.length = 2 ∧
  ∀ H', BoxAt B H' p d (goDown d b x g) ls lr ll → Fr (FB ls ll) H H' → Q .non H'
theorem ok_go_down {f : Addr} {fd : FuncData} (F : Fun K "go_down" "Box.go_down" sDown f fd) (bk : BK K B) (cB : Cls K B) (D_touch : MDef P w K mg base B "touch" ["self", "level", "line"] 2 (spTouch B)) (D_fill : MDef P w K mg base B "fill" ["self", "level", "name"] 2 (spFill B)) : FnOk P w K mg base CX0 3 f fd ["self", "name", "gone"] (spDown B) := by
  refine F.ok sDownS (fun vs H Q E h => ?_) (fun cdv A outer s H vs Q E hr h => ?_)
  · obtain ⟨p, x, g, d, b, ls, lr, ll, rfl, _⟩ := h
    rfl
  · obtain ⟨p, x, g, d, b, ls, lr, ll, rfl, ba, hd2, k⟩ := h
    obtain ⟨dx, pt, ob, tp⟩ := ba.ob
    have l1 : 1 < d.pols.length := by omega
    have l0 : 0 < d.pols.length := by omega
    obtain ⟨a0, a1, rfl⟩ : ∃ a0 a1, ll = [a0, a1] := by
      have := ba.ln.trans (ba.ok.rl.trans hd2)
      match ll, this with
      | [a0, a1], _ => exact ⟨a0, a1, rfl⟩
    obtain ⟨q0, s0, rr0, r0, t0⟩ := ba.ok.told ba.dok l0
    obtain ⟨q1, s1, rr1, r1, t1⟩ := ba.ok.told ba.dok l1
    have ea0 := ba.li 0 _ _ rfl t0.hr
    have ea1 := ba.li 1 _ _ rfl t1.hr
    have e3 := ba.rw
    have w0 := t0.hrow
    have w1 := t1.hrow
    have n0 : none ∉ [some x] := by simp
    refine ⟨_, (pss_cons (ps_asg (pe_fld (pv 0) rfl) (pg_unl rfl (pgs_cons (pg_name (i := 3) sDownS.nd rfl (Or.inl rfl)) (pgs_cons (pg_name (i := 4) sDownS.nd rfl (Or.inl rfl)) pgs_nil))))
      (pss_one (ps_if (pt_cmpR op_eq (pe_fld (pv 0) rfl) pe_str (nomark _)) (pss_one (ps_if (pt_cmpR op_in_seq (pv 1) (pv 4) rfl) (pss_cons (ps_set (i := 5) sDownS.nd rfl (Or.inl rfl) (pe_bm PySem.F.plainAttrs_list PySem.F.slot_list_index PySem.F.type_list_index mt_index (pv 4) (pa_cons (pv 1) pa_nil)))
      (pss_cons (ps_asg (pv 2) (pg_sub (pv 4) (pv 5) set_list))
      (pss_one (ps_expr (pe_mdef (pv 0) cB D_touch (hr.mono (by decide)) (pa_cons pe_int (pa_cons (pv 5) pa_nil))))))) (pss_one (ps_if (pt_cmpR op_notN (pv 2) pe_non (nomark _)) (pss_one (ps_expr (pe_mdef (pv 0) cB D_fill (hr.mono (by decide)) (pa_cons pe_int (pa_cons (pv 2) pa_nil))))) pss_nil)))) (pss_one (ps_if (pt_cmpR op_in_seq (pv 1) (pv 4) rfl) (pss_one (ps_expr (pe_mdef (pv 0) cB D_touch (hr.mono (by decide)) (pa_cons pe_int (pa_cons (pe_bm PySem.F.plainAttrs_list PySem.F.slot_list_index PySem.F.type_list_index mt_index (pv 4) (pa_cons (pv 1) pa_nil)) pa_nil))))) (pss_cons (ps_set (i := 6) sDownS.nd rfl (Or.inl rfl) (pe_mdef (pv 0) cB D_fill (hr.mono (by decide)) (pa_cons pe_int (pa_cons (pv 1) pa_nil))))
      (pss_one (ps_if (PW.pt (pw_and (pt_cmpR op_eq (pe_fld (pv 0) rfl) pe_str (nomark _)) (pw_and (pt_cmpR op_notN (pv 6) pe_non (nomark _)) (pw_and1 (pt_cmpR op_in_seq (pv 6) (pv 3) rfl))))) (pss_one (ps_asg pe_non (pg_sub (pv 3) (pe_bm PySem.F.plainAttrs_list PySem.F.slot_list_index PySem.F.type_list_index mt_index (pv 3) (pa_cons (pv 6) pa_nil)) set_list))) pss_nil)))))))), ?_⟩
    rw [show L2.start sDownN [.ref p, .str x, ov g] = [some (.ref p), some (.str x), some (ov g), none, none, none, none] from rfl]
    walk_at "rd"
    walk_at "fd"
    walk_at "rd"
    have hm : decide (modeS d.mode = Str.ofString "victim") = decide (d.mode = 3) ∧ decide (V.str (modeS d.mode) = V.str (Str.ofString "inclusive")) = decide (d.mode = 2) := by
      rcases ba.dok.m with ⟨_, h⟩ | ⟨h1, h3, _⟩
      · omega
      · rcases (show d.mode = 1 ∨ d.mode = 2 ∨ d.mode = 3 by omega) with e | e | e <;> rw [e] <;> exact ⟨rfl, rfl⟩
    rw [hm.1]
    have hin : inV (V.str x) (r1.map ov) = decide (some x ∈ r1) := inV_ov (some x) r1
    have hp1 : [a0, a1][1]? = some a1 := rfl
    have hp0 : [a0, a1][0]? = some a0 := rfl
    have e1 : ([a0, a1] : List Addr)[1] = a1 := rfl
    by_cases m3 : d.mode = 3
    · rw [decide_eq_true m3]
      walk_at "rd"
      refine ⟨a1, _, rfl, .inl (sqL ea1), rfl, flats_ov _, ?_⟩
      walk_at "rd"
      rw [hin]
      by_cases hx : some x ∈ r1
      · rw [decide_eq_true hx]
        walk_at "rd"
        refine ⟨tyL ea1, rIndex_ov (x := some x) ea1 hx ?_⟩
        have hlt := List.idxOf_lt_length_of_mem hx
        have ok1 : BxOk d ⟨b.st, b.rw.set 1 (r1.set (r1.idxOf (some x)) g)⟩ := ba.ok.upd (.inl rfl) (.inr ⟨1, q1, _, t1.hp, rfl, by rw [List.length_set]; exact t1.hrl⟩)
        have b1 := ba.setR hp1 ok1
        rw [← ov_set] at b1
        have e4 : ixN (r1.map ov).length ((r1.idxOf (some x) : Nat) : Int) = some (r1.idxOf (some x)) := ixN_nat (by rw [List.length_map]; exact hlt)
        have hgd : goDown d b x g = touch d ⟨b.st, b.rw.set 1 (r1.set (r1.idxOf (some x)) g)⟩ 1 (r1.idxOf (some x)) := by
          unfold goDown; rw [if_pos m3, w1, if_pos hx]
        obtain ⟨dx1, pt1, ob1, _⟩ := b1.ob
        refine ⟨_, _, rfl, ea1, _, e4, _, _, ob1, bxF_touch _ _ _ _, p, 1, r1.idxOf (some x), d, _, ls, lr, [a0, a1], r1.set (r1.idxOf (some x)) g, rfl, b1, l1, ?_, ?_, fun H2 b2 f2 => ?_⟩
        · show (b.rw.set 1 _)[1]? = _
          rw [List.getElem?_set_self (List.getElem?_eq_some_iff.mp t1.hr).1]
        · rw [List.length_set]; exact hlt
        · refine k _ (hgd ▸ b2) ((Fr.setL _ ea1 (.inr (by simp))).trans f2)
      · rw [decide_eq_false hx]
        walk_at "rd"
        cases g with
        | none =>
          have hgd : goDown d b x none = b := by unfold goDown; rw [if_pos m3, w1, if_neg hx, if_pos rfl]
          exact k _ (by rw [hgd]; exact ba) (Fr.refl _ _)
        | some y =>
          have hgd : goDown d b x (some y) = fillB d b 1 (some y) := by unfold goDown; rw [if_pos m3, w1, if_neg hx, if_neg (by simp)]
          walk_at "rd"
          show ∃ x_1 x_2, _ ∧ _ ∧ _
          refine ⟨_, _, ob, bxF_fill _ _ _ _, p, 1, some y, d, b, ls, lr, [a0, a1], rfl, ba, l1, fun H2 b2 f2 => ?_⟩
          exact k _ (hgd ▸ b2) f2
    · rw [decide_eq_false m3]
      walk_at "rd"
      refine ⟨a1, _, rfl, .inl (sqL ea1), rfl, flats_ov _, ?_⟩
      walk_at "rd"
      rw [hin]
      by_cases hx : some x ∈ r1
      · rw [decide_eq_true hx]
        have hlt := List.idxOf_lt_length_of_mem hx
        have hgd : goDown d b x g = touch d b 1 (r1.idxOf (some x)) := by unfold goDown; rw [if_neg m3, w1, if_pos hx]
        walk_at "rd"
        refine ⟨_, _, ob, bxF_touch _ _ _ _, tyL ea1, rIndex_ov (x := some x) ea1 hx ?_⟩
        exact ⟨p, 1, r1.idxOf (some x), d, b, ls, lr, [a0, a1], r1, rfl, ba, l1, t1.hr, hlt, fun H2 b2 f2 => k _ (hgd ▸ b2) f2⟩
      · rw [decide_eq_false hx]
        walk_at "rd"
        refine ⟨_, _, ob, bxF_fill _ _ _ _, p, 1, some x, d, b, ls, lr, [a0, a1], rfl, ba, l1, fun H2 b2 f2 => ?_⟩
        obtain ⟨dx2, pt2, ob2, _⟩ := b2.ob
        refine ⟨_, _, _, ob2, bk.c, bk.mode, _, bxF_mode _ _ _ _, rfl, ?_⟩
        rw [hm.2]
        have row0 : row (fillB d b 1 (some x)) 0 = r0 := by rw [fillB_row (by decide), w0]
        by_cases m2 : d.mode = 2
        · rw [decide_eq_true m2, if_pos rfl]
          cases hg : fillG d b 1 with
          | none =>
            have hgd : goDown d b x g = fillB d b 1 (some x) := by unfold goDown; rw [if_neg m3, w1, if_neg hx, hg, if_neg (by simp)]
            exact k _ (hgd ▸ b2) f2
          | some y =>
            have hr0 : (fillB d b 1 (some x)).rw[0]? = some r0 := by
              show (b.rw.set 1 _)[0]? = _
              rw [List.getElem?_set_ne (by decide)]; exact t0.hr
            have ea2 := b2.li 0 _ _ rfl hr0
            rw [if_pos (by rfl)]
            refine ⟨a0, _, rfl, .inl (sqL ea2), rfl, flats_ov _, ?_⟩
            walk_at "rd"
            rw [inV_ov (some y) r0]
            by_cases hy : some y ∈ r0
            · rw [decide_eq_true hy]
              have hlt := List.idxOf_lt_length_of_mem hy
              have hgd : goDown d b x g = { fillB d b 1 (some x) with rw := (fillB d b 1 (some x)).rw.set 0 (r0.set (r0.idxOf (some y)) none) } := by
                unfold goDown; rw [if_neg m3, w1, if_neg hx, hg, w0, if_pos ⟨m2, by simp, hy⟩]
              walk_at "rd"
              refine ⟨tyL ea2, rIndex_ov (x := some y) ea2 hy ?_⟩
              refine ⟨_, _, rfl, ea2, _, ixN_nat (by rw [List.length_map]; exact hlt), ?_⟩
              have ok3 : BxOk d ⟨(fillB d b 1 (some x)).st, (fillB d b 1 (some x)).rw.set 0 (r0.set (r0.idxOf (some y)) none)⟩ := b2.ok.upd (.inl rfl) (.inr ⟨0, q0, _, t0.hp, rfl, by rw [List.length_set]; exact t0.hrl⟩)
              have b3 := b2.setR hp0 ok3
              rw [← ov_set] at b3
              exact k _ (hgd ▸ b3) (f2.trans (Fr.setL _ ea2 (.inr (by simp))))
            · rw [decide_eq_false hy]
              have hgd : goDown d b x g = fillB d b 1 (some x) := by
                unfold goDown; rw [if_neg m3, w1, if_neg hx, hg, w0, if_neg (fun z => hy z.2.2)]
              exact k _ (hgd ▸ b2) f2
        · rw [decide_eq_false m2]
          have hgd : goDown d b x g = fillB d b 1 (some x) := by unfold goDown; rw [if_neg m3, w1, if_neg hx, if_neg (fun z => m2 z.1)]
          exact k _ (hgd ▸ b2) f2
abbrev sAsk : Stmt := (inClass (top 20) 5)
abbrev sAskN : List Str := ["self", "name", "held", "gone"]
theorem sAskS : FnScope sAskN ["self", "name"] (defScope sAsk) := ⟨rfl, rfl, rfl, by decide +kernel, rfl, by decide +kernel, by decide +kernel⟩
def spAsk (B : Addr) : Sp := fun vs H Q _ => ∃ (p : Addr) (x : Nm) (d : Dev) (b : Bx Nm) (ls lr : Addr) (ll : List Addr), vs = [.ref p, .str x] ∧ BoxAt B H p d b ls lr ll ∧
  ∀ H', BoxAt B H' p d (askB d b x) ls lr ll → Fr (FB ls ll) H H' → Q (.bl (holds b x)) H'
theorem ok_ask {f : Addr} {fd : FuncData} (F : Fun K "ask" "Box.ask" sAsk f fd) (Bb : Bi mg) (bk : BK K B) (cB : Cls K B) (D_holds : MDef P w K mg base B "holds" ["self", "name"] 1 (spHolds B)) (D_touch : MDef P w K mg base B "touch" ["self", "level", "line"] 2 (spTouch B)) (D_fill : MDef P w K mg base B "fill" ["self", "level", "name"] 2 (spFill B)) (D_go_down : MDef P w K mg base B "go_down" ["self", "name", "gone"] 3 (spDown B)) : FnOk P w K mg base CX0 4 f fd ["self", "name"] (spAsk B) := by
  refine F.ok sAskS (fun vs H Q E h => ?_) (fun cdv A outer s H vs Q E hr h => ?_)
  · obtain ⟨p, x, d, b, ls, lr, ll, rfl, _⟩ := h
    rfl
  · obtain ⟨p, x, d, b, ls, lr, ll, rfl, ba, k⟩ := h
    obtain ⟨dx, pt, ob, tp⟩ := ba.ob
    have l0 : 0 < d.pols.length := by rcases ba.dok.m with ⟨_, h⟩ | ⟨_, _, h⟩ <;> omega
    obtain ⟨q0, s0, rr0, r0, t0⟩ := ba.ok.told ba.dok l0
    have hll : ∃ a0, ll[0]? = some a0 := ⟨ll[0]'(by rw [ba.ln, ba.ok.rl]; exact l0), List.getElem?_eq_getElem _⟩
    obtain ⟨a0, ha0⟩ := hll
    have ha0' : (ll.map V.ref)[0]? = some (.ref a0) := mapGet' _ ha0
    have ha0'' : atI (ll.map V.ref) 0 = some (.ref a0) := atI_nat (j := 0) ha0'
    refine ⟨_, (pss_cons (ps_set (i := 2) sAskS.nd rfl (Or.inl rfl) (pe_mdef (pv 0) cB D_holds (hr.mono (by decide)) (pa_cons (pv 1) pa_nil)))
      (pss_cons (ps_if (pt_cmpR op_in_seq (pv 1) (pe_ix ix_list (pe_fld (pv 0) rfl) pe_int (fun _ _ => rfl)) rfl) (pss_one (ps_expr (pe_mdef (pv 0) cB D_touch (hr.mono (by decide)) (pa_cons pe_int (pa_cons (pe_bm PySem.F.plainAttrs_list PySem.F.slot_list_index PySem.F.type_list_index mt_index (pe_ix ix_list (pe_fld (pv 0) rfl) pe_int (fun _ _ => rfl)) (pa_cons (pv 1) pa_nil)) pa_nil))))) (pss_cons (ps_set (i := 3) sAskS.nd rfl (Or.inl rfl) (pe_mdef (pv 0) cB D_fill (hr.mono (by decide)) (pa_cons pe_int (pa_cons (pv 1) pa_nil))))
      (pss_one (ps_if (pt_cmpR op_eq (pe_callB (id := "len") call_len_seq (by rfl) Bb.len (by decide +kernel) (pa_cons (pe_fld (pv 0) rfl) pa_nil)) pe_int (nomark _)) (pss_one (ps_expr (pe_mdef (pv 0) cB D_go_down (hr.mono (by decide)) (pa_cons (pv 1) (pa_cons (pv 3) pa_nil))))) pss_nil))))
      (pss_one (ps_ret (pv 2))))), ?_⟩
    rw [show L2.start sAskN [.ref p, .str x] = [some (.ref p), some (.str x), none, none] from rfl]
    walk_at "rd"
    refine ⟨_, _, ob, bxF_holds _ _ _ _, p, x, d, b, ls, lr, ll, rfl, ba, fun H1 f1 => ?_⟩
    have ba1 := ba.up0 f1
    have ob1 := f1.keep _ _ ob id
    have e3 := ba1.rw
    have ea0 := ba1.li 0 _ _ ha0 t0.hr
    walk_at "rd"
    walk_at "fd"
    refine ⟨a0, _, rfl, .inl (sqL ea0), rfl, flats_ov _, ?_⟩
    walk_at "rd"
    rw [show inV (V.str x) (r0.map ov) = decide (some x ∈ r0) from inV_ov (some x) r0]
    by_cases hx : some x ∈ r0
    · rw [decide_eq_true hx]
      have hlt := List.idxOf_lt_length_of_mem hx
      have hgd : askB d b x = touch d b 0 (r0.idxOf (some x)) := by unfold askB; rw [t0.hrow, if_pos hx]
      walk_at "rd"
      walk_at "fd"
      exact ⟨tyL ea0, rIndex_ov (x := some x) ea0 hx ⟨p, 0, r0.idxOf (some x), d, b, ls, lr, ll, r0, rfl, ba1, l0, t0.hr, hlt, fun H2 b2 f2 => k _ (hgd ▸ b2) (f1.any.trans f2)⟩⟩
    · rw [decide_eq_false hx]
      walk_at "rd"
      refine ⟨_, _, ob1, bxF_fill _ _ _ _, p, 0, some x, d, b, ls, lr, ll, rfl, ba1, l0, fun H2 b2 f2 => ?_⟩
      obtain ⟨dx2, pt2, ob2, _⟩ := b2.ob
      have e4 := b2.rw
      walk_at "rd"
      walk_at "fd"
      have hll : (((ll.map V.ref).length : Nat) : Int) = 2 ↔ b.rw.length = 2 := by rw [List.length_map, ba.ln]; omega
      by_cases h2 : b.rw.length = 2
      · rw [decide_eq_true (hll.mpr h2)]
        have hgd : askB d b x = goDown d (fillB d b 0 (some x)) x (fillG d b 0) := by unfold askB; rw [t0.hrow, if_neg hx, if_pos h2]
        walk_at "rd"
        refine ⟨_, _, ob2, bxF_go_down _ _ _ _, p, x, fillG d b 0, d, _, ls, lr, ll, rfl, b2, by rw [← ba.ok.rl]; exact h2, fun H3 b3 f3 => ?_⟩
        exact k _ (hgd ▸ b3) ((f1.any.trans f2).trans f3)
      · rw [decide_eq_false (fun z => h2 (hll.mp z))]
        have hgd : askB d b x = fillB d b 0 (some x) := by unfold askB; rw [t0.hrow, if_neg hx, if_neg h2]
        exact k _ (hgd ▸ b2) (f1.any.trans f2)
end
end K53
end
section
set_option Elab.async false
set_option linter.all false
set_option maxRecDepth 100000
set_option maxHeartbeats 4000000
set_option pp.maxSteps 2500
namespace K53
open PySem PySem.Spec PyProof.Rows L2
local macro_rules | `(tactic| walk_at "rd") => `(tactic| (
  try dsimp only [tSeq, tIfS, tOr, tAnd, tNot, tNotV, tAndV, tOrV, tB, tCB, tCons, tNil, tVar, tC, tTest, tChain, tRet, tRetN, tNext, tOp, rI0, rI, tAsg, gName, tDrop, tIf, tTup, tLst, tFld, tUn, rU, tCall, tMeth, tMake, tProp, iStr, iTup, iList, iRng1, iRng2, iEnumT,
    tPar, tPar3, gTup, gCons, gNil, gSub, gUnl, rSetL, rIxL, rIxT, rAppend, rExtend, tBM, tBM0, sFld, sFldAug, tSl, tPart, tNoPart, rSlL, rSlA, rSlT, tAug, ipI, t2I, rEq, rNe, scal, List.append_nil, List.cons_append, List.nil_append, List.getElem?_cons_zero, List.getElem?_cons_succ, List.set_cons_zero, List.set_cons_succ,
    List.map_cons, List.map_nil]
  try simp only [Option.some.injEq, exists_eq_left', exists_eq_left, exists_eq_right, exists_eq', V.int.injEq, V.str.injEq, V.bl.injEq, V.ref.injEq, List.cons.injEq, and_true, true_and, and_assoc, exists_and_left, exists_const, Bool.not_true, Bool.not_false, Bool.false_eq_true, if_true, if_false, ite_true, ite_false, decide_true, decide_false, reduceCtorEq, false_and, false_or, or_false, List.cons_ne_nil, exists_false, List.length_cons, List.length_nil, Nat.reduceAdd, Nat.zero_add, Int.cast_ofNat_Int, Int.reduceEq, Int.reduceLT, Int.reduceLE, Int.reduceAdd, Int.reduceSub, at0, at1, at2, eq_self, List.reverse_cons, List.reverse_nil]))

local macro_rules | `(tactic| walk_at "fd") => `(tactic| (
  repeat (first
    | (apply And.intro
       · first
         | assumption
         | exact sqT (by assumption)
         | exact sqL (by assumption)
         | exact .inl (sqL (by assumption))
         | exact .inr (sqT (by assumption))
         | exact atI_nat (by assumption)
         | exact at0
         | exact at1
         | exact at2
         | exact bxF_rows _ _ _ _
         | exact bxF_stages _ _ _ _
         | exact bxF_pols _ _ _ _
         | exact bxF_mode _ _ _ _
         | exact bxF_told _ _ _ _
         | exact bxF_holds _ _ _ _
         | exact bxF_touch _ _ _ _
         | exact bxF_fill _ _ _ _
         | exact bxF_ask _ _ _ _
         | exact bxF_go_down _ _ _ _
         | exact bxF_moment _ _ _ _
         | exact BK.c (by assumption)
         | exact BK.rows (by assumption)
         | exact BK.stages (by assumption)
         | exact BK.policies (by assumption)
         | exact BK.mode (by assumption)
         | rfl)
    | with_reducible apply Exists.intro)))

theorem tlc2 {wi wi1 : TI} {g g1 : TG} {tt tt1 : TT} {te : TE} {vs vs1 : List Nat} {σ : L2.St} {H : Hp} {Q : VK} (h : wi σ H fun J H1 => tLc2 (fun _ H R => R J H) g tt wi1 g1 tt1 te vs vs1 σ H1 Q) : tLc2 wi g tt wi1 g1 tt1 te vs vs1 σ H Q := h
theorem flat2 {K : PySem.W.Frag} {v : V} {H1 : Hp} {Q : VK} {lr : Addr} {ll : List Addr} {rws : List (List V)} (hl : H1 lr = some (.lst (ll.map V.ref))) (hn : ll.length = rws.length)
    (hr : ∀ (i : Nat) (a : Addr) (r : List V), ll[i]? = some a → rws[i]? = some r → H1 a = some (.lst r)) (hz : rws.flatten.length < sizeLine) (hd : ∀ D H, H1 D = none → Fr F0 H1 H → H D = some (.lst rws.flatten) → Q (.ref D) H) :
    tLc2 (fun _ H R => R (Itl K lr) H) (gName 1) tYes (iList K (tVar 1)) (gName 2) tYes (tVar 2) [1, 2] [2] [some v, none, none] H1 Q := by
  intro D hD
  refine ⟨fun i m H => m = ll.length - i ∧ i ≤ ll.length ∧ Fr F0 H1 H ∧ H D = some (.lst (rws.take i).flatten), ⟨_, rfl, Nat.zero_le _, Fr.new _ hD, upd_same⟩, ?_⟩
  rintro i m H ⟨rfl, hi, f, e⟩
  have w := walk_list (K := K) (a := lr) (xs := ll.map V.ref)
  by_cases hlt : i < ll.length
  · refine .inr ⟨w.goes i H (by simpa using hlt) (sqL (f.keep _ _ hl id)), fun H' => Fr F0 H1 H' ∧ H' D = some (.lst (rws.take (i + 1)).flatten), fun H' h => ⟨_, by omega, rfl, hlt, h.1, h.2⟩, fun x H' hy => ?_⟩
    obtain ⟨rfl, hy2⟩ := w.yields i H x H' (by simpa using hlt) (sqL (f.keep _ _ hl id)) hy
    obtain ⟨a, ha, rfl⟩ := mapGet hy2
    have hr1 := List.getElem?_eq_getElem (show i < rws.length by omega)
    have ea := hr i a _ ha hr1
    have ht : (rws.take (i + 1)).flatten = (rws.take i).flatten ++ rws[i] := by rw [List.take_succ, hr1, List.flatten_append]; simp
    refine ⟨rfl, ?_⟩
    simp only [tYes, eq_self, if_true]
    have w1 := walk_list (K := K) (a := a) (xs := rws[i])
    refine ⟨.ref a, rfl, a, rfl, ⟨_, sqL (f.keep _ _ ea id)⟩, fun j k H => k = rws[i].length - j ∧ j ≤ rws[i].length ∧ Fr F0 H1 H ∧ H D = some (.lst ((rws.take i).flatten ++ rws[i].take j)), ⟨_, rfl, Nat.zero_le _, f, by rw [List.take_zero, List.append_nil]; exact e⟩, ?_⟩
    rintro j k H ⟨rfl, hj, f1, e1⟩
    have sq1 : SqL K H a rws[i] := sqL (f1.keep _ _ ea id)
    by_cases hjl : j < rws[i].length
    · refine .inr ⟨w1.goes j H hjl sq1, fun H' => Fr F0 H1 H' ∧ H' D = some (.lst ((rws.take i).flatten ++ rws[i].take (j + 1))), fun H' h => ⟨_, by omega, rfl, hjl, h.1, h.2⟩, fun z H' hz1 => ?_⟩
      obtain ⟨rfl, hz2⟩ := w1.yields j H z H' hjl sq1 hz1
      refine ⟨rfl, ?_⟩
      simp only [tYes, eq_self, if_true]
      refine ⟨z, rfl, _, e1, ?_, fr_fresh _ f1 hD e1, ?_⟩
      · have h1 : ((rws.take i).flatten ++ rws[i].take j).length ≤ rws.flatten.length := by
          have h2 : rws.flatten = (rws.take i).flatten ++ (rws.drop i).flatten := by rw [← List.flatten_append, List.take_append_drop]
          have h3 : (rws.drop i).flatten = rws[i] ++ (rws.drop (i + 1)).flatten := by
            rw [List.drop_eq_getElem_cons (show i < rws.length by omega)]; rfl
          rw [h2, h3]
          simp only [List.length_append, List.length_take]
          omega
        omega
      · rw [upd_same, List.append_assoc, List.take_succ (i := j), hz2]; rfl
    · have ej : j = rws[i].length := by omega
      rw [ej] at e1 ⊢
      exact .inl ⟨w1.stops H sq1, f1, by rw [ht, e1, List.take_length]⟩
  · have ei : i = ll.length := by omega
    subst ei
    refine .inl ⟨?_, hd D H hD f (by rw [e, hn, List.take_length])⟩
    have := w.stops H (sqL (f.keep _ _ hl id))
    rwa [List.length_map] at this
section
variable {P : Program} {w : World} {K : PySem.W.Frag} {mg : Str → Option Value} {base : Heap} {B : Addr}
abbrev sMom : Stmt := (inClass (top 20) 8)
abbrev sMomN : List Str := ["self", "lines", "name"]
theorem sMomS : FnScope sMomN ["self"] (defScope sMom) := ⟨rfl, rfl, rfl, by decide +kernel, rfl, by decide +kernel, by decide +kernel⟩
def spMom (B : Addr) : Sp := fun vs H Q _ => ∃ (p : Addr) (d : Dev) (b : Bx Nm) (ls lr : Addr) (ll : List Addr), vs = [.ref p] ∧ BoxAt B H p d b ls lr ll ∧ ∀ v H', TN H' v (momK b) → Fr F0 H H' → Q v H'
theorem ok_moment {f : Addr} {fd : FuncData} (F : Fun K "moment" "Box.moment" sMom f fd) (Bb : Bi mg) (bk : BK K B) : FnOk P w K mg base CX0 1 f fd ["self"] (spMom B) := by
  refine F.ok sMomS (fun vs H Q E h => ?_) (fun cdv A outer s H vs Q E hr h => ?_)
  · obtain ⟨p, d, b, ls, lr, ll, rfl, _⟩ := h
    rfl
  · obtain ⟨p, d, b, ls, lr, ll, rfl, ba, k⟩ := h
    obtain ⟨dx, pt, ob, tp⟩ := ba.ob
    refine ⟨_, (pss_one (ps_ret (pe_tup (pa_cons (pe_callTy (T := "tuple") call_tuple_of (by rfl) Bb.tuple (by decide +kernel) (pa_cons (pe_fld (pv 0) rfl) pa_nil)) (pa_cons (pe_callTy (T := "tuple") call_tuple_of (by rfl) Bb.tuple (by decide +kernel) (pa_cons (pe_lc2 (own := [("lines", 1), ("name", 2)]) (vs1 := [2]) (g := gName 1) (g1 := gName 2) (tt := tYes) (tt1 := tYes) rfl sMomS.nd (pi_list (pe_fld (pv 0) rfl)) (blkOk_by (N := sMomN) (sc := (defScope sMom)) (by decide +kernel)) (by decide) (fun _ _ _ _ _ => pg_name (i := 1) sMomS.nd rfl (Or.inl rfl)) (fun _ _ _ _ _ => pts_nil) (fun _ _ _ _ _ => (k_pil (K := K) rfl (pv 1))) (fun _ _ _ _ _ => pg_name (i := 2) sMomS.nd rfl (Or.inl rfl)) (fun _ _ _ _ _ => pts_nil) (fun _ _ _ _ _ => (pv 2))) pa_nil)) pa_nil))))), ?_⟩
    rw [show L2.start sMomN [.ref p] = [some (.ref p), none, none] from rfl]
    walk_at "rd"
    have e3 := ba.st
    have e4 := ba.rw
    walk_at "fd"
    refine .inl ⟨sqL e3, fun q hq => ?_⟩
    have f1 : Fr F0 H (upd H q (.tup (numV b.st))) := Fr.new _ hq
    have ob1 := f1.keep _ _ ob id
    have e5 := f1.keep _ _ e4 id
    walk_at "rd"
    walk_at "fd"
    refine tlc2 ?_
    walk_at "rd"
    walk_at "fd"
    refine ⟨⟨_, sqL e5⟩, flat2 (K := K) (ll := ll) (rws := b.rw.map fun r => r.map ov) e5 (by rw [List.length_map, ba.ln]) ?_ ?_ ?_⟩
    · intro i a r ha hr'
      obtain ⟨r', h1, rfl⟩ := mapGet hr'
      exact f1.keep _ _ (ba.li i a r' ha h1) id
    · have h6 := ba.ok.flat6 ba.dok
      rw [show (b.rw.map fun r => r.map ov).flatten = b.rw.flatten.map ov by rw [List.map_flatten]]
      rw [List.length_map]
      exact Nat.lt_of_le_of_lt h6 (by decide)
    · intro D H2 hD f2 e
      rw [show (b.rw.map fun r => r.map ov).flatten = b.rw.flatten.map ov by rw [List.map_flatten]] at e
      refine ⟨_, rfl, _, .inl ⟨sqL e, fun l hl => ⟨by decide, fun p' hp' => ?_⟩⟩⟩
      have f3 : Fr F0 H2 (upd H2 l (.tup (b.rw.flatten.map ov))) := Fr.new _ hl
      have f4 : Fr F0 _ (upd (upd H2 l (.tup (b.rw.flatten.map ov))) p' (.tup [.ref q, .ref l])) := Fr.new _ hp'
      refine k _ _ (tn_made hp' (.cons ?_ (.cons ?_ .nil))) (((f1.trans f2).trans f3).trans f4)
      · exact .tup (f3.keep _ _ (f2.keep _ _ upd_same id) id) (numV_tn _ _)
      · exact .tup upd_same (ovs_tn _ _)
theorem pf1 (v : V) : putF ("mode" : Str) v [] = ([("mode", v)] : List (Str × V)) := by kernel_rfl
theorem pf2 (v w : V) : putF ("policies" : Str) w ([("mode", v)] : List (Str × V)) = ([("mode", v), ("policies", w)] : List (Str × V)) := by kernel_rfl
theorem pf3 (u v w : V) : putF ("stages" : Str) w ([("mode", u), ("policies", v)] : List (Str × V)) = ([("mode", u), ("policies", v), ("stages", w)] : List (Str × V)) := by kernel_rfl
theorem pf4 (t u v w : V) : putF ("rows" : Str) w ([("mode", t), ("policies", u), ("stages", v)] : List (Str × V)) = ([("mode", t), ("policies", u), ("stages", v), ("rows", w)] : List (Str × V)) := by kernel_rfl
theorem pf5 (d : Dev) (pt ls lr l : Addr) : putF ("stages" : Str) (.ref l) (bxF d pt ls lr) = bxF d pt l lr := by kernel_rfl
theorem cut1 {x : V} {ps : List V} : cutV (x :: ps) (some 1) none = ps := by
  have h := HT.sIx_nat (x :: ps).length 0 1
  have h1 : HT.sIx (x :: ps).length 0 (some 1) = 1 := by rw [show (1 : Int) = ((1 : Nat) : Int) from rfl, h, List.length_cons]; omega
  unfold cutV
  rw [h1, HT.sIx_none, List.length_cons]
  simp
theorem cut1n {x : V} {ps : List V} : ¬ (HT.sIx (x :: ps).length 0 (some 1) = 0 ∧ HT.sIx (x :: ps).length (x :: ps).length none = (x :: ps).length) := by
  have h := HT.sIx_nat (x :: ps).length 0 1
  have h1 : HT.sIx (x :: ps).length 0 (some 1) = 1 := by rw [show (1 : Int) = ((1 : Nat) : Int) from rfl, h, List.length_cons]; omega
  rw [h1]
  exact fun z => absurd z.1 (by decide)
theorem rep1 {α : Type} {x : α} {n : Nat} : (List.replicate (n : Int).toNat [x]).flatten = List.replicate n x := by
  rw [Int.toNat_natCast]
  induction n with
  | zero => rfl
  | succ n ih => rw [List.replicate_succ, List.flatten_cons, ih, List.replicate_succ]; rfl
abbrev sBInit : Stmt := (inClass (top 20) 0)
abbrev sBInitN : List Str := ["self", "device", "policy"]
theorem sBInitS : FnScope sBInitN ["self", "device"] (defScope sBInit) := ⟨rfl, rfl, rfl, by decide +kernel, rfl, by decide +kernel, by decide +kernel⟩
def spBInit (B : Addr) : Sp := fun vs H Q _ => ∃ (p dx : Addr) (v : V) (d : Dev), vs = [.ref p, v] ∧ H p = some (.ins B dx []) ∧ TN H v (devK d) ∧ DevOk d ∧
  ∀ H' ls lr ll, BoxAt B H' p d (empty d) ls lr ll → Fr (· = p) H H' → H ls = none → H lr = none → (∀ a ∈ ll, H a = none) → Q .non H'
theorem ok_binit {f : Addr} {fd : FuncData} (F : Fun K "__init__" "Box.__init__" sBInit f fd) (Bb : Bi mg) (bk : BK K B) : FnOk P w K mg base CX0 1 f fd ["self", "device"] (spBInit B) := by
  refine F.ok sBInitS (fun vs H Q E h => ?_) (fun cdv A outer s H vs Q E hr h => ?_)
  · obtain ⟨p, dx, v, d, rfl, _⟩ := h
    rfl
  · obtain ⟨p, dx, v, d, rfl, ob, tv, dok, k⟩ := h
    obtain ⟨a, ps, rfl, ea, tp⟩ := dev_inv tv
    have hpl : ps.length = d.pols.length := by rw [tp.length, List.length_map]
    refine ⟨_, (pss_cons (ps_fld (pv 0) (pe_ix ix_tup (pv 1) pe_int (fun _ _ => rfl)) rfl)
      (pss_cons (ps_fld (pv 0) (pe_slice sl_tup (pv 1) (po_some pe_int) po_none) rfl)
      (pss_cons (ps_fld (pv 0) (pe_op op_rep (pe_lst (pa_cons pe_int pa_nil)) (pe_callB (id := "len") call_len_seq (by rfl) Bb.len (by decide +kernel) (pa_cons (pe_fld (pv 0) rfl) pa_nil))) rfl)
      (pss_one (ps_fld (pv 0) (pe_lc (own := [("policy", 2)]) (g := gName 2) (tt := tYes) rfl sBInitS.nd (pi_tup (pe_fld (pv 0) rfl)) (blkOk_by (N := sBInitN) (sc := (defScope sBInit)) (by decide +kernel)) (fun _ _ _ _ _ => pg_name (i := 2) sBInitS.nd rfl (Or.inl rfl)) (fun _ _ _ _ _ => pts_nil) (fun _ _ _ _ _ => (pe_op op_rep (pe_lst (pa_cons pe_non pa_nil)) (pe_ix (k_ixt (K := K) rfl) (pv 2) pe_int (fun _ _ => rfl))))) rfl))))), ?_⟩
    rw [show L2.start sBInitN [.ref p, .ref a] = [some (.ref p), some (.ref a), none] from rfl]
    walk_at "rd"
    walk_at "fd"
    rw [pf1]
    have f1 : Fr (· = p) H (upd H p (.ins B dx [(("mode" : Str), V.str (modeS d.mode))])) := Fr.setI _ ob rfl
    have o1 : upd H p (.ins B dx [(("mode" : Str), V.str (modeS d.mode))]) p = _ := upd_same
    generalize upd H p (.ins B dx [(("mode" : Str), V.str (modeS d.mode))]) = H1 at f1 o1 ⊢
    refine ⟨by decide, _, sqT (f1.tk _ _ ea), cut1n, fun pt hpt => ?_⟩
    rw [cut1]
    have npt : p ≠ pt := ne_of_none o1 hpt
    have f2 := f1.trans (Fr.new (F := (· = p)) (.tup ps) hpt)
    have o2 := (upd_ne (H := H1) (o := .tup ps) npt).trans o1
    have t2 : upd H1 pt (.tup ps) pt = _ := upd_same
    generalize upd H1 pt (.tup ps) = H2 at f2 o2 t2 ⊢
    refine ⟨_, _, _, o2, bk.c, bk.policies, by show (1 : Nat) < 1000; decide, by decide, fun p0 hp0 => ?_⟩
    rw [pf2] at hp0 ⊢
    have o3 : upd H2 p (.ins B dx [(("mode" : Str), V.str (modeS d.mode)), (("policies" : Str), V.ref pt)]) p = _ := upd_same
    have f3 := f2.trans (Fr.setI (F := (· = p)) (.ins B dx [(("mode" : Str), V.str (modeS d.mode)), (("policies" : Str), V.ref pt)]) o2 rfl)
    have t3 := (upd_ne (H := H2) (o := .ins B dx [(("mode" : Str), V.str (modeS d.mode)), (("policies" : Str), V.ref pt)]) (Ne.symm npt)).trans t2
    generalize upd H2 p (.ins B dx [(("mode" : Str), V.str (modeS d.mode)), (("policies" : Str), V.ref pt)]) = H3 at f3 o3 t3 hp0 ⊢
    have np0 : p ≠ p0 := ne_of_none o3 hp0
    have f4 := f3.trans (Fr.new (F := (· = p)) (.lst [.int 0]) hp0)
    have o4 := (upd_ne (H := H3) (o := .lst [.int 0]) np0).trans o3
    have t4 := (upd_ne (H := H3) (o := .lst [.int 0]) (ne_of_none t3 hp0)).trans t3
    have z4 : upd H3 p0 (.lst [.int 0]) p0 = _ := upd_same
    generalize upd H3 p0 (.lst [.int 0]) = H4 at f4 o4 t4 z4 ⊢
    walk_at "fd"
    have h2 := dok.two
    refine ⟨p0, (ps.length : Int), [V.int 0], rfl, rfl, z4, by omega, by omega, ?_, fun ls hls => ?_⟩
    · exact Nat.le_trans (show 1 * (ps.length : Int).toNat ≤ 2 by omega) (by decide)
    rw [rep1]
    have f5 := f4.trans (Fr.new (F := (· = p)) (.lst (List.replicate ps.length (V.int 0))) hls)
    have nls : p ≠ ls := ne_of_none o4 hls
    have o5 := (upd_ne (H := H4) (o := .lst (List.replicate ps.length (V.int 0))) nls).trans o4
    have t5 := (upd_ne (H := H4) (o := .lst (List.replicate ps.length (V.int 0))) (ne_of_none t4 hls)).trans t4
    have s5 : upd H4 ls (.lst (List.replicate ps.length (V.int 0))) ls = _ := upd_same
    have dls := f4.dom _ hls
    generalize upd H4 ls (.lst (List.replicate ps.length (V.int 0))) = H5 at f5 o5 t5 s5 ⊢
    refine ⟨_, _, _, o5, bk.c, bk.stages, by show (2 : Nat) < 1000; decide, ?_⟩
    rw [pf3]
    have npt5 : pt ≠ p := ne_of t5 o5 (fun z => nomatch z)
    have f6 := f5.trans (Fr.setI (F := (· = p)) (.ins B dx [(("mode" : Str), V.str (modeS d.mode)), (("policies" : Str), V.ref pt), (("stages" : Str), V.ref ls)]) o5 rfl)
    have o6 : upd H5 p (.ins B dx [(("mode" : Str), V.str (modeS d.mode)), (("policies" : Str), V.ref pt), (("stages" : Str), V.ref ls)]) p = _ := upd_same
    have t6 := (upd_ne (H := H5) (o := .ins B dx [(("mode" : Str), V.str (modeS d.mode)), (("policies" : Str), V.ref pt), (("stages" : Str), V.ref ls)]) npt5).trans t5
    have s6 := (upd_ne (H := H5) (o := .ins B dx [(("mode" : Str), V.str (modeS d.mode)), (("policies" : Str), V.ref pt), (("stages" : Str), V.ref ls)]) (Ne.symm nls)).trans s5
    generalize upd H5 p (.ins B dx [(("mode" : Str), V.str (modeS d.mode)), (("policies" : Str), V.ref pt), (("stages" : Str), V.ref ls)]) = H6 at f6 o6 t6 s6 ⊢
    refine tlc rfl ?_
    walk_at "rd"
    refine ⟨_, _, _, o6, bk.c, bk.policies, _, rfl, _, rfl, ⟨_, sqT t6⟩, ?_⟩
    refine lc_fr (walk_tup (K := K) (a := pt) (xs := ps)) F0 (fun D i acc H' => ∃ ll : List Addr, acc = ll.map .ref ∧ ll.Nodup ∧ D ∉ ll ∧ ∀ (j : Nat) (c : Addr), ll[j]? = some c → H6 c = none ∧ ∃ q, d.pols[j]? = some q ∧ H' c = some (.lst ((List.replicate q.lines none).map ov)))
      (fun _ _ _ _ fr _ => fr.seqT t6) (fun _ _ => ⟨[], rfl, List.nodup_nil, by simp, fun j c h => by simp at h⟩) ?_ ?_
    · rintro D i y H1 H2 acc hD hi el fr ⟨ll, rfl, nd, nD, hll⟩ e ⟨rfl, hy⟩
      obtain ⟨kk, hk, tk⟩ := tp.getV hy
      obtain ⟨q, hq, rfl⟩ := mapGet hk
      obtain ⟨a1, a2, rs, rfl, ea1, ea2, trs⟩ := pol_inv (tk.up (f6.trans (fr.any)).tk)
      have l3 := (dok.p q (List.mem_of_getElem? hq)).l3
      walk_at "rd"
      refine ⟨by decide, fun q0 hq0 => ⟨_, .inl (.inl ((Fr.new (F := F0) _ hq0).tk _ _ ea1)), _, at0, ?_⟩⟩
      refine ⟨q0, (q.lines : Int), [V.non], rfl, rfl, upd_same, by omega, by omega, ?_, fun l hl => ?_⟩
      · exact Nat.le_trans (show 1 * (q.lines : Int).toNat ≤ 3 by omega) (by decide)
      rw [rep1]
      have g1 : Fr F0 H2 (upd (upd H2 q0 (.lst [V.non])) l (.lst (List.replicate q.lines V.non))) := (Fr.new _ hq0).trans (Fr.new _ hl)
      have hl1 : H2 l = none := (Fr.new (F := F0) (.lst [V.non]) hq0).dom _ hl
      refine LcQ.mk hD (g1.keep _ _ e id) el (Nat.lt_of_lt_of_le (show i < 3 by omega) (by decide)) (fr.trans g1) ⟨ll ++ [l], by simp, ?_, ?_, ?_⟩
      · refine List.nodup_append.mpr ⟨nd, by simp, fun c hc c' hc' => ?_⟩
        simp only [List.mem_singleton] at hc'
        subst hc'
        obtain ⟨j, hj⟩ := List.mem_iff_getElem?.mp hc
        obtain ⟨_, q', _, h2⟩ := hll j c hj
        exact ne_of_none h2 hl1
      · rw [List.mem_append, List.mem_singleton]
        rintro (h | h)
        · exact nD h
        · rw [h] at e; rw [hl1] at e; cases e
      · intro j c hc
        have hcD : c ≠ D := by
          rintro rfl
          have := List.mem_of_getElem? hc
          rw [List.mem_append, List.mem_singleton] at this
          rcases this with h | h
          · exact nD h
          · rw [h] at e; rw [hl1] at e; cases e
        rw [upd_ne hcD]
        rcases Nat.lt_or_ge j ll.length with hjl | hjl
        · rw [List.getElem?_append_left hjl] at hc
          obtain ⟨h1, q', h2, h3⟩ := hll j c hc
          exact ⟨h1, q', h2, g1.keep _ _ h3 id⟩
        · rw [List.getElem?_append_right hjl] at hc
          have el' : ll.length = i := by simpa using el
          have : j - ll.length = 0 := by
            rcases Nat.eq_zero_or_pos (j - ll.length) with h | h
            · exact h
            · rw [List.getElem?_eq_none (show [l].length ≤ j - ll.length from h)] at hc; cases hc
          rw [this] at hc
          cases hc
          have ej : j = i := by omega
          subst ej
          refine ⟨fr.dom _ hl1, q, hq, ?_⟩
          rw [upd_same, List.map_replicate]; rfl
    · rintro D acc H1 hD el fr ⟨ll, rfl, nd, nD, hll⟩ e
      have hlen : ll.length = d.pols.length := by rw [← hpl]; simpa using el
      have o7 := fr.keep _ _ o6 id
      refine ⟨_, _, _, o7, bk.c, bk.rows, by show (3 : Nat) < 1000; decide, ?_⟩
      rw [pf4]
      have f8 : Fr (· = p) H1 (upd H1 p (.ins B dx (bxF d pt ls D))) := Fr.setI _ o7 rfl
      have npD : D ≠ p := ne_of e o7 (fun z => nomatch z)
      have nl : ∀ c ∈ ll, H6 c = none := fun c hc => by
        obtain ⟨j, hj⟩ := List.mem_iff_getElem?.mp hc
        exact (hll j c hj).1
      have nlp : ∀ c ∈ ll, c ≠ p := fun c hc => (ne_of_none o6 (nl c hc)).symm
      have f9 : Fr (· = p) H (upd H1 p (.ins B dx (bxF d pt ls D))) := (f6.trans fr.any).trans f8
      refine k _ ls D ll ⟨⟨dx, pt, upd_same, .tup (f8.tk _ _ (fr.tk _ _ t6)) (tp.up f9.tk)⟩, ?_, ?_, ?_, ?_, nd, ?_, nD, ?_, empty_ok dok, dok⟩ f9 dls (f6.dom _ hD) (fun c hc => f6.dom _ (nl c hc))
      · rw [upd_ne (Ne.symm nls), fr.keep _ _ s6 id, hpl, show numV (empty d : Bx Nm).st = List.replicate d.pols.length (V.int 0) by simp [empty, numV]]
      · rw [upd_ne npD]; exact e
      · simp [empty, hlen]
      · intro i c r hc hr'
        obtain ⟨_, q, hq, h3⟩ := hll i c hc
        rw [upd_ne (nlp c (List.mem_of_getElem? hc)), h3]
        have : r = List.replicate q.lines none := by
          simp only [empty, List.getElem?_map, hq, Option.map_some, Option.some.injEq] at hr'
          exact hr'.symm
        rw [this]
      · exact fun hc => by have := nl ls hc; rw [s6] at this; cases this
      · exact fun z => by rw [z, hD] at s6; cases s6
end
end K53
end
section
set_option Elab.async false
set_option linter.all false
set_option maxRecDepth 100000
set_option maxHeartbeats 4000000
set_option pp.maxSteps 2500
namespace K53
open PySem PySem.Spec PyProof.Rows L2
local macro_rules | `(tactic| walk_at "rd") => `(tactic| (
  try dsimp only [tSeq, tIfS, tOr, tAnd, tNot, tNotV, tAndV, tOrV, tB, tCB, tCons, tNil, tVar, tC, tTest, tChain, tRet, tRetN, tNext, tOp, rI0, rI, tAsg, gName, tDrop, tIf, tTup, tLst, tFld, tUn, rU, tCall, tMeth, tMake, tProp, iStr, iTup, iList, iRng1, iRng2, iEnumT,
    tPar, tPar3, gTup, gCons, gNil, gSub, gUnl, rSetL, rIxL, rIxT, rAppend, rExtend, tBM, tBM0, sFld, sFldAug, tSl, tPart, tNoPart, rSlL, rSlA, rSlT, tAug, ipI, t2I, rEq, rNe, scal, List.append_nil, List.cons_append, List.nil_append, List.getElem?_cons_zero, List.getElem?_cons_succ, List.set_cons_zero, List.set_cons_succ,
    List.map_cons, List.map_nil]
  try simp only [Option.some.injEq, exists_eq_left', exists_eq_left, exists_eq_right, exists_eq', V.int.injEq, V.str.injEq, V.bl.injEq, V.ref.injEq, List.cons.injEq, and_true, true_and, and_assoc, exists_and_left, exists_const, Bool.not_true, Bool.not_false, Bool.false_eq_true, if_true, if_false, ite_true, ite_false, decide_true, decide_false, reduceCtorEq, false_and, false_or, or_false, List.cons_ne_nil, exists_false, List.length_cons, List.length_nil, Nat.reduceAdd, Nat.zero_add, Int.cast_ofNat_Int, Int.reduceEq, Int.reduceLT, Int.reduceLE, Int.reduceAdd, Int.reduceSub, at0, at1, at2, eq_self, List.reverse_cons, List.reverse_nil]))

local macro_rules | `(tactic| walk_at "fd") => `(tactic| (
  repeat (first
    | (apply And.intro
       · first
         | assumption
         | exact sqT (by assumption)
         | exact sqL (by assumption)
         | exact .inl (sqL (by assumption))
         | exact .inr (sqT (by assumption))
         | exact atI_nat (by assumption)
         | exact at0
         | exact at1
         | exact at2
         | exact bxF_rows _ _ _ _
         | exact bxF_stages _ _ _ _
         | exact bxF_pols _ _ _ _
         | exact bxF_mode _ _ _ _
         | exact bxF_told _ _ _ _
         | exact bxF_holds _ _ _ _
         | exact bxF_touch _ _ _ _
         | exact bxF_fill _ _ _ _
         | exact bxF_ask _ _ _ _
         | exact bxF_go_down _ _ _ _
         | exact bxF_moment _ _ _ _
         | exact BK.c (by assumption)
         | exact BK.rows (by assumption)
         | exact BK.stages (by assumption)
         | exact BK.policies (by assumption)
         | exact BK.mode (by assumption)
         | rfl)
    | with_reducible apply Exists.intro)))

theorem Fr.after {F : Addr → Prop} {H H1 H2 : Hp} (a : Fr F0 H H1) (b : Fr F H1 H2) (h : ∀ c, F c → H c = none) : Fr F0 H H2 :=
  ⟨fun c o e _ => b.keep c o (a.keep c o e id) fun z => (by rw [h c z] at e; cases e), a.tk.trans b.tk, fun c e => a.dom c (b.dom c e)⟩
theorem fr_make {H : Hp} {x dx : Addr} {o1 o2 : HO} (hx : H x = none) (hd : H dx = none) (ne : dx ≠ x) : Fr F0 H (upd (upd H dx o1) x o2) :=
  (Fr.new _ hd).trans (Fr.new _ (by rw [upd_ne (Ne.symm ne)]; exact hx))
theorem nodup_set {α : Type} : ∀ {l : List α} {i : Nat} {x : α}, l.Nodup → x ∉ l → (l.set i x).Nodup
  | [], _, _, _, _ => List.nodup_nil
  | a :: l, 0, x, h, n => by
    rw [List.set_cons_zero]
    rw [List.nodup_cons] at h ⊢
    exact ⟨fun z => n (List.mem_cons_of_mem _ z), h.2⟩
  | a :: l, i + 1, x, h, n => by
    rw [List.set_cons_succ]
    rw [List.nodup_cons] at h ⊢
    refine ⟨fun z => ?_, nodup_set h.2 fun z => n (List.mem_cons_of_mem _ z)⟩
    rcases List.mem_or_eq_of_mem_set z with z | z
    · exact h.1 z
    · exact n (by rw [z]; exact List.mem_cons_self)
theorem cutV_nat {xs : List V} {a n : Nat} (h : a + n ≤ xs.length) : cutV xs (some (a : Int)) (some ((a : Int) + (n : Int))) = (xs.drop a).take n := by
  unfold cutV
  rw [HT.sIx_nat, show (a : Int) + (n : Int) = ((a + n : Nat) : Int) by omega, HT.sIx_nat, show min a xs.length = a by omega, show min (a + n) xs.length = a + n by omega]
  congr 1
  omega
def rSlN : V → Option Int → Option Int → Hp → VK → Prop := fun x lo hi H Q => ∃ a xs, x = .ref a ∧ H a = some (.tup xs) ∧ ∀ q H', Fr F0 H H' → H' q = some (.tup (cutV xs lo hi)) → Q (.ref q) H'
theorem sl_tupN {X : Cx} : SlR X rSlN := by
  intro pins s σ H x v vl vu lo hi sl Q I rx hs pl pu h
  obtain ⟨a, xs, rfl, e, k⟩ := h
  refine sl_tupA pins s σ H _ v vl vu lo hi sl Q I rx hs pl pu ⟨a, xs, rfl, sqT e, fun z => k a H (Fr.refl _ _) ?_, fun z q hq => k q _ (Fr.new _ hq) upd_same⟩
  rw [e]
  unfold cutV
  rw [z.1, z.2, List.drop_zero, Nat.sub_zero, List.take_length]
theorem flat_at_ {α : Type} {rws : List (List α)} {i : Nat} {r : List α} (h : rws[i]? = some r) : (rws.flatten.drop (rws.take i).flatten.length).take r.length = r ∧ (rws.take i).flatten.length + r.length ≤ rws.flatten.length ∧ (rws.take (i + 1)).flatten.length = (rws.take i).flatten.length + r.length := by
  have hi := (List.getElem?_eq_some_iff.mp h).1
  have e : rws.flatten = (rws.take i).flatten ++ (r ++ (rws.drop (i + 1)).flatten) := by
    have h2 : rws.flatten = (rws.take i).flatten ++ (rws.drop i).flatten := by rw [← List.flatten_append, List.take_append_drop]
    have h3 : (rws.drop i).flatten = r ++ (rws.drop (i + 1)).flatten := by
      rw [List.drop_eq_getElem_cons hi, (List.getElem?_eq_some_iff.mp h).2]; rfl
    rw [h2, h3]
  refine ⟨?_, ?_, ?_⟩
  · rw [e, List.drop_left, List.take_left]
  · rw [e]; simp only [List.length_append]; omega
  · rw [List.take_succ, h, List.flatten_append]; simp
section
variable {P : Program} {w : World} {K : PySem.W.Frag} {mg : Str → Option Value} {base : Heap} {B : Addr}
abbrev sBoxAt : Stmt := (top 21)
abbrev sBoxAtN : List Str := ["device", "states", "contents", "box", "start", "level", "policy"]
theorem sBoxAtS : FnScope sBoxAtN ["device", "states", "contents"] (defScope sBoxAt) := ⟨rfl, rfl, rfl, by decide +kernel, rfl, by decide +kernel, by decide +kernel⟩
def spBoxAt (B : Addr) : Sp := fun vs H Q _ => ∃ (v sv cv : V) (d : Dev) (b : Bx Nm), vs = [v, sv, cv] ∧ TN H v (devK d) ∧ DevOk d ∧ BxOk d b ∧ TN H sv (.tup (nums b.st)) ∧ TN H cv (.tup (b.rw.flatten.map optK)) ∧
  ∀ H' p ls lr ll, BoxAt B H' p d b ls lr ll → Fr F0 H H' → H p = none → H ls = none → H lr = none → (∀ a ∈ ll, H a = none) → Q (.ref p) H'
theorem optKs_inv {H : Hp} : ∀ {vs : List V} {l : List (Option Nm)}, TNs H vs (l.map optK) → vs = l.map ov
  | [], [], _ => rfl
  | [], _ :: _, h => by cases h
  | _ :: _, [], h => by cases h
  | v :: vs, o :: l, h => by
    cases h with | cons a b =>
    rw [optKs_inv b]
    cases o with
    | none => rw [TN.none_inv a]; rfl
    | some x => rw [TN.text_inv a]; rfl
theorem ok_box_at {f : Addr} {fd : FuncData} (F : Fun K "box_at" "box_at" sBoxAt f fd) (Bb : Bi mg) (bk : BK K B) (D_Box : CDef P w K mg base B "Box" ["self", "device"] 1 (spBInit B)) : FnOk P w K mg base CX0 3 f fd ["device", "states", "contents"] (spBoxAt B) := by
  refine F.ok sBoxAtS (fun vs H Q E h => ?_) (fun cdv A outer s H vs Q E hr h => ?_)
  · obtain ⟨v, sv, cv, d, b, rfl, _⟩ := h
    rfl
  · obtain ⟨v, sv, cv, d, b, rfl, tv, dok, bok, ts, tc, k⟩ := h
    obtain ⟨a, ps, rfl, ea, tp⟩ := dev_inv tv
    obtain ⟨sa, ss, rfl, es, ts'⟩ := ts.tup_inv
    obtain ⟨ca, cs, rfl, ec, tc'⟩ := tc.tup_inv
    have ess := nums_inv ts'
    have ecs := optKs_inv tc'
    subst ess
    subst ecs
    have hpl : ps.length = d.pols.length := by rw [tp.length, List.length_map]
    refine ⟨_, (pss_cons (ps_par (i := 3) (j := 4) (by rfl) sBoxAtS.nd rfl rfl (by decide) rfl rfl (pa_cons (pe_cdef D_Box (hr.mono (by decide)) (by rfl) (pa_cons (pv 0) pa_nil)) (pa_cons pe_int pa_nil)) (by rfl))
      (pss_cons (ps_fld (pv 3) (pe_callTy (T := "list") call_list_of (by rfl) Bb.list (by decide +kernel) (pa_cons (pv 1) pa_nil)) rfl)
      (pss_cons (ps_for PassesOwn.never rfl (pi_enumT (by rfl) Bb.enumerate (pa_cons (pe_slice sl_tup (pv 0) (po_some pe_int) po_none) pa_nil)) (pg_tup rfl (pgs_cons (pg_name (i := 5) sBoxAtS.nd rfl (Or.inl rfl)) (pgs_cons (pg_name (i := 6) sBoxAtS.nd rfl (Or.inl rfl)) pgs_nil))) (pss_cons (ps_asg (pe_callTy (T := "list") call_list_of (by rfl) Bb.list (by decide +kernel) (pa_cons (pe_slice sl_tupN (pv 2) (po_some (pv 4)) (po_some (pe_op op_add (pv 4) (pe_ix ix_tup (pv 6) pe_int (fun _ _ => rfl))))) pa_nil)) (pg_sub (pe_fld (pv 3) rfl) (pv 5) set_list))
      (pss_one (ps_aug (i := 4) sBoxAtS.nd rfl (Or.inl rfl) (pe_ix ix_tup (pv 6) pe_int (fun _ _ => rfl)) ip_add))))
      (pss_one (ps_ret (pv 3)))))), ?_⟩
    rw [show L2.start sBoxAtN [.ref a, .ref sa, .ref ca] = [some (.ref a), some (.ref sa), some (.ref ca), none, none, none, none] from rfl]
    walk_at "rd"
    intro p dx hp hdx ne
    have f0 : Fr F0 H (upd (upd H dx (.own p)) p (.ins B dx [])) := fr_make hp hdx ne
    refine ⟨p, dx, .ref a, d, rfl, upd_same, tv.up f0.tk, dok, fun H1 ls0 lr ll0 ba1 f1 hls0 hlr hll0 => ?_⟩
    have f1' : Fr F0 H H1 := f0.after f1 fun c z => by rw [z]; exact hp
    obtain ⟨⟨dx', pt, o1, tp1⟩, _, r1, ln1, li1, nd1, n11, n21, n31, _, _⟩ := ba1
    have hll1 : ∀ c ∈ ll0, H c = none ∧ ∃ xs, H1 c = some (.lst xs) := fun c hc => by
      obtain ⟨j, hj⟩ := List.mem_iff_getElem?.mp hc
      have hjl : j < (empty d : Bx Nm).rw.length := by rw [← ln1]; exact (List.getElem?_eq_some_iff.mp hj).1
      exact ⟨f0.dom _ (hll0 c hc), _, li1 j c _ hj (List.getElem?_eq_getElem hjl)⟩
    have hlr' := f0.dom _ hlr
    have hln0 : ll0.length = d.pols.length := by rw [ln1]; simp [empty]
    walk_at "rd"
    refine ⟨_, .inr (f1'.seqT es), fun ls hls => ?_⟩
    have hls' := f1'.dom _ hls
    have g2 : Fr F0 H1 (upd H1 ls (.lst (numV b.st))) := Fr.new _ hls
    have s2 : upd H1 ls (.lst (numV b.st)) ls = _ := upd_same
    generalize upd H1 ls (.lst (numV b.st)) = H2 at g2 s2 ⊢
    have o2 := g2.keep _ _ o1 id
    refine ⟨_, _, _, o2, bk.c, bk.stages, by show (4 : Nat) < 1000; decide, ?_⟩
    rw [pf5]
    have nlsp : ls ≠ p := ne_of s2 o2 (fun z => nomatch z)
    have nlrp : lr ≠ p := ne_of r1 o1 (fun z => nomatch z)
    have g3 : Fr (· = p) H2 (upd H2 p (.ins B dx' (bxF d pt ls lr))) := Fr.setI _ o2 rfl
    have o3 : upd H2 p (.ins B dx' (bxF d pt ls lr)) p = _ := upd_same
    generalize upd H2 p (.ins B dx' (bxF d pt ls lr)) = H3 at g3 o3 ⊢
    have s3 := g3.keep _ _ s2 nlsp
    have r3 := g3.keep _ _ (g2.keep _ _ r1 id) nlrp
    have tp3 := (tp1.up g2.tk).up g3.tk
    have f3 : Fr F0 H H3 := (f1'.trans g2).after g3 fun c z => by rw [z]; exact hp
    have hll3 : ∀ c ∈ ll0, H c = none ∧ ∃ xs, H3 c = some (.lst xs) := fun c hc => by
      obtain ⟨h1, xs, h2⟩ := hll1 c hc
      exact ⟨h1, xs, g3.keep _ _ (g2.keep _ _ h2 id) (ne_of h2 o1 (fun z => nomatch z))⟩
    have n1 : ls ∉ ll0 := fun hc => by obtain ⟨_, xs, h2⟩ := hll1 ls hc; rw [hls] at h2; cases h2
    have n3 : ls ≠ lr := fun z => by rw [z] at hls; rw [hls] at r1; cases r1
    refine ⟨.ref a, rfl, 1, rfl, a, _, rfl, f3.seqT ea, cut1n, fun q0 hq0 => ?_⟩
    rw [cut1]
    have g4 : Fr F0 H3 (upd H3 q0 (.tup ps)) := Fr.new _ hq0
    have q4 : upd H3 q0 (.tup ps) q0 = _ := upd_same
    generalize upd H3 q0 (.tup ps) = H4 at g4 q4 ⊢
    refine ⟨q0, _, rfl, sqT q4, for_enumT (xs := ps) (fun i σ H' => ∃ (x y : Option V) (ll : List Addr), σ = [some (.ref a), some (.ref sa), some (.ref ca), some (.ref p), some (.int (((b.rw.take i).flatten.length : Nat) : Int)), x, y] ∧ Fr F0 H H' ∧ H' q0 = some (.tup ps) ∧ H' p = some (.ins B dx' (bxF d pt ls lr)) ∧
      TN H' (.ref pt) (.tup (d.pols.map polK)) ∧ H' ls = some (.lst (numV b.st)) ∧ H' lr = some (.lst (ll.map V.ref)) ∧ ll.length = d.pols.length ∧ ll.Nodup ∧ ls ∉ ll ∧ lr ∉ ll ∧ (∀ c ∈ ll, H c = none ∧ ∃ xs, H' c = some (.lst xs)) ∧
      ∀ (j : Nat) (c : Addr) (r : List (Option Nm)), j < i → ll[j]? = some c → b.rw[j]? = some r → H' c = some (.lst (r.map ov))) ?_ (fun i σ H2 _ ⟨_, _, _, _, _, h, _⟩ => h) ?_ ?_⟩
    · refine ⟨none, none, ll0, rfl, f3.trans g4, q4, g4.keep _ _ o3 id, tp3.up g4.tk, g4.keep _ _ s3 id, g4.keep _ _ r3 id, hln0, nd1, n1, n21, fun c hc => ?_, fun j c r h => by omega⟩
      obtain ⟨h1, xs, h2⟩ := hll3 c hc
      exact ⟨h1, xs, g4.keep _ _ h2 id⟩
    · rintro i x T σ H5 hx ⟨u, v, ll, rfl, f5, q5, o5, tp5, s5, r5, hln, nd, n1, n2, hll, hdone⟩ hT
      obtain ⟨kk, hk, tk⟩ := tp.getV hx
      obtain ⟨q, hq, rfl⟩ := mapGet hk
      have hi : i < d.pols.length := (List.getElem?_eq_some_iff.mp hq).1
      obtain ⟨r, hr', hrl⟩ := bok.r i q hq
      obtain ⟨a1, a2, rs, rfl, ea1, ea2, trs⟩ := pol_inv (tk.up f5.tk)
      refine ⟨T, _, rfl, sqT upd_same, rfl, _, _, rfl, _, _, rfl, rfl, ?_⟩
      have g6 : Fr F0 H5 (upd H5 T (.tup [.int (i : Int), .ref a1])) := Fr.new _ hT
      generalize upd H5 T (.tup [.int (i : Int), .ref a1]) = H6 at g6 ⊢
      walk_at "rd"
      obtain ⟨hc1, hc2, hc3⟩ := flat_at_ hr'
      refine ⟨_, sqT (g6.tk _ _ ea1), _, at0, _, rfl, ca, _, rfl, (f5.trans g6).tk _ _ ec, fun qc H7 g7 e7 => ?_⟩
      rw [cutV_nat (by rw [List.length_map, ← hrl]; exact hc2), ← List.map_drop, ← List.map_take, ← hrl, hc1] at e7
      refine ⟨qc, rfl, _, .inr (sqT e7), fun l' hl' => ?_⟩
      have g8 : Fr F0 H7 (upd H7 l' (.lst (r.map ov))) := Fr.new _ hl'
      have e8 : upd H7 l' (.lst (r.map ov)) l' = _ := upd_same
      generalize upd H7 l' (.lst (r.map ov)) = H8 at g8 e8 ⊢
      have g58 : Fr F0 H5 H8 := (g6.trans g7).trans g8
      have g57 : Fr F0 H5 H7 := g6.trans g7
      have o8 := g58.keep _ _ o5 id
      have r8 := g58.keep _ _ r5 id
      refine ⟨_, _, _, o8, bk.c, bk.rows, _, bxF_rows _ _ _ _, _, rfl, _, r8, _, ixN_nat (by rw [List.length_map, hln]; exact hi), ?_⟩
      rw [show (ll.map V.ref).set i (.ref l') = (ll.set i l').map V.ref by simp [List.map_set]]
      have g9 : Fr (· = lr) H8 (upd H8 lr (.lst ((ll.set i l').map V.ref))) := Fr.setL _ r8 rfl
      have e9 : upd H8 lr (.lst ((ll.set i l').map V.ref)) lr = _ := upd_same
      generalize upd H8 lr (.lst ((ll.set i l').map V.ref)) = H9 at g9 e9 ⊢
      have hl'ne : ∀ c o, H5 c = some o → c ≠ l' := fun c o h z => by rw [z] at h; have := g57.keep _ _ h id; rw [hl'] at this; cases this
      have hl'll : l' ∉ ll := fun hc => by obtain ⟨_, xs, h⟩ := hll l' hc; exact hl'ne _ _ h rfl
      have hl'lr : l' ≠ lr := fun z => hl'ne _ _ r5 z.symm
      refine ⟨_, sqT (g9.tk _ _ (g58.tk _ _ ea1)), _, at0, _, rfl, ?_⟩
      refine ⟨?_, (f5.trans g58).after g9 (fun c z => by rw [z]; exact hlr'), g9.tk _ _ (g58.tk _ _ q5), g9.keep _ _ o8 (fun z => nlrp z.symm), (tp5.up g58.tk).up g9.tk, g9.keep _ _ (g58.keep _ _ s5 id) n3, ll.set i l', e9, by rw [List.length_set]; exact hln,
        nodup_set nd hl'll, fun z => ?_, fun z => ?_, fun c hc => ?_, fun j c r' hj hc hr2 => ?_⟩
      · rw [hc3, hrl]; rfl
      · rcases List.mem_or_eq_of_mem_set z with z | z
        · exact n1 z
        · exact hl'ne _ _ s5 z
      · rcases List.mem_or_eq_of_mem_set z with z | z
        · exact n2 z
        · exact hl'lr z.symm
      · rcases List.mem_or_eq_of_mem_set hc with z | z
        · obtain ⟨h1, xs, h2⟩ := hll c z
          exact ⟨h1, xs, g9.keep _ _ (g58.keep _ _ h2 id) fun y => n2 (y ▸ z)⟩
        · rw [z]
          exact ⟨(f5.trans g57).dom _ hl', _, g9.keep _ _ e8 hl'lr⟩
      · rcases set_get hc with ⟨rfl, rfl, _⟩ | ⟨hne, hc'⟩
        · rw [hr'] at hr2
          cases hr2
          exact g9.keep _ _ e8 hl'lr
        · have h2 := hdone j c r' (by omega) hc' hr2
          exact g9.keep _ _ (g58.keep _ _ h2 id) fun y => n2 (y ▸ List.mem_of_getElem? hc')
    · rintro σ H5 ⟨u, v, ll, rfl, f5, q5, o5, tp5, s5, r5, hln, nd, n1, n2, hll, hdone⟩
      refine ⟨_, rfl, k _ p ls lr ll ⟨⟨dx', pt, o5, tp5⟩, s5, r5, by rw [hln, bok.rl], fun i c r hc hr' => hdone i c r ?_ hc hr', nd, n1, n2, n3, bok, dok⟩ f5 hp hls' hlr' fun c hc => (hll c hc).1⟩
      rw [hpl, ← hln]
      exact (List.getElem?_eq_some_iff.mp hc).1
end
end K53
end
section
set_option Elab.async false
set_option linter.all false
set_option maxRecDepth 100000
set_option maxHeartbeats 4000000
namespace K53
open PySem PySem.Spec PyProof.Rows L2

/-! ### a tuple of truth values made by tuple(list), and its .count(False) -/
def bTupP (bs : List Bool) (a : Addr) (h : Heap) : Prop := ∃ its : List Value, Vals (bs.map V.bl) its ∧ h.get? a = some { cls := .type "tuple", data := .seq its.toArray }
def bTupO (a : Addr) (bs : List Bool) : HO := .ext (bTupP bs a)
section
variable {X : Cx}
theorem bTup_ok {P : Program} {w : World} {H : Hp} {h : Heap} {a : Addr} {bs : List Bool} (x : bTupP bs a h) : ObjOk P w H h a (bTupO a bs) :=
  ⟨x, let ⟨_, _, e⟩ := x; ⟨_, e⟩, fun _ _ ⟨its, r, e⟩ k => ⟨its, r, k _ e⟩⟩
theorem call_tupleB : CallR X (.type "tuple") (fun xs H Q => ∃ p bs, xs = [.ref p] ∧ SqL X.K H p (bs.map V.bl) ∧ ∀ l, H l = none → Q (.ref l) (upd H l (bTupO l bs))) := by
  intro pins s σ H xs us Q I r h
  obtain ⟨p, bs, rfl, hq, q⟩ := h
  obtain ⟨u, rfl, rx⟩ := vals1 r
  cases rx
  obtain ⟨its, r', pl, hz⟩ := I.list hq
  have hlen := r'.length
  refine call_tuple_list pl.isList (fun h' kp => ?_) (by simp only [List.size_toArray] <;> omega)
  have I1 : Inv X pins σ H { s with heap := h' } := I.kept (t' := s.toks) kp
  have I2 : Inv X pins σ (upd H h'.objs.size (bTupO h'.objs.size bs)) { s with heap := h'.push { cls := .type "tuple", data := .seq its.toArray } } :=
    I1.laid (t' := s.toks) (fun b o e => Heap.get?_push_of_some _ e) (Nat.le_refl _) (bTup_ok ⟨its, r', Heap.get?_push_size _ rfl⟩)
  exact ⟨.ref h'.objs.size, _, I2, rfl, q _ (I1.hok.fresh (Nat.le_refl _))⟩
def tBCnt (to : TE) (t : TA) : TE := fun σ H Q => to σ H fun x H1 => ∃ a bs, x = .ref a ∧ H1 a = some (bTupO a bs) ∧ t σ H1 fun xs H2 => xs = [.bl false] ∧ H2 a = some (bTupO a bs) ∧ Q (.int (bs.count false : Nat)) H2
theorem pe_bcnt {o e : Expr} {es : List Expr} {to : TE} {t : TA} {apos cpos : Pos} (ho : PE X o to) (ha : PA X (e :: es) t)
    (hbase : attributeBase o "count" X.env (eval o X.env) = eval o X.env := by rfl)
    (hfew : ((backTo cpos (starEach (e :: es) X.env)).all (fun x => !x.1) && (backToKw cpos (keywordEach [] X.env)).all (fun x => x.1.isSome)
      && decide ((e :: es).length + ([] : List Keyword).length + (if ([] : List Keyword).isEmpty then 0 else 1) < 30)) = true := by rfl)
    (hline : (apos.endLine == cpos.line) = true := by rfl) (hs : starEach (e :: es) X.env = (false, eval e X.env) :: starEach es X.env := by rfl) (hplain : (backTo cpos (starEach es X.env)).any (·.1) = false := by rfl) :
    PE X (.Call (.Attribute o "count" apos) (e :: es) [] cpos) (tBCnt to t) := by
  refine ⟨fun pins s σ H Q I h => ?_⟩
  refine wpAny_Call_method_late hbase hfew hline rfl (thn (ho.run pins s σ H _ I h) fun v s1 ⟨x, H1, I1, r1, a, bs, ex, e1, q1⟩ => ?_)
  subst ex
  cases r1
  obtain ⟨⟨its, rv, hg⟩, _, _⟩ := (show ObjOk X.prog X.w H1 s1.heap a (.ext (bTupP bs a)) from I1.hok a _ e1)
  refine ⟨"tuple", "tuple.count", PySem.F.plainAttrs_tuple, PySem.F.slot_tuple_count, PySem.F.type_tuple_count, ⟨_, hg, rfl⟩, fun b eb => by cases eb; exact ⟨_, hg, rfl⟩, ?_⟩
  have hA := ha.run cpos pins s1 σ H1 _ I1 q1
  rw [hs] at hA ⊢
  refine Calls.callWith_builtin (by show (false || (backTo cpos (starEach es X.env)).any (·.1)) = false; rw [hplain] <;> rfl) (Calls.evalArgs_plain ?_)
  refine thn hA fun us s2 ⟨vs, H2, I2, r2, ev, e2, q2⟩ => ?_
  subst ev
  obtain ⟨⟨its2, rv2, hg2⟩, _, _⟩ := (show ObjOk X.prog X.w H2 s2.heap a (.ext (bTupP bs a)) from I2.hok a _ e2)
  obtain ⟨u, rfl, ru⟩ := r2.one
  obtain rfl : u = Value.bool false := ru
  refine call_meets PySem.F.slot_tuple_count ⟨_, hg2, rfl⟩ PySem.F.entry_tuple_count (PySem.F.args_tuple_count_2 _ _)
    (SeqAt.tuple_countAt a its2.toArray _ _ _ (.bool false) isF) ⟨hg2, fun y hy => ?_, ?_⟩
  · obtain ⟨b, rfl⟩ := vals_bool rv2 y (by simpa using hy)
    exact isF_at
  have ec : its2.toArray.toList.countP isF = bs.count false := count_isF rv2
  refine ⟨.int (bs.count false : Nat), H2, I2.tok _, ⟨s2.toks, ?_⟩, q2⟩
  show Value.int ((its2.toArray.toList.countP isF : Nat) : Int) s2.toks = Value.int ((bs.count false : Nat) : Int) s2.toks
  rw [ec]
end
end K53
end
section
set_option Elab.async false
set_option linter.all false
set_option maxRecDepth 100000
set_option maxHeartbeats 4000000
set_option pp.maxSteps 2500
namespace K53
open PySem PySem.Spec PyProof.Rows L2
local macro_rules | `(tactic| walk_at "rd") => `(tactic| (
  try dsimp only [tSeq, tIfS, tOr, tAnd, tNot, tNotV, tAndV, tOrV, tB, tCB, tCons, tNil, tVar, tC, tTest, tChain, tRet, tRetN, tNext, tOp, rI0, rI, tAsg, gName, tDrop, tIf, tTup, tLst, tFld, tUn, rU, tCall, tMeth, tMake, tProp, iStr, iTup, iList, iRng1, iRng2, iEnumT,
    tPar, tPar3, gTup, gCons, gNil, gSub, gUnl, rSetL, rIxL, rIxT, rAppend, rExtend, tBM, tBM0, sFld, sFldAug, tSl, tPart, tNoPart, rSlL, rSlA, rSlT, tAug, ipI, t2I, rEq, rNe, scal, List.append_nil, List.cons_append, List.nil_append, List.getElem?_cons_zero, List.getElem?_cons_succ, List.set_cons_zero, List.set_cons_succ,
    List.map_cons, List.map_nil]
  try simp only [Option.some.injEq, exists_eq_left', exists_eq_left, exists_eq_right, exists_eq', V.int.injEq, V.str.injEq, V.bl.injEq, V.ref.injEq, List.cons.injEq, and_true, true_and, and_assoc, exists_and_left, exists_const, Bool.not_true, Bool.not_false, Bool.false_eq_true, if_true, if_false, ite_true, ite_false, decide_true, decide_false, reduceCtorEq, false_and, false_or, or_false, List.cons_ne_nil, exists_false, List.length_cons, List.length_nil, Nat.reduceAdd, Nat.zero_add, Int.cast_ofNat_Int, Int.reduceEq, Int.reduceLT, Int.reduceLE, Int.reduceAdd, Int.reduceSub, at0, at1, at2, eq_self, List.reverse_cons, List.reverse_nil]))

local macro_rules | `(tactic| walk_at "fd") => `(tactic| (
  repeat (first
    | (apply And.intro
       · first
         | assumption
         | exact sqT (by assumption)
         | exact sqL (by assumption)
         | exact .inl (sqL (by assumption))
         | exact .inr (sqT (by assumption))
         | exact atI_nat (by assumption)
         | exact at0
         | exact at1
         | exact at2
         | exact bxF_rows _ _ _ _
         | exact bxF_stages _ _ _ _
         | exact bxF_pols _ _ _ _
         | exact bxF_mode _ _ _ _
         | exact bxF_told _ _ _ _
         | exact bxF_holds _ _ _ _
         | exact bxF_touch _ _ _ _
         | exact bxF_fill _ _ _ _
         | exact bxF_ask _ _ _ _
         | exact bxF_go_down _ _ _ _
         | exact bxF_moment _ _ _ _
         | exact BK.c (by assumption)
         | exact BK.rows (by assumption)
         | exact BK.stages (by assumption)
         | exact BK.policies (by assumption)
         | exact BK.mode (by assumption)
         | rfl)
    | with_reducible apply Exists.intro)))

section
variable {P : Program} {w : World} {K : PySem.W.Frag} {mg : Str → Option Value} {base : Heap} {B : Addr}
theorem runA_append (d : Dev) : ∀ (xs ys : List Nm) (b : Bx Nm), runA d b (xs ++ ys) = runA d b xs ++ runA d (runB d b xs) ys
  | [], _, _ => rfl
  | x :: xs, ys, b => by rw [List.cons_append, runA, runA, runB, runA_append d xs ys, List.cons_append]
theorem BoxAt.new {H : Hp} {p : Addr} {d : Dev} {b : Bx Nm} {ls lr : Addr} {ll : List Addr} (x : BoxAt B H p d b ls lr ll) {D : Addr} (o : HO) (h : H D = none) : BoxAt B (upd H D o) p d b ls lr ll := x.up0 (Fr.new _ h)
theorem BoxAt.dom {H H1 : Hp} {p : Addr} {d : Dev} {b : Bx Nm} {ls lr : Addr} {ll : List Addr} (x : BoxAt B H p d b ls lr ll) {D : Addr} (h : H D = none) : D ≠ p ∧ ¬ FB ls ll D ∧ D ≠ ls ∧ D ≠ lr ∧ D ∉ ll := by
  obtain ⟨dx, pt, ob, _⟩ := x.ob
  have h1 : D ≠ p := fun z => by rw [z, ob] at h; cases h
  have h2 : D ≠ ls := fun z => by rw [z, x.st] at h; cases h
  have h3 : D ≠ lr := fun z => by rw [z, x.rw] at h; cases h
  have h4 : D ∉ ll := fun z => by
    obtain ⟨j, hj⟩ := List.mem_iff_getElem?.mp z
    have hjl : j < b.rw.length := by rw [← x.ln]; exact (List.getElem?_eq_some_iff.mp hj).1
    have := x.li j D _ hj (List.getElem?_eq_getElem hjl)
    rw [h] at this; cases this
  exact ⟨h1, fun z => z.elim h2 h4, h2, h3, h4⟩
/-- a list of ours grows: the box stays -/
theorem BoxAt.own {H H1 : Hp} {p : Addr} {d : Dev} {b b1 : Bx Nm} {ls lr : Addr} {ll : List Addr} (x : BoxAt B H p d b ls lr ll) {D : Addr} {xs : List V} (o : HO) (h : H D = none) (y : BoxAt B H1 p d b1 ls lr ll) (e : H1 D = some (.lst xs)) : BoxAt B (upd H1 D o) p d b1 ls lr ll := by
  obtain ⟨h1, _, h2, h3, h4⟩ := x.dom (H1 := H) h
  exact y.up (Fr.setL (F := (· = D)) o e rfl) (Ne.symm h1) (Ne.symm h2) (Ne.symm h3) fun c hc z => h4 (z ▸ hc)
theorem ask_all {a : Addr} {r : List Nm} {σ : L2.St} {ib i0 : Nat} {H1 : Hp} {Q : VK} {p : Addr} {d : Dev} {b : Bx Nm} {ls lr : Addr} {ll : List Addr} (ha : H1 a = some (.tup (r.map V.str))) (ba : BoxAt B H1 p d b ls lr ll) (hr : r.length < sizeLine)
    (hb : ∀ x, (σ.set i0 x)[ib]? = some (some (.ref p))) (hx : ∀ x, (σ.set i0 x)[i0]? = some x)
    (k : ∀ D H, BoxAt B H p d (runB d b r) ls lr ll → Fr (FB ls ll) H1 H → H1 D = none → H D = some (.lst ((runA d b r).map V.bl)) → Q (.ref D) H) :
    LcAll (Itt K a) i0 (tMeth B "ask" (spAsk B) [] E0 (tVar ib) (tCons (tVar i0) tNil)) σ Q H1 := by
  refine lc_fr (walk_tup (K := K) (a := a) (xs := r.map V.str)) (FB ls ll) (fun D i acc H' => BoxAt B H' p d (runB d b (r.take i)) ls lr ll ∧ acc = (runA d b (r.take i)).map V.bl)
    (fun _ _ _ _ fr _ => fr.seqT ha) (fun D hD => ⟨ba.new _ hD, rfl⟩) ?_ ?_
  · rintro D i y H2 H3 acc hD hi el fr ⟨b2, rfl⟩ e ⟨rfl, hy⟩
    obtain ⟨x, hx', rfl⟩ := mapGet hy
    obtain ⟨dx, pt, ob, _⟩ := b2.ob
    refine ⟨_, hb _, p, dx, _, rfl, ob, bxF_ask _ _ _ _, _, hx _, p, x, d, _, ls, lr, ll, rfl, b2, fun H4 b4 f4 => ?_⟩
    obtain ⟨n1, n2, n3, n4, n5⟩ := ba.dom (H1 := H1) hD
    have e4 := f4.keep _ _ e n2
    have et : r.take (i + 1) = r.take i ++ [x] := by rw [List.take_succ, hx']; rfl
    refine LcQ.mk hD e4 el ?_ (fr.trans f4) ⟨?_, ?_⟩
    · have : i < r.length := by simpa using hi
      omega
    · rw [et, runB_append]
      exact ba.own (H1 := H4) _ hD b4 e4
    · rw [et, runA_append, List.map_append]; rfl
  · rintro D acc H2 hD el fr ⟨b2, rfl⟩ e
    rw [List.length_map, List.take_length] at b2 e
    exact k D H2 b2 fr hD e
abbrev sAns : Stmt := (top 31)
abbrev sAnsN : List Str := ["device", "names", "box", "name"]
theorem sAnsS : FnScope sAnsN ["device", "names"] (defScope sAns) := ⟨rfl, rfl, rfl, by decide +kernel, rfl, by decide +kernel, by decide +kernel⟩
def spAns : Sp := fun vs H Q _ => ∃ (v : V) (a : Addr) (d : Dev) (r : List Nm), vs = [v, .ref a] ∧ TN H v (devK d) ∧ DevOk d ∧ H a = some (.tup (r.map V.str)) ∧ r.length ≤ 2000 ∧ (∀ x ∈ r, nameOk x) ∧
  ∀ q H', H' q = some (bTupO q (runA d (empty d) r)) → Fr F0 H H' → Q (.ref q) H'
theorem BoxAt.new0 {H H0 : Hp} {p : Addr} {ls lr : Addr} {ll : List Addr} (hp : H p = none) (hls : H ls = none) (hlr : H lr = none) (hll : ∀ a ∈ ll, H a = none) : ∀ c, FB ls ll c → H c = none := fun c z => z.elim (fun z => z ▸ hls) fun z => hll c z
theorem ok_answers {f : Addr} {fd : FuncData} (F : Fun K "answers" "answers" sAns f fd) (Bb : Bi mg) (cB : Cls K B) (D_check_device : Def P w K mg base "check_device" ["device"] 6 spChkDev) (D_check_history : Def P w K mg base "check_history" ["names"] 2 spChkHist)
    (D_Box : CDef P w K mg base B "Box" ["self", "device"] 1 (spBInit B)) (D_ask : MDef P w K mg base B "ask" ["self", "name"] 4 (spAsk B)) : FnOk P w K mg base CX0 7 f fd ["device", "names"] spAns := by
  refine F.ok sAnsS (fun vs H Q E h => ?_) (fun cdv A outer s H vs Q E hr h => ?_)
  · obtain ⟨v, a, d, r, rfl, _⟩ := h
    rfl
  · obtain ⟨v, a, d, r, rfl, tv, dok, ha, hl, hn, k⟩ := h
    refine ⟨_, (pss_cons (ps_expr (pe_def D_check_device (hr.mono (by decide)) (by rfl) (pa_cons (pv 0) pa_nil)))
      (pss_cons (ps_expr (pe_def D_check_history (hr.mono (by decide)) (by rfl) (pa_cons (pv 1) pa_nil)))
      (pss_cons (ps_set (i := 2) sAnsS.nd rfl (Or.inr rfl) (pe_cdef D_Box (hr.mono (by decide)) (by rfl) (pa_cons (pv 0) pa_nil)))
      (pss_one (ps_ret (pe_callTy (T := "tuple") call_tupleB (by rfl) Bb.tuple (by decide +kernel) (pa_cons (pe_lc (own := [("name", 3)]) (g := gName 3) (tt := tYes) rfl sAnsS.nd (pi_tup (pv 1)) (blkOk_by (N := sAnsN) (sc := (defScope sAns)) (by decide +kernel)) (fun _ _ _ _ _ => pg_name (i := 3) sAnsS.nd rfl (Or.inl rfl)) (fun _ _ _ _ _ => pts_nil) (fun _ _ _ _ _ => (pe_mdef (pv 2) cB D_ask (hr.mono (by decide)) (pa_cons (pv 3) pa_nil)))) pa_nil))))))), ?_⟩
    rw [show L2.start sAnsN [v, .ref a] = [some v, some (.ref a), none, none] from rfl]
    walk_at "rd"
    refine ⟨v, d, rfl, tv, dok, fun H1 f1 => ?_⟩
    walk_at "rd"
    refine ⟨a, r, rfl, f1.tk _ _ ha, hl, hn, fun H2 f2 => ?_⟩
    walk_at "rd"
    intro p dx hp hdx ne
    have f12 := f1.trans f2
    have f0 := fr_make (o1 := .own p) (o2 := .ins B dx []) hp hdx ne
    refine ⟨p, dx, v, d, rfl, upd_same, tv.up (f12.trans f0).tk, dok, fun H3 ls lr ll ba f3 hls hlr hll => ?_⟩
    have f3' : Fr F0 H2 H3 := f0.after f3 fun c z => by rw [z]; exact hp
    walk_at "rd"
    refine tlc rfl ?_
    walk_at "rd"
    refine ⟨⟨_, sqT ((f12.trans f3').tk _ _ ha)⟩, ?_⟩
    refine ask_all (p := p) ((f12.trans f3').tk _ _ ha) ba (Nat.lt_of_le_of_lt hl (by decide)) (fun _ => rfl) (fun _ => rfl) fun D H4 b4 f4 hD e => ?_
    have f4' : Fr F0 H H4 := (f12.trans f3').after f4 fun c z => f12.dom _ (f0.dom _ (z.elim (fun z => z ▸ hls) fun z => hll c z))
    exact ⟨D, rfl, _, sqL e, fun l hl => k l _ upd_same (f4'.trans (Fr.new _ hl))⟩
abbrev sCnt : Stmt := (top 32)
abbrev sCntN : List Str := ["device", "names"]
theorem sCntS : FnScope sCntN ["device", "names"] (defScope sCnt) := ⟨rfl, rfl, rfl, by decide +kernel, rfl, by decide +kernel, by decide +kernel⟩
def spCnt : Sp := fun vs H Q _ => ∃ (v : V) (a : Addr) (d : Dev) (r : List Nm), vs = [v, .ref a] ∧ TN H v (devK d) ∧ DevOk d ∧ H a = some (.tup (r.map V.str)) ∧ r.length ≤ 2000 ∧ (∀ x ∈ r, nameOk x) ∧
  ∀ H', Fr F0 H H' → Q (.int ((runM d (empty d) r : Nat) : Int)) H'
theorem ok_count_misses {f : Addr} {fd : FuncData} (F : Fun K "count_misses" "count_misses" sCnt f fd) (D_answers : Def P w K mg base "answers" ["device", "names"] 7 spAns) : FnOk P w K mg base CX0 8 f fd ["device", "names"] spCnt := by
  refine F.ok sCntS (fun vs H Q E h => ?_) (fun cdv A outer s H vs Q E hr h => ?_)
  · obtain ⟨v, a, d, r, rfl, _⟩ := h
    rfl
  · obtain ⟨v, a, d, r, rfl, tv, dok, ha, hl, hn, k⟩ := h
    refine ⟨_, (pss_one (ps_ret (pe_bcnt (pe_def D_answers (hr.mono (by decide)) (by rfl) (pa_cons (pv 0) (pa_cons (pv 1) pa_nil))) (pa_cons pe_bl pa_nil)))), ?_⟩
    rw [show L2.start sCntN [v, .ref a] = [some v, some (.ref a)] from rfl]
    walk_at "rd"
    unfold tBCnt
    walk_at "rd"
    refine ⟨v, a, d, r, rfl, tv, dok, ha, hl, hn, fun q H1 e f1 => ?_⟩
    refine ⟨q, rfl, _, e, ?_⟩
    walk_at "rd"
    refine ⟨e, ?_⟩
    rw [runA_count]
    exact k _ f1
abbrev sMiss : Stmt := (top 33)
abbrev sMissN : List Str := ["box", "names", "name"]
theorem sMissS : FnScope sMissN ["box", "names"] (defScope sMiss) := ⟨rfl, rfl, rfl, by decide +kernel, rfl, by decide +kernel, by decide +kernel⟩
def spMiss (B : Addr) : Sp := fun vs H Q _ => ∃ (p a : Addr) (d : Dev) (b : Bx Nm) (r : List Nm) (ls lr : Addr) (ll : List Addr), vs = [.ref p, .ref a] ∧ BoxAt B H p d b ls lr ll ∧ H a = some (.tup (r.map V.str)) ∧ r.length ≤ 2000 ∧
  ∀ H', BoxAt B H' p d (runB d b r) ls lr ll → Fr (FB ls ll) H H' → Q (.int ((runM d b r : Nat) : Int)) H'
theorem ok_misses_of {f : Addr} {fd : FuncData} (F : Fun K "misses_of" "misses_of" sMiss f fd) (cB : Cls K B) (D_ask : MDef P w K mg base B "ask" ["self", "name"] 4 (spAsk B)) : FnOk P w K mg base CX0 5 f fd ["box", "names"] (spMiss B) := by
  refine F.ok sMissS (fun vs H Q E h => ?_) (fun cdv A outer s H vs Q E hr h => ?_)
  · obtain ⟨p, a, d, b, r, ls, lr, ll, rfl, _⟩ := h
    rfl
  · obtain ⟨p, a, d, b, r, ls, lr, ll, rfl, ba, ha, hl, k⟩ := h
    refine ⟨_, (pss_one (ps_ret (pe_bm PySem.F.plainAttrs_list PySem.F.slot_list_count PySem.F.type_list_count mt_lcountF (pe_lc (own := [("name", 2)]) (g := gName 2) (tt := tYes) rfl sMissS.nd (pi_tup (pv 1)) (blkOk_by (N := sMissN) (sc := (defScope sMiss)) (by decide +kernel)) (fun _ _ _ _ _ => pg_name (i := 2) sMissS.nd rfl (Or.inl rfl)) (fun _ _ _ _ _ => pts_nil) (fun _ _ _ _ _ => (pe_mdef (pv 0) cB D_ask (hr.mono (by decide)) (pa_cons (pv 2) pa_nil)))) (pa_cons pe_bl pa_nil)))), ?_⟩
    rw [show L2.start sMissN [.ref p, .ref a] = [some (.ref p), some (.ref a), none] from rfl]
    walk_at "rd"
    refine tlc rfl ?_
    walk_at "rd"
    refine ⟨⟨_, sqT ha⟩, ?_⟩
    refine ask_all (p := p) ha ba (Nat.lt_of_le_of_lt hl (by decide)) (fun _ => rfl) (fun _ => rfl) fun D H4 b4 f4 hD e => ?_
    refine ⟨?_, ?_⟩
    · exact tyL e
    · exact ⟨D, _, rfl, rfl, sqL e, by rw [runA_count]; exact k _ b4 f4⟩
end
end K53
end
section
set_option Elab.async false
set_option linter.all false
set_option maxRecDepth 100000
set_option maxHeartbeats 4000000
set_option pp.maxSteps 2500
namespace K53
open PySem PySem.Spec PyProof.Rows L2
local macro_rules | `(tactic| walk_at "rd") => `(tactic| (
  try dsimp only [tSeq, tIfS, tOr, tAnd, tNot, tNotV, tAndV, tOrV, tB, tCB, tCons, tNil, tVar, tC, tTest, tChain, tRet, tRetN, tNext, tOp, rI0, rI, tAsg, gName, tDrop, tIf, tTup, tLst, tFld, tUn, rU, tCall, tMeth, tMake, tProp, iStr, iTup, iList, iRng1, iRng2, iEnumT,
    tPar, tPar3, gTup, gCons, gNil, gSub, gUnl, rSetL, rIxL, rIxT, rAppend, rExtend, tBM, tBM0, sFld, sFldAug, tSl, tPart, tNoPart, rSlL, rSlA, rSlT, tAug, ipI, t2I, rEq, rNe, scal, List.append_nil, List.cons_append, List.nil_append, List.getElem?_cons_zero, List.getElem?_cons_succ, List.set_cons_zero, List.set_cons_succ,
    List.map_cons, List.map_nil]
  try simp only [Option.some.injEq, exists_eq_left', exists_eq_left, exists_eq_right, exists_eq', V.int.injEq, V.str.injEq, V.bl.injEq, V.ref.injEq, List.cons.injEq, and_true, true_and, and_assoc, exists_and_left, exists_const, Bool.not_true, Bool.not_false, Bool.false_eq_true, if_true, if_false, ite_true, ite_false, decide_true, decide_false, reduceCtorEq, false_and, false_or, or_false, List.cons_ne_nil, exists_false, List.length_cons, List.length_nil, Nat.reduceAdd, Nat.zero_add, Int.cast_ofNat_Int, Int.reduceEq, Int.reduceLT, Int.reduceLE, Int.reduceAdd, Int.reduceSub, at0, at1, at2, eq_self, List.reverse_cons, List.reverse_nil]))

local macro_rules | `(tactic| walk_at "fd") => `(tactic| (
  repeat (first
    | (apply And.intro
       · first
         | assumption
         | exact sqT (by assumption)
         | exact sqL (by assumption)
         | exact .inl (sqL (by assumption))
         | exact .inr (sqT (by assumption))
         | exact atI_nat (by assumption)
         | exact at0
         | exact at1
         | exact at2
         | exact bxF_rows _ _ _ _
         | exact bxF_stages _ _ _ _
         | exact bxF_pols _ _ _ _
         | exact bxF_mode _ _ _ _
         | exact bxF_told _ _ _ _
         | exact bxF_holds _ _ _ _
         | exact bxF_touch _ _ _ _
         | exact bxF_fill _ _ _ _
         | exact bxF_ask _ _ _ _
         | exact bxF_go_down _ _ _ _
         | exact bxF_moment _ _ _ _
         | exact BK.c (by assumption)
         | exact BK.rows (by assumption)
         | exact BK.stages (by assumption)
         | exact BK.policies (by assumption)
         | exact BK.mode (by assumption)
         | rfl)
    | with_reducible apply Exists.intro)))

section
variable {P : Program} {w : World} {K : PySem.W.Frag} {mg : Str → Option Value} {base : Heap} {B : Addr}
theorem BoxAt.ownE {H H1 : Hp} {p : Addr} {d : Dev} {b b1 : Bx Nm} {ls lr : Addr} {ll : List Addr} (x : BoxAt B H p d b ls lr ll) {D : Addr} {u : HO} (o : HO) (h : H D = none) (y : BoxAt B H1 p d b1 ls lr ll) (e : H1 D = some u) (hu : ∀ xs, u ≠ .tup xs) : BoxAt B (upd H1 D o) p d b1 ls lr ll := by
  obtain ⟨h1, _, h2, h3, h4⟩ := x.dom (H1 := H) h
  exact y.up (Fr.set (F := (· = D)) o e rfl hu) (Ne.symm h1) (Ne.symm h2) (Ne.symm h3) fun c hc z => h4 (z ▸ hc)
theorem atI_last {α : Type} {xs : List α} {v : α} : atI (xs ++ [v]) (-1) = some v := by
  unfold atI
  have h : ixN (xs ++ [v]).length (-1) = some xs.length := by
    unfold ixN
    rw [if_neg (by omega), if_pos (by rw [List.length_append, List.length_singleton]; omega)]
    rw [List.length_append, List.length_singleton]
    congr 1
    omega
  rw [h]
  simp
theorem Fr.after' {F G : Addr → Prop} {H H1 H2 : Hp} (a : Fr F H H1) (b : Fr G H1 H2) (h : ∀ c, G c → H c = none) : Fr F H H2 :=
  ⟨fun c o e n => b.keep c o (a.keep c o e n) fun z => (by rw [h c z] at e; cases e), a.tk.trans b.tk, fun c e => a.dom c (b.dom c e)⟩
theorem entV_map (k : NestedKey) : ∀ (xs : List KEnt), entV xs k = ((xs.map fun e => (e.1, e.2.2)).find? fun x => decide (x.1 = k)).map (·.2)
  | [] => rfl
  | x :: xs => by
    have ih := entV_map k xs
    unfold entV at *
    rw [List.map_cons, List.find?_cons, List.find?_cons]
    by_cases e : x.1 = k
    · simp [e]
    · simp only [e, decide_false]
      exact ih
def kents (S : Nat → Bx Nm) (n : Nat) : List (NestedKey × V) := (List.range n).map fun i => (momK (S i), .int (i : Int))
theorem entV_none {S : Nat → Bx Nm} {n : Nat} {xs : List KEnt} {k : NestedKey} (h : xs.map (fun e => (e.1, e.2.2)) = kents S n) (e : entV xs k = none) : ∀ i, i < n → momK (S i) ≠ k := by
  intro i hi hk
  rw [entV_map, h, Option.map_eq_none_iff, List.find?_eq_none] at e
  exact e _ (List.mem_map.mpr ⟨i, List.mem_range.mpr hi, rfl⟩) (by simpa using hk)
theorem entV_some {S : Nat → Bx Nm} {n : Nat} {xs : List KEnt} {k : NestedKey} {v : V} (h : xs.map (fun e => (e.1, e.2.2)) = kents S n) (e : entV xs k = some v) : ∃ i, i < n ∧ momK (S i) = k ∧ v = .int (i : Int) := by
  rw [entV_map, h] at e
  obtain ⟨y, hy, rfl⟩ := Option.map_eq_some_iff.mp e
  have h1 := List.find?_some hy
  have h2 := List.mem_of_find?_eq_some hy
  obtain ⟨i, hi, rfl⟩ := List.mem_map.mp h2
  exact ⟨i, List.mem_range.mp hi, by simpa using h1, rfl⟩
abbrev totV (d : Dev) (ring : List Nm) (b : Bx Nm) (m : Nat) : List V := (List.range (m + 1)).map fun i => .int ((itM d ring b i : Nat) : Int)
theorem totV_succ (d : Dev) (r : List Nm) (b : Bx Nm) (m : Nat) : totV d r b (m + 1) = totV d r b m ++ [.int ((itM d r b (m + 1) : Nat) : Int)] := by
  unfold totV
  rw [List.range_succ, List.map_append]; rfl
theorem totV_last (d : Dev) (r : List Nm) (b : Bx Nm) (m : Nat) : atI (totV d r b m) (-1) = some (.int ((itM d r b m : Nat) : Int)) := by
  unfold totV
  rw [List.range_succ, List.map_append]
  exact atI_last
theorem totV_len (d : Dev) (r : List Nm) (b : Bx Nm) (m : Nat) : (totV d r b m).length = m + 1 := by simp [totV]
theorem kents_succ (S : Nat → Bx Nm) (n : Nat) : kents S (n + 1) = kents S n ++ [(momK (S n), .int (n : Int))] := by
  unfold kents
  rw [List.range_succ, List.map_append]; rfl
/-- what rounds_of tells -/
structure RoundsAre (d : Dev) (ring : List Nm) (b : Bx Nm) (most m : Nat) (ft : V) : Prop where
  few : ∀ i j, i < j → j < m → itB d ring b i ≠ itB d ring b j
  end_ : (∃ i : Nat, ft = .int (i : Int) ∧ i < m ∧ m ≤ most ∧ itB d ring b i = itB d ring b m) ∨ (ft = .non ∧ m = most ∧ ∀ i j, i < j → j ≤ m → itB d ring b i ≠ itB d ring b j)
abbrev sRnd : Stmt := (top 34)
abbrev sRndN : List Str := ["box", "circle", "most", "totals", "known", "moment"]
theorem sRndS : FnScope sRndN ["box", "circle", "most"] (defScope sRnd) := ⟨rfl, rfl, rfl, by decide +kernel, rfl, by decide +kernel, by decide +kernel⟩
def spRnd (B : Addr) : Sp := fun vs H Q _ => ∃ (p a : Addr) (most : Nat) (d : Dev) (b : Bx Nm) (r names : List Nm) (ls lr : Addr) (ll : List Addr), vs = [.ref p, .ref a, .int (most : Int)] ∧ BoxAt B H p d b ls lr ll ∧ H a = some (.tup (r.map V.str)) ∧ r.length ≤ 2000 ∧
  names.length ≤ 6 ∧ (∀ x ∈ r, x ∈ names) ∧ Only (· ∈ names) b ∧
  ∀ q tl ft m H', H' q = some (.tup [.ref tl, ft]) → H' tl = some (.lst (totV d r b m)) → BoxAt B H' p d (itB d r b m) ls lr ll → Fr (FB ls ll) H H' → RoundsAre d r b most m ft → Q (.ref q) H'
structure RInv (P : Program) (w : World) (B : Addr) (H : Hp) (p a tl kd : Addr) (most : Nat) (d : Dev) (b : Bx Nm) (r : List Nm) (ls lr : Addr) (ll : List Addr) (m : Nat) (σ : L2.St) (H' : Hp) : Prop where
  s : ∃ x, σ = [some (.ref p), some (.ref a), some (.int (most : Int)), some (.ref tl), some (.ref kd), x]
  f : Fr (FB ls ll) H H'
  ba : BoxAt B H' p d (itB d r b m) ls lr ll
  t : H' tl = some (.lst (totV d r b m))
  k : ∃ xs : List KEnt, H' kd = some (knownO P w kd xs) ∧ keyAll H' xs ∧ xs.map (fun e => (e.1, e.2.2)) = kents (itB d r b) (m + 1)
  few : ∀ i j, i < j → j ≤ m → itB d r b i ≠ itB d r b j
  le : m ≤ most
theorem ok_rounds_of {f : Addr} {fd : FuncData} (F : Fun K "rounds_of" "rounds_of" sRnd f fd) (Bb : Bi mg) (cB : Cls K B) (D_moment : MDef P w K mg base B "moment" ["self"] 1 (spMom B)) (D_misses_of : Def P w K mg base "misses_of" ["box", "names"] 5 (spMiss B)) : FnOk P w K mg base CX0 6 f fd ["box", "circle", "most"] (spRnd B) := by
  refine F.ok sRndS (fun vs H Q E h => ?_) (fun cdv A outer s H vs Q E hr h => ?_)
  · obtain ⟨p, a, most, d, b, r, names, ls, lr, ll, rfl, _⟩ := h
    rfl
  · obtain ⟨p, a, most, d, b, r, names, ls, lr, ll, rfl, ba, ha, hl, h6, hsub, honly, k⟩ := h
    refine ⟨_, (pss_cons (ps_set (i := 3) sRndS.nd rfl (Or.inl rfl) (pe_lst (pa_cons pe_int pa_nil)))
      (pss_cons (ps_set (i := 4) sRndS.nd rfl (Or.inl rfl) (pe_disp1 (pe_mdef0 (pv 0) cB D_moment (hr.mono (by decide))) pe_int hr.units))
      (pss_cons (ps_while PassesOwn.never (pt_cmpR op_le (pe_callB (id := "len") call_len_seq (by rfl) Bb.len (by decide +kernel) (pa_cons (pv 3) pa_nil)) (pv 2) (nomark _)) (pss_cons (ps_expr (pe_bm PySem.F.plainAttrs_list PySem.F.slot_list_append PySem.F.type_list_append mt_append (pv 3) (pa_cons (pe_op op_add (pe_ix ix_list (pv 3) (pe_un un_neg pe_int) (fun _ _ => rfl)) (pe_def D_misses_of (hr.mono (by decide)) (by rfl) (pa_cons (pv 0) (pa_cons (pv 1) pa_nil)))) pa_nil)))
      (pss_cons (ps_set (i := 5) sRndS.nd rfl (Or.inl rfl) (pe_mdef0 (pv 0) cB D_moment (hr.mono (by decide))))
      (pss_cons (ps_if (pt_cmpR (op_kin hr.units) (pv 5) (pv 4) rfl) (pss_one (ps_ret (pe_tup (pa_cons (pv 3) (pa_cons (pe_ix (ix_known hr.units) (pv 4) (pv 5) (fun _ _ => rfl)) pa_nil))))) pss_nil)
      (pss_one (ps_asg (pe_op op_sub (pe_callB (id := "len") call_len_seq (by rfl) Bb.len (by decide +kernel) (pa_cons (pv 3) pa_nil)) pe_int) (pg_sub (pv 4) (pv 5) (set_known hr.units))))))))
      (pss_one (ps_ret (pe_tup (pa_cons (pv 3) (pa_cons pe_non pa_nil)))))))), ?_⟩
    rw [show L2.start sRndN [.ref p, .ref a, .int (most : Int)] = [some (.ref p), some (.ref a), some (.int (most : Int)), none, none, none] from rfl]
    walk_at "rd"
    refine ⟨by decide, fun tl htl => ?_⟩
    have g1 : Fr F0 H (upd H tl (.lst [.int 0])) := Fr.new _ htl
    have ba1 := ba.new (.lst [.int 0]) htl
    have t1 : upd H tl (.lst [V.int 0]) tl = _ := upd_same
    generalize upd H tl (.lst [V.int 0]) = H1 at g1 ba1 t1 ⊢
    intro kd hkd
    have g2 : Fr F0 H1 (upd H1 kd (knownO P w kd [])) := Fr.new _ hkd
    have ba2 := ba1.new (knownO P w kd []) hkd
    have k2 : upd H1 kd (knownO P w kd []) kd = _ := upd_same
    have t2 := g2.keep _ _ t1 id
    obtain ⟨dx, pt, ob, _⟩ := ba2.ob
    refine ⟨_, rfl, p, dx, _, rfl, ob, bxF_moment _ _ _ _, p, d, b, ls, lr, ll, rfl, ba2, fun v H3 tv f3 => ?_⟩
    obtain ⟨ka, _, rfl, _, _⟩ := tv.tup_inv
    have k3 := f3.keep _ _ k2 id
    have hkd0 := g1.dom _ hkd
    refine ⟨ka, momK b, rfl, k3, tv, momK_depth b, ?_⟩
    have nk : ∀ ys xs, knownO P w kd ys ≠ .tup xs := fun _ _ z => nomatch z
    have g4 : Fr (· = kd) H3 (upd H3 kd (knownO P w kd [(momK b, ka, .int 0)])) := Fr.set _ k3 rfl (nk _)
    have ntk : tl ≠ kd := ne_of_none t1 hkd
    refine ⟨fun k σ H' => ∃ m, k = 4235365 - m ∧ RInv P w B H p a tl kd most d b r ls lr ll m σ H', ⟨_, 0, rfl, ⟨none, rfl⟩, (((g1.trans g2).trans f3).after g4 (fun c z => by rw [z]; exact hkd0)).any, ba1.ownE (H1 := H3) _ hkd (ba2.up0 f3) k3 (nk _), g4.keep _ _ (f3.keep _ _ t2 id) ntk,
      ⟨_, upd_same, ?_, rfl⟩, fun i j hi hj => by omega, Nat.zero_le _⟩, ?_⟩
    · intro e he
      rw [List.mem_singleton] at he
      subst he
      exact ⟨tv.up g4.tk, momK_depth b⟩
    rintro _ σ H4 ⟨m, rfl, ⟨x, rfl⟩, f4, ba4, t4, ⟨xs, ek, hka, hm⟩, few, hle⟩
    have hm1 := rounds_few ba.dok ba.ok h6 hsub honly (n := m + 1) (fun i j hi hj => few i j hi (by omega))
    walk_at "rd"
    have hlen := totV_len d r b m
    refine ⟨_, .inl (sqL t4), ?_⟩
    by_cases hmm : m + 1 ≤ most
    · rw [decide_eq_true (show ((totV d r b m).length : Int) ≤ (most : Int) by rw [hlen]; omega), if_pos rfl]
      refine ⟨fun σ' H' => RInv P w B H p a tl kd most d b r ls lr ll (m + 1) σ' H', fun σ' H' h => ⟨_, by omega, m + 1, rfl, h⟩, tyL t4, _, sqL t4, _, totV_last d r b m, p, a, d, _, r, ls, lr, ll, rfl, ba4, f4.tk _ _ ha, hl, fun H5 ba5 f5 => ?_⟩
      obtain ⟨_, nFBt, _⟩ := ba.dom (H1 := H) htl
      obtain ⟨_, nFBk, _⟩ := ba.dom (H1 := H) hkd0
      have t5 := f5.keep _ _ t4 nFBt
      have k5 := f5.keep _ _ ek nFBk
      refine ⟨_, rfl, _, rfl, _, t5, ?_, ?_⟩
      · rw [hlen]; exact Nat.lt_of_le_of_lt hm1 (by decide)
      have ev : totV d r b m ++ [V.int (((itM d r b m : Nat) : Int) + ((runM d (itB d r b m) r : Nat) : Int))] = totV d r b (m + 1) := by
        rw [totV_succ]; rfl
      rw [ev]
      have ba6 : BoxAt B (upd H5 tl (.lst (totV d r b (m + 1)))) p d (itB d r b (m + 1)) ls lr ll := ba.ownE (H1 := H5) _ htl ba5 t5 (fun _ z => nomatch z)
      have g6 : Fr (· = tl) H5 (upd H5 tl (.lst (totV d r b (m + 1)))) := Fr.setL _ t5 rfl
      have t6 : upd H5 tl (.lst (totV d r b (m + 1))) tl = _ := upd_same
      generalize upd H5 tl (.lst (totV d r b (m + 1))) = H6 at ba6 g6 t6 ⊢
      have k6 := g6.keep _ _ k5 (Ne.symm ntk)
      obtain ⟨dx6, pt6, ob6, _⟩ := ba6.ob
      refine ⟨_, _, ob6, bxF_moment _ _ _ _, p, d, _, ls, lr, ll, rfl, ba6, fun v H7 tv7 f7 => ?_⟩
      obtain ⟨kb, _, rfl, _, _⟩ := tv7.tup_inv
      have k7 := f7.keep _ _ k6 id
      have t7 := f7.keep _ _ t6 id
      have ba7 := ba6.up0 f7
      have hka7 : keyAll H7 xs := hka.up (f5.tk.trans (g6.tk.trans f7.tk))
      have f47 : Fr (FB ls ll) H H7 := (((f4.trans f5).after' g6 fun c z => by rw [z]; exact htl).trans f7.any)
      have ok7 := ba7.ok
      refine ⟨kb, kd, xs, momK (itB d r b (m + 1)), rfl, rfl, k7, hka7, tv7, momK_depth _, _, rfl, ?_⟩
      cases hE : entV xs (momK (itB d r b (m + 1))) with
      | some v =>
        rw [show (some v).isSome = true from rfl, if_pos rfl]
        refine ⟨kb, kd, xs, momK (itB d r b (m + 1)), v, rfl, rfl, k7, hka7, tv7, momK_depth _, hE, by decide, fun q hq => ?_⟩
        obtain ⟨i, hi, he, rfl⟩ := entV_some hm hE
        have heq : itB d r b i = itB d r b (m + 1) := mom_inj (itB_ok ba.dok ba.ok i) ok7 (momK_inj he)
        exact k q tl _ (m + 1) _ upd_same ((Fr.new (F := F0) _ hq).keep _ _ t7 id) (ba7.new _ hq) (f47.trans (Fr.new _ hq)) ⟨fun i j hi hj => few i j hi (by omega), .inl ⟨i, rfl, hi, hmm, heq⟩⟩
      | none =>
        rw [show (none : Option V).isSome = false from rfl, if_neg (by decide)]
        have hxl : xs.length = m + 1 := by
          have := congrArg List.length hm
          simpa [kents] using this
        refine ⟨_, .inl (sqL t7), kb, kd, xs, momK (itB d r b (m + 1)), rfl, rfl, k7, hka7, tv7, momK_depth _, hE, by rw [hxl]; exact Nat.lt_of_le_of_lt hm1 (by decide), ?_⟩
        have g8 : Fr (· = kd) H7 (upd H7 kd (knownO P w kd (xs ++ [(momK (itB d r b (m + 1)), kb, .int (((totV d r b (m + 1)).length : Int) - 1))]))) := Fr.set _ k7 rfl (nk _)
        refine ⟨⟨_, rfl⟩, f47.after' g8 (fun c z => by rw [z]; exact hkd0), ba.ownE (H1 := H7) _ hkd0 ba7 k7 (nk _), g8.keep _ _ t7 ntk, ⟨_, upd_same, ?_, ?_⟩, ?_, hmm⟩
        · intro e he
          rw [List.mem_append, List.mem_singleton] at he
          rcases he with he | he
          · exact ⟨(hka7 e he).1.up g8.tk, (hka7 e he).2⟩
          · subst he
            exact ⟨tv7.up g8.tk, momK_depth _⟩
        · rw [List.map_append, hm, kents_succ _ (m + 1), totV_len]
          simp
        · intro i j hi hj
          rcases Nat.lt_or_ge j (m + 1) with h | h
          · exact few i j hi (by omega)
          · have ej : j = m + 1 := by omega
            subst ej
            exact fun z => entV_none hm hE i hi (by rw [z])
    · have em : m = most := by omega
      subst em
      rw [decide_eq_false (show ¬ ((totV d r b m).length : Int) ≤ (m : Int) by rw [hlen]; omega), if_neg (by decide)]
      walk_at "rd"
      refine ⟨by decide, fun q hq => ?_⟩
      exact k q tl _ m _ upd_same ((Fr.new (F := F0) _ hq).keep _ _ t4 id) (ba4.new _ hq) (f4.trans (Fr.new _ hq)) ⟨fun i j hi hj => few i j hi (by omega), .inr ⟨rfl, rfl, few⟩⟩
end
end K53
end
section
set_option Elab.async false
set_option linter.all false
set_option maxRecDepth 100000
set_option maxHeartbeats 4000000
set_option pp.maxSteps 2500
namespace K53
open PySem PySem.Spec PyProof.Rows L2
local macro_rules | `(tactic| walk_at "rd") => `(tactic| (
  try dsimp only [tSeq, tIfS, tOr, tAnd, tNot, tNotV, tAndV, tOrV, tB, tCB, tCons, tNil, tVar, tC, tTest, tChain, tRet, tRetN, tNext, tOp, rI0, rI, tAsg, gName, tDrop, tIf, tTup, tLst, tFld, tUn, rU, tCall, tMeth, tMake, tProp, iStr, iTup, iList, iRng1, iRng2, iEnumT,
    tPar, tPar3, gTup, gCons, gNil, gSub, gUnl, rSetL, rIxL, rIxT, rAppend, rExtend, tBM, tBM0, sFld, sFldAug, tSl, tPart, tNoPart, rSlL, rSlA, rSlT, tAug, ipI, t2I, rEq, rNe, scal, List.append_nil, List.cons_append, List.nil_append, List.getElem?_cons_zero, List.getElem?_cons_succ, List.set_cons_zero, List.set_cons_succ,
    List.map_cons, List.map_nil]
  try simp only [Option.some.injEq, exists_eq_left', exists_eq_left, exists_eq_right, exists_eq', V.int.injEq, V.str.injEq, V.bl.injEq, V.ref.injEq, List.cons.injEq, and_true, true_and, and_assoc, exists_and_left, exists_const, Bool.not_true, Bool.not_false, Bool.false_eq_true, if_true, if_false, ite_true, ite_false, decide_true, decide_false, reduceCtorEq, false_and, false_or, or_false, List.cons_ne_nil, exists_false, List.length_cons, List.length_nil, Nat.reduceAdd, Nat.zero_add, Int.cast_ofNat_Int, Int.reduceEq, Int.reduceLT, Int.reduceLE, Int.reduceAdd, Int.reduceSub, at0, at1, at2, eq_self, List.reverse_cons, List.reverse_nil]))

local macro_rules | `(tactic| walk_at "fd") => `(tactic| (
  repeat (first
    | (apply And.intro
       · first
         | assumption
         | exact sqT (by assumption)
         | exact sqL (by assumption)
         | exact .inl (sqL (by assumption))
         | exact .inr (sqT (by assumption))
         | exact atI_nat (by assumption)
         | exact at0
         | exact at1
         | exact at2
         | exact bxF_rows _ _ _ _
         | exact bxF_stages _ _ _ _
         | exact bxF_pols _ _ _ _
         | exact bxF_mode _ _ _ _
         | exact bxF_told _ _ _ _
         | exact bxF_holds _ _ _ _
         | exact bxF_touch _ _ _ _
         | exact bxF_fill _ _ _ _
         | exact bxF_ask _ _ _ _
         | exact bxF_go_down _ _ _ _
         | exact bxF_moment _ _ _ _
         | exact BK.c (by assumption)
         | exact BK.rows (by assumption)
         | exact BK.stages (by assumption)
         | exact BK.policies (by assumption)
         | exact BK.mode (by assumption)
         | rfl)
    | with_reducible apply Exists.intro)))

section
variable {P : Program} {w : World} {K : PySem.W.Frag} {mg : Str → Option Value} {base : Heap} {B : Addr}
theorem itM_mono (d : Dev) (r : List Nm) (b : Bx Nm) {i j : Nat} (h : i ≤ j) : itM d r b i ≤ itM d r b j := by
  obtain ⟨k, rfl⟩ := Nat.exists_eq_add_of_le h
  rw [itM_add]; omega
theorem totV_at (d : Dev) (r : List Nm) (b : Bx Nm) {m i : Nat} (h : i ≤ m) : atI (totV d r b m) (i : Int) = some (.int ((itM d r b i : Nat) : Int)) := by
  refine atI_nat (j := i) ?_
  unfold totV
  rw [List.getElem?_map, List.getElem?_range (by omega)]; rfl
theorem lt_two (n : Int) (k : Nat) (h0 : 0 ≤ n) (h : n < 2 ^ k) : n.natAbs < 2 ^ k := by
  have : ((n.natAbs : Nat) : Int) < ((2 ^ k : Nat) : Int) := by rw [Int.natAbs_of_nonneg h0]; rw [Int.natCast_pow]; exact h
  exact Int.ofNat_lt.mp this
/-- what far_misses adds up -/
theorem far_sum {d : Dev} {r : List Nm} {b : Bx Nm} {i m times : Nat} (hi : i < m) (hm : m ≤ times) (he : itB d r b i = itB d r b m) :
    ((itM d r b m : Nat) : Int) + ((((times : Int) - (m : Int)) / ((m : Int) - (i : Int))) * (((itM d r b m : Nat) : Int) - ((itM d r b i : Nat) : Int)) + ((itM d r b (i + (times - m) % (m - i)) : Nat) : Int) - ((itM d r b i : Nat) : Int)) = ((itM d r b times : Nat) : Int) := by
  have h0 : itB d r b (i + (m - i)) = itB d r b i := by rw [Nat.add_sub_cancel' (Nat.le_of_lt hi)]; exact he.symm
  have h1 := loop_M h0 ((times - m) / (m - i) + 1) ((times - m) % (m - i))
  have h2 := Nat.div_add_mod (times - m) (m - i)
  have e : i + (((times - m) / (m - i) + 1) * (m - i) + (times - m) % (m - i)) = times := by
    rw [Nat.succ_mul, Nat.mul_comm ((times - m) / (m - i))]; omega
  rw [e, Nat.add_sub_cancel' (Nat.le_of_lt hi)] at h1
  have h3 := itM_mono d r b (Nat.le_of_lt hi)
  have e1 : (times : Int) - (m : Int) = ((times - m : Nat) : Int) := by omega
  have e2 : (m : Int) - (i : Int) = ((m - i : Nat) : Int) := by omega
  have e3 : ((itM d r b m : Nat) : Int) - ((itM d r b i : Nat) : Int) = ((itM d r b m - itM d r b i : Nat) : Int) := by omega
  rw [h1, e1, e2, e3, ← Int.natCast_ediv, ← Int.natCast_mul]
  have h4 : (((times - m) / (m - i)) + 1) * (itM d r b m - itM d r b i) = ((times - m) / (m - i)) * (itM d r b m - itM d r b i) + (itM d r b m - itM d r b i) := Nat.succ_mul _ _
  rw [h4]
  omega
abbrev sFar : Stmt := (top 35)
abbrev sFarN : List Str := ["device", "ahead", "circle", "times", "box", "found", "done", "totals", "first", "whole", "rest"]
theorem sFarS : FnScope sFarN ["device", "ahead", "circle", "times"] (defScope sFar) := ⟨rfl, rfl, rfl, by decide +kernel, rfl, by decide +kernel, by decide +kernel⟩
def spFar : Sp := fun vs H Q _ => ∃ (v : V) (e a : Addr) (times : Nat) (d : Dev) (r names : List Nm), vs = [v, .ref e, .ref a, .int (times : Int)] ∧ TN H v (devK d) ∧ DevOk d ∧ H e = some (.tup []) ∧ H a = some (.tup (r.map V.str)) ∧ r.length ≤ 2000 ∧ (∀ x ∈ r, nameOk x) ∧
  names.length ≤ 6 ∧ (∀ x ∈ r, x ∈ names) ∧ times ≤ 1000000000000000000000000000000 ∧ ∀ H', Fr F0 H H' → Q (.int ((itM d r (empty d) times : Nat) : Int)) H'
theorem ok_far_misses {f : Addr} {fd : FuncData} (F : Fun K "far_misses" "far_misses" sFar f fd) (Bb : Bi mg) (Cc : Cn K mg) (D_is_between : Def P w K mg base "is_between" ["value", "least", "greatest"] 2 spIsBet) (D_check_device : Def P w K mg base "check_device" ["device"] 6 spChkDev) (D_check_history : Def P w K mg base "check_history" ["names"] 2 spChkHist)
    (D_Box : CDef P w K mg base B "Box" ["self", "device"] 1 (spBInit B)) (D_misses_of : Def P w K mg base "misses_of" ["box", "names"] 5 (spMiss B)) (D_rounds_of : Def P w K mg base "rounds_of" ["box", "circle", "most"] 6 (spRnd B)) : FnOk P w K mg base CX0 7 f fd ["device", "ahead", "circle", "times"] spFar := by
  obtain ⟨_, mTim⟩ := Cc.times
  refine F.ok sFarS (fun vs H Q E h => ?_) (fun cdv A outer s H vs Q E hr h => ?_)
  · obtain ⟨v, e, a, times, d, r, names, rfl, _⟩ := h
    rfl
  · obtain ⟨v, e, a, times, d, r, names, rfl, tv, dok, he, ha, hl, hn, h6, hsub, htm, k⟩ := h
    refine ⟨_, (pss_cons (ps_expr (pe_def D_check_device (hr.mono (by decide)) (by rfl) (pa_cons (pv 0) pa_nil)))
      (pss_cons (ps_expr (pe_def D_check_history (hr.mono (by decide)) (by rfl) (pa_cons (pv 1) pa_nil)))
      (pss_cons (ps_expr (pe_def D_check_history (hr.mono (by decide)) (by rfl) (pa_cons (pv 2) pa_nil)))
      (pss_cons (ps_if (pt_not (pt_val (pe_def D_is_between (hr.mono (by decide)) (by rfl) (pa_cons (pv 3) (pa_cons pe_int (pa_cons (pe_glob (v := .int 1000000000000000000000000000000) (by rfl) mTim ⟨_, rfl⟩) pa_nil)))))) (pss_one ps_never) pss_nil)
      (pss_cons (ps_set (i := 4) sFarS.nd rfl (Or.inl rfl) (pe_cdef D_Box (hr.mono (by decide)) (by rfl) (pa_cons (pv 0) pa_nil)))
      (pss_cons (ps_set (i := 5) sFarS.nd rfl (Or.inl rfl) (pe_def D_misses_of (hr.mono (by decide)) (by rfl) (pa_cons (pv 4) (pa_cons (pv 1) pa_nil))))
      (pss_cons (ps_asg (pe_def D_rounds_of (hr.mono (by decide)) (by rfl) (pa_cons (pv 4) (pa_cons (pv 2) (pa_cons (pv 3) pa_nil)))) (pg_tup rfl (pgs_cons (pg_name (i := 7) sFarS.nd rfl (Or.inl rfl)) (pgs_cons (pg_name (i := 8) sFarS.nd rfl (Or.inl rfl)) pgs_nil))))
      (pss_cons (ps_set (i := 6) sFarS.nd rfl (Or.inl rfl) (pe_op op_sub (pe_callB (id := "len") call_len_seq (by rfl) Bb.len (by decide +kernel) (pa_cons (pv 7) pa_nil)) pe_int))
      (pss_cons (ps_aug (i := 5) sFarS.nd rfl (Or.inl rfl) (pe_ix ix_list (pv 7) (pv 6) (fun _ _ => rfl)) ip_add)
      (pss_cons (ps_if (pt_cmpR op_notN (pv 8) pe_non (nomark _)) (pss_cons (ps_asg (pe_callB (id := "divmod") call_divmod (by rfl) Bb.divmod (by decide +kernel) (pa_cons (pe_op op_sub (pv 3) (pv 6)) (pa_cons (pe_op op_sub (pv 6) (pv 8)) pa_nil))) (pg_tup rfl (pgs_cons (pg_name (i := 9) sFarS.nd rfl (Or.inl rfl)) (pgs_cons (pg_name (i := 10) sFarS.nd rfl (Or.inl rfl)) pgs_nil))))
      (pss_one (ps_aug (i := 5) sFarS.nd rfl (Or.inl rfl) (pe_op op_sub (pe_op op_add (pe_op op_mulW (pv 9) (pe_op op_sub (pe_ix ix_list (pv 7) (pv 6) (fun _ _ => rfl)) (pe_ix ix_list (pv 7) (pv 8) (fun _ _ => rfl)))) (pe_ix ix_list (pv 7) (pe_op op_add (pv 8) (pv 10)) (fun _ _ => rfl))) (pe_ix ix_list (pv 7) (pv 8) (fun _ _ => rfl))) ip_add))) pss_nil)
      (pss_one (ps_ret (pv 5))))))))))))), ?_⟩
    rw [show L2.start sFarN [v, .ref e, .ref a, .int (times : Int)] = [some v, some (.ref e), some (.ref a), some (.int (times : Int)), none, none, none, none, none, none, none] from rfl]
    walk_at "rd"
    refine ⟨v, d, rfl, tv, dok, fun H1 f1 => ?_⟩
    walk_at "rd"
    refine ⟨e, [], rfl, f1.tk _ _ he, by show (0 : Nat) ≤ 2000; decide, fun x hx => absurd hx (by simp), fun H2 f2 => ?_⟩
    have f12 := f1.trans f2
    walk_at "rd"
    refine ⟨a, r, rfl, f12.tk _ _ ha, hl, hn, fun H3 f3 => ?_⟩
    have f13 := f12.trans f3
    walk_at "rd"
    refine ⟨_, _, _, rfl, by omega, by omega, ?_⟩
    walk_at "rd"
    intro p dx hp hdx ne
    have f0 := fr_make (o1 := .own p) (o2 := .ins B dx []) hp hdx ne
    refine ⟨p, dx, v, d, rfl, upd_same, tv.up (f13.trans f0).tk, dok, fun H4 ls lr ll ba f4 hls hlr hll => ?_⟩
    have f34 : Fr F0 H3 H4 := f0.after f4 fun c z => by rw [z]; exact hp
    have f14 := f13.trans f34
    have hFB : ∀ c, FB ls ll c → H c = none := fun c z => f13.dom _ (f0.dom _ (z.elim (fun z => z ▸ hls) fun z => hll c z))
    walk_at "rd"
    refine ⟨p, e, d, _, [], ls, lr, ll, rfl, ba, f14.tk _ _ he, by show (0 : Nat) ≤ 2000; decide, fun H5 ba5 f5 => ?_⟩
    have f15 := f14.after f5 hFB
    walk_at "rd"
    refine ⟨p, a, times, d, empty d, r, names, ls, lr, ll, rfl, ba5, f15.tk _ _ ha, hl, h6, hsub, only_empty _ _, fun q tl ft m H6 eq et ba6 f6 ra => ?_⟩
    have f16 := f15.after f6 hFB
    walk_at "rd"
    refine ⟨_, sqT eq, rfl, ?_⟩
    walk_at "rd"
    refine ⟨_, .inl (sqL et), ?_⟩
    have hmf := rounds_few dok (empty_ok dok) h6 hsub (only_empty _ _) ra.few
    rw [totV_len, show ((m + 1 : Nat) : Int) - 1 = (m : Int) by omega]
    have am := totV_at d r (empty d) (Nat.le_refl m)
    refine ⟨_, sqL et, _, am, _, rfl, ?_⟩
    rcases ra.end_ with ⟨i, rfl, hi, hm, hei⟩ | ⟨rfl, hm, _⟩
    · rw [if_pos (by rfl)]
      refine ⟨_, rfl, ⟨by omega, by omega⟩, fun p' hp' => ?_⟩
      refine ⟨_, sqT upd_same, rfl, _, _, rfl, _, _, rfl, rfl, ?_⟩
      have g7 : Fr F0 H6 (upd H6 p' (.tup [.int (((times : Int) - (m : Int)) / ((m : Int) - (i : Int))), .int (((times : Int) - (m : Int)) % ((m : Int) - (i : Int)))])) := Fr.new _ hp'
      generalize upd H6 p' (.tup [.int (((times : Int) - (m : Int)) / ((m : Int) - (i : Int))), .int (((times : Int) - (m : Int)) % ((m : Int) - (i : Int)))]) = H7 at g7 ⊢
      have et7 := g7.keep _ _ et id
      have ai := totV_at d r (empty d) (Nat.le_of_lt hi)
      have hlt : (times - m) % (m - i) < m - i := Nat.mod_lt _ (by omega)
      have eir : (i : Int) + ((times : Int) - (m : Int)) % ((m : Int) - (i : Int)) = ((i + (times - m) % (m - i) : Nat) : Int) := by
        rw [show (times : Int) - (m : Int) = ((times - m : Nat) : Int) by omega, show (m : Int) - (i : Int) = ((m - i : Nat) : Int) by omega, ← Int.natCast_emod]; omega
      have air := totV_at d r (empty d) (m := m) (i := i + (times - m) % (m - i)) (by omega)
      rw [← eir] at air
      walk_at "fd"
      have hmi := itM_mono d r (empty d) (Nat.le_of_lt hi)
      have hle : itM d r (empty d) m ≤ 8470728000 := Nat.le_trans (itM_le d r (empty d) m) (Nat.le_trans (Nat.mul_le_mul hmf hl) (by decide))
      have hq0 : 0 ≤ ((times : Int) - (m : Int)) / ((m : Int) - (i : Int)) := Int.ediv_nonneg (by omega) (by omega)
      have hq1 : ((times : Int) - (m : Int)) / ((m : Int) - (i : Int)) ≤ (times : Int) - (m : Int) := Int.ediv_le_self _ (by omega)
      refine ⟨wide_mul (a := 100) (b := 40) (lt_two _ _ hq0 ?_) (lt_two _ _ (by omega) ?_) (by decide) (by decide) (by decide), _, rfl, _, rfl, _, sqL et7, _, air, _, rfl, _, _, rfl, sqL et7, _, ai, _, rfl, ?_⟩
      · exact Int.lt_of_le_of_lt (b := 1000000000000000000000000000000) (by omega) (by decide)
      · exact Int.lt_of_le_of_lt (b := 8470728000) (by omega) (by decide)
      rw [show ((runM d (empty d) ([] : List Nm) : Nat) : Int) = 0 from rfl, Int.zero_add, far_sum hi hm hei]
      exact k H7 (f16.trans g7)
    · have z := k H6 f16
      rw [← hm] at z
      rw [if_neg (by simp)]
      rw [show ((runM d (empty d) ([] : List Nm) : Nat) : Int) = 0 from rfl, Int.zero_add]
      exact z
abbrev sLong : Stmt := (top 36)
abbrev sLongN : List Str := ["device", "circle", "done", "totals", "first"]
theorem sLongS : FnScope sLongN ["device", "circle"] (defScope sLong) := ⟨rfl, rfl, rfl, by decide +kernel, rfl, by decide +kernel, by decide +kernel⟩
def spLong : Sp := fun vs H Q _ => ∃ (v : V) (a : Addr) (d : Dev) (r names : List Nm), vs = [v, .ref a] ∧ TN H v (devK d) ∧ DevOk d ∧ H a = some (.tup (r.map V.str)) ∧ r.length ≤ 2000 ∧ (∀ x ∈ r, nameOk x) ∧
  names.length ≤ 6 ∧ (∀ x ∈ r, x ∈ names) ∧ ∀ q i m H', H' q = some (.tup [.int (i : Nat), .int ((m : Nat) - (i : Nat)), .int (((itM d r (empty d) m : Nat) : Int) - ((itM d r (empty d) i : Nat) : Int))]) → i < m → m ≤ 4235364 → itB d r (empty d) i = itB d r (empty d) m →
    (∀ i j, i < j → j < m → itB d r (empty d) i ≠ itB d r (empty d) j) → Fr F0 H H' → Q (.ref q) H'
theorem ok_long_run {f : Addr} {fd : FuncData} (F : Fun K "long_run" "long_run" sLong f fd) (Bb : Bi mg) (Cc : Cn K mg) (D_check_device : Def P w K mg base "check_device" ["device"] 6 spChkDev) (D_check_history : Def P w K mg base "check_history" ["names"] 2 spChkHist)
    (D_Box : CDef P w K mg base B "Box" ["self", "device"] 1 (spBInit B)) (D_rounds_of : Def P w K mg base "rounds_of" ["box", "circle", "most"] 6 (spRnd B)) : FnOk P w K mg base CX0 7 f fd ["device", "circle"] spLong := by
  obtain ⟨_, mTim⟩ := Cc.times
  refine F.ok sLongS (fun vs H Q E h => ?_) (fun cdv A outer s H vs Q E hr h => ?_)
  · obtain ⟨v, a, d, r, names, rfl, _⟩ := h
    rfl
  · obtain ⟨v, a, d, r, names, rfl, tv, dok, ha, hl, hn, h6, hsub, k⟩ := h
    refine ⟨_, (pss_cons (ps_expr (pe_def D_check_device (hr.mono (by decide)) (by rfl) (pa_cons (pv 0) pa_nil)))
      (pss_cons (ps_expr (pe_def D_check_history (hr.mono (by decide)) (by rfl) (pa_cons (pv 1) pa_nil)))
      (pss_cons (ps_asg (pe_def D_rounds_of (hr.mono (by decide)) (by rfl) (pa_cons (pe_cdef D_Box (hr.mono (by decide)) (by rfl) (pa_cons (pv 0) pa_nil)) (pa_cons (pv 1) (pa_cons (pe_glob (v := .int 1000000000000000000000000000000) (by rfl) mTim ⟨_, rfl⟩) pa_nil)))) (pg_tup rfl (pgs_cons (pg_name (i := 3) sLongS.nd rfl (Or.inl rfl)) (pgs_cons (pg_name (i := 4) sLongS.nd rfl (Or.inl rfl)) pgs_nil))))
      (pss_cons (ps_set (i := 2) sLongS.nd rfl (Or.inl rfl) (pe_op op_sub (pe_callB (id := "len") call_len_seq (by rfl) Bb.len (by decide +kernel) (pa_cons (pv 3) pa_nil)) pe_int))
      (pss_one (ps_ret (pe_tup (pa_cons (pv 4) (pa_cons (pe_op op_sub (pv 2) (pv 4)) (pa_cons (pe_op op_sub (pe_ix ix_list (pv 3) (pv 2) (fun _ _ => rfl)) (pe_ix ix_list (pv 3) (pv 4) (fun _ _ => rfl))) pa_nil)))))))))), ?_⟩
    rw [show L2.start sLongN [v, .ref a] = [some v, some (.ref a), none, none, none] from rfl]
    walk_at "rd"
    refine ⟨v, d, rfl, tv, dok, fun H1 f1 => ?_⟩
    walk_at "rd"
    refine ⟨a, r, rfl, f1.tk _ _ ha, hl, hn, fun H3 f2 => ?_⟩
    have f13 := f1.trans f2
    walk_at "rd"
    intro p dx hp hdx ne
    have f0 := fr_make (o1 := .own p) (o2 := .ins B dx []) hp hdx ne
    refine ⟨p, dx, v, d, rfl, upd_same, tv.up (f13.trans f0).tk, dok, fun H4 ls lr ll ba f4 hls hlr hll => ?_⟩
    have f34 : Fr F0 H3 H4 := f0.after f4 fun c z => by rw [z]; exact hp
    have f14 := f13.trans f34
    have hFB : ∀ c, FB ls ll c → H c = none := fun c z => f13.dom _ (f0.dom _ (z.elim (fun z => z ▸ hls) fun z => hll c z))
    walk_at "rd"
    refine ⟨p, a, 1000000000000000000000000000000, d, empty d, r, names, ls, lr, ll, rfl, ba, f14.tk _ _ ha, hl, h6, hsub, only_empty _ _, fun q tl ft m H6 eq et ba6 f6 ra => ?_⟩
    have f16 := f14.after f6 hFB
    have hmf := rounds_few dok (empty_ok dok) h6 hsub (only_empty _ _) ra.few
    rcases ra.end_ with ⟨i, rfl, hi, hm, he⟩ | ⟨rfl, hm, _⟩
    · walk_at "rd"
      refine ⟨_, sqT eq, rfl, ?_⟩
      walk_at "rd"
      refine ⟨_, .inl (sqL et), ?_⟩
      rw [totV_len, show ((m + 1 : Nat) : Int) - 1 = (m : Int) by omega]
      have am := totV_at d r (empty d) (Nat.le_refl m)
      have ai := totV_at d r (empty d) (Nat.le_of_lt hi)
      walk_at "fd"
      exact ⟨by decide, fun q' hq' => k q' i m _ upd_same hi hmf he ra.few (f16.trans (Fr.new _ hq'))⟩
    · omega
end
end K53
end
section
set_option Elab.async false
set_option linter.all false
set_option maxRecDepth 100000
set_option maxHeartbeats 4000000
set_option pp.maxSteps 2500
namespace K53
open PySem PySem.Spec PyProof.Rows L2
local macro_rules | `(tactic| walk_at "rd") => `(tactic| (
  try dsimp only [tSeq, tIfS, tOr, tAnd, tNot, tNotV, tAndV, tOrV, tB, tCB, tCons, tNil, tVar, tC, tTest, tChain, tRet, tRetN, tNext, tOp, rI0, rI, tAsg, gName, tDrop, tIf, tTup, tLst, tFld, tUn, rU, tCall, tMeth, tMake, tProp, iStr, iTup, iList, iRng1, iRng2, iEnumT,
    tPar, tPar3, gTup, gCons, gNil, gSub, gUnl, rSetL, rIxL, rIxT, rAppend, rExtend, tBM, tBM0, sFld, sFldAug, tSl, tPart, tNoPart, rSlL, rSlA, rSlT, tAug, ipI, t2I, rEq, rNe, scal, List.append_nil, List.cons_append, List.nil_append, List.getElem?_cons_zero, List.getElem?_cons_succ, List.set_cons_zero, List.set_cons_succ,
    List.map_cons, List.map_nil]
  try simp only [Option.some.injEq, exists_eq_left', exists_eq_left, exists_eq_right, exists_eq', V.int.injEq, V.str.injEq, V.bl.injEq, V.ref.injEq, List.cons.injEq, and_true, true_and, and_assoc, exists_and_left, exists_const, Bool.not_true, Bool.not_false, Bool.false_eq_true, if_true, if_false, ite_true, ite_false, decide_true, decide_false, reduceCtorEq, false_and, false_or, or_false, List.cons_ne_nil, exists_false, List.length_cons, List.length_nil, Nat.reduceAdd, Nat.zero_add, Int.cast_ofNat_Int, Int.reduceEq, Int.reduceLT, Int.reduceLE, Int.reduceAdd, Int.reduceSub, at0, at1, at2, eq_self, List.reverse_cons, List.reverse_nil]))

local macro_rules | `(tactic| walk_at "fd") => `(tactic| (
  repeat (first
    | (apply And.intro
       · first
         | assumption
         | exact sqT (by assumption)
         | exact sqL (by assumption)
         | exact .inl (sqL (by assumption))
         | exact .inr (sqT (by assumption))
         | exact atI_nat (by assumption)
         | exact at0
         | exact at1
         | exact at2
         | exact bxF_rows _ _ _ _
         | exact bxF_stages _ _ _ _
         | exact bxF_pols _ _ _ _
         | exact bxF_mode _ _ _ _
         | exact bxF_told _ _ _ _
         | exact bxF_holds _ _ _ _
         | exact bxF_touch _ _ _ _
         | exact bxF_fill _ _ _ _
         | exact bxF_ask _ _ _ _
         | exact bxF_go_down _ _ _ _
         | exact bxF_moment _ _ _ _
         | exact BK.c (by assumption)
         | exact BK.rows (by assumption)
         | exact BK.stages (by assumption)
         | exact BK.policies (by assumption)
         | exact BK.mode (by assumption)
         | rfl)
    | with_reducible apply Exists.intro)))

structure CK (K : PySem.W.Frag) (C : Addr) : Prop where
  c : Cls K C
  pattern : NoAttr K C "pattern"
  box : NoAttr K C "box"
  hits : NoAttr K C "hit_number"
  misses : NoAttr K C "miss_number"
def caF (v : V) (p : Addr) (n m : Nat) : List (Str × V) := [("pattern", v), ("box", .ref p), ("hit_number", .int (n : Int)), ("miss_number", .int (m : Int))]
section
variable (v w : V) (p p' : Addr) (n m n' : Nat) (rest : List (Str × V))
theorem caF_pattern : (caF v p n m ++ rest).lookup ("pattern" : Str) = some v := by kernel_rfl
theorem caF_box : (caF v p n m ++ rest).lookup ("box" : Str) = some (.ref p) := by kernel_rfl
theorem caF_hits : (caF v p n m ++ rest).lookup ("hit_number" : Str) = some (.int (n : Int)) := by kernel_rfl
theorem caF_misses : (caF v p n m ++ rest).lookup ("miss_number" : Str) = some (.int (m : Int)) := by kernel_rfl
theorem caF_setB : putF ("box" : Str) (.ref p') (caF v p n m ++ rest) = caF v p' n m ++ rest := by kernel_rfl
theorem caF_setH : putF ("hit_number" : Str) (.int (n' : Int)) (caF v p n m ++ rest) = caF v p n' m ++ rest := by kernel_rfl
theorem caF_setM : putF ("miss_number" : Str) (.int (n' : Int)) (caF v p n m ++ rest) = caF v p n n' ++ rest := by kernel_rfl
theorem caF_note : (caF v p n m ++ []).lookup ("note_answer" : Str) = none := by kernel_rfl
theorem caF_req : (caF v p n m ++ []).lookup ("request" : Str) = none := by kernel_rfl
theorem caF_twin : (caF v p n m ++ []).lookup ("twin" : Str) = none := by kernel_rfl
theorem caF_btwin : (caF v p n m ++ []).lookup ("box_twin" : Str) = none := by kernel_rfl
theorem caF_over : (caF v p n m ++ []).lookup ("take_over" : Str) = none := by kernel_rfl
theorem caF_len : (caF v p n m ++ rest).length = rest.length + 4 := by simp [caF]
end
def OwnG (q p ls lr : Addr) (ll : List Addr) : Addr → Prop := fun c => c = q ∨ c = p ∨ c = ls ∨ c = lr ∨ c ∈ ll
structure CaAt (B C : Addr) (H : Hp) (q : Addr) (d : Dev) (b : Bx Nm) (n m : Nat) (v : V) (p ls lr : Addr) (ll : List Addr) (rest : List (Str × V)) : Prop where
  ob : ∃ dx, H q = some (.ins C dx (caF v p n m ++ rest))
  ba : BoxAt B H p d b ls lr ll
  tv : TN H v (devK d)
  ne : q ≠ p
section
variable {B C : Addr} {H H' : Hp} {q : Addr} {d : Dev} {b : Bx Nm} {n m : Nat} {v : V} {p ls lr : Addr} {ll : List Addr} {rest : List (Str × V)}
theorem CaAt.up {F : Addr → Prop} (x : CaAt B C H q d b n m v p ls lr ll rest) (f : Fr F H H') (h : ∀ c, OwnG q p ls lr ll c → ¬ F c) : CaAt B C H' q d b n m v p ls lr ll rest := by
  obtain ⟨⟨dx, ob⟩, ba, tv, ne⟩ := x
  exact ⟨⟨dx, f.keep _ _ ob (h _ (.inl rfl))⟩, ba.up f (h _ (.inr (.inl rfl))) (h _ (.inr (.inr (.inl rfl)))) (h _ (.inr (.inr (.inr (.inl rfl))))) fun c hc => h _ (.inr (.inr (.inr (.inr hc)))), tv.up f.tk, ne⟩
theorem CaAt.up0 (x : CaAt B C H q d b n m v p ls lr ll rest) (f : Fr F0 H H') : CaAt B C H' q d b n m v p ls lr ll rest := x.up f fun _ _ => id
theorem CaAt.nFB (x : CaAt B C H q d b n m v p ls lr ll rest) : ¬ FB ls ll q := by
  obtain ⟨⟨dx, ob⟩, ba, tv, ne⟩ := x
  rintro (z | z)
  · have := ba.st; rw [← z, ob] at this; cases this
  · obtain ⟨j, hj⟩ := List.mem_iff_getElem?.mp z
    have hjl : j < b.rw.length := by rw [← ba.ln]; exact (List.getElem?_eq_some_iff.mp hj).1
    have := ba.li j q _ hj (List.getElem?_eq_getElem hjl)
    rw [ob] at this; cases this
theorem CaAt.qne (x : CaAt B C H q d b n m v p ls lr ll rest) : q ≠ ls ∧ q ≠ lr ∧ q ∉ ll := by
  refine ⟨fun z => x.nFB (.inl z), fun z => ?_, fun z => x.nFB (.inr z)⟩
  obtain ⟨⟨dx, ob⟩, ba, tv, ne⟩ := x
  have := ba.rw; rw [← z, ob] at this; cases this
/-- all that is owned stands in the heap -/
theorem CaAt.dom (x : CaAt B C H q d b n m v p ls lr ll rest) {c : Addr} (h : H c = none) : ¬ OwnG q p ls lr ll c := by
  obtain ⟨n1, n2, n3, n4, n5⟩ := x.ba.dom (H1 := H) h
  rintro (z | z | z | z | z)
  · obtain ⟨dx, ob⟩ := x.ob; rw [z, ob] at h; cases h
  · exact n1 z
  · exact n3 z
  · exact n4 z
  · exact n5 z
end
section
variable {P : Program} {w : World} {K : PySem.W.Frag} {mg : Str → Option Value} {base : Heap} {B C : Addr}
abbrev sCSt : Stmt := (inClass (top 38) 5)
abbrev sCStN : List Str := ["self"]
theorem sCStS : FnScope sCStN ["self"] (defScope sCSt) := ⟨rfl, rfl, rfl, by decide +kernel, rfl, by decide +kernel, by decide +kernel⟩
def spCSt (B C : Addr) : Sp := fun vs H Q _ => ∃ (q : Addr) (d : Dev) (b : Bx Nm) (n m : Nat) (v : V) (p ls lr : Addr) (ll : List Addr) (rest : List (Str × V)), vs = [.ref q] ∧ CaAt B C H q d b n m v p ls lr ll rest ∧ ∀ z H', TN H' z (.tup (nums b.st)) → Fr F0 H H' → Q z H'
theorem ok_cstates {f : Addr} {fd : FuncData} (F : Fun K "states" "Cache.states" sCSt f fd) (Bb : Bi mg) (bk : BK K B) (ck : CK K C) : FnOk P w K mg base CX0 1 f fd ["self"] (spCSt B C) := by
  refine F.ok sCStS (fun vs H Q E h => ?_) (fun cdv A outer s H vs Q E hr h => ?_)
  · obtain ⟨q, d, b, n, m, v, p, ls, lr, ll, rest, rfl, _⟩ := h
    rfl
  · obtain ⟨q, d, b, n, m, v, p, ls, lr, ll, rest, rfl, ca, k⟩ := h
    obtain ⟨dx, ob⟩ := ca.ob
    obtain ⟨dy, pt, ob2, _⟩ := ca.ba.ob
    refine ⟨_, (pss_one (ps_ret (pe_callTy (T := "tuple") call_tuple_of (by rfl) Bb.tuple (by decide +kernel) (pa_cons (pe_fld (pe_fld (pv 0) rfl) rfl) pa_nil)))), ?_⟩
    rw [show L2.start sCStN [.ref q] = [some (.ref q)] from rfl]
    walk_at "rd"
    refine ⟨_, _, _, ob, ck.c, ck.box, _, caF_box _ _ _ _ _, _, rfl, _, _, _, ob2, bk.c, bk.stages, _, bxF_stages _ _ _ _, _, rfl, _, .inl ⟨sqL ca.ba.st, fun l hl => ?_⟩⟩
    exact k _ _ (tn_made hl (numV_tn _ _)) (Fr.new _ hl)
abbrev sCLv : Stmt := (inClass (top 38) 6)
abbrev sCLvN : List Str := ["self", "lines"]
theorem sCLvS : FnScope sCLvN ["self"] (defScope sCLv) := ⟨rfl, rfl, rfl, by decide +kernel, rfl, by decide +kernel, by decide +kernel⟩
def spCLv (B C : Addr) : Sp := fun vs H Q _ => ∃ (q : Addr) (d : Dev) (b : Bx Nm) (n m : Nat) (v : V) (p ls lr : Addr) (ll : List Addr) (rest : List (Str × V)), vs = [.ref q] ∧ CaAt B C H q d b n m v p ls lr ll rest ∧ ∀ z H', TN H' z (lvK b) → Fr F0 H H' → Q z H'
theorem ok_clevels {f : Addr} {fd : FuncData} (F : Fun K "levels" "Cache.levels" sCLv f fd) (Bb : Bi mg) (bk : BK K B) (ck : CK K C) : FnOk P w K mg base CX0 1 f fd ["self"] (spCLv B C) := by
  refine F.ok sCLvS (fun vs H Q E h => ?_) (fun cdv A outer s H vs Q E hr h => ?_)
  · obtain ⟨q, d, b, n, m, v, p, ls, lr, ll, rest, rfl, _⟩ := h
    rfl
  · obtain ⟨q, d, b, n, m, v, p, ls, lr, ll, rest, rfl, ca, k⟩ := h
    obtain ⟨dx, ob⟩ := ca.ob
    have ba := ca.ba
    obtain ⟨dy, pt, ob2, _⟩ := ba.ob
    refine ⟨_, (pss_one (ps_ret (pe_callTy (T := "tuple") call_tuple_of (by rfl) Bb.tuple (by decide +kernel) (pa_cons (pe_lc (own := [("lines", 1)]) (g := gName 1) (tt := tYes) rfl sCLvS.nd (pi_list (pe_fld (pe_fld (pv 0) rfl) rfl)) (blkOk_by (N := sCLvN) (sc := (defScope sCLv)) (by decide +kernel)) (fun _ _ _ _ _ => pg_name (i := 1) sCLvS.nd rfl (Or.inl rfl)) (fun _ _ _ _ _ => pts_nil) (fun _ _ _ _ _ => (pe_callTy (T := "tuple") (k_tuple (K := K) rfl) (by rfl) Bb.tuple (by decide +kernel) (pa_cons (pv 1) pa_nil)))) pa_nil)))), ?_⟩
    rw [show L2.start sCLvN [.ref q] = [some (.ref q), none] from rfl]
    walk_at "rd"
    refine tlc rfl ?_
    walk_at "rd"
    refine ⟨_, _, _, ob, ck.c, ck.box, _, caF_box _ _ _ _ _, _, rfl, _, _, _, ob2, bk.c, bk.rows, _, bxF_rows _ _ _ _, _, rfl, ⟨_, sqL ba.rw⟩, ?_⟩
    refine lc_fr (walk_list (K := K) (a := lr) (xs := ll.map V.ref)) F0 (fun D i acc H' => TNs H' acc ((b.rw.take i).map fun r => .tup (r.map optK))) (fun _ _ _ _ fr _ => sqL (fr.keep _ _ ba.rw id)) (fun _ _ => .nil) ?_ ?_
    · rintro D i y H1 H2 acc hD hi el fr ht e ⟨rfl, hy⟩
      obtain ⟨a, ha, rfl⟩ := mapGet hy
      have hi' : i < b.rw.length := by rw [← ba.ln]; simpa using hi
      have hr' := List.getElem?_eq_getElem hi'
      have ea := fr.keep _ _ (ba.li i a _ ha hr') id
      walk_at "rd"
      refine ⟨_, .inl ⟨sqL ea, fun l hl => ?_⟩⟩
      have g : Fr F0 H2 (upd H2 l (.tup (b.rw[i].map ov))) := Fr.new _ hl
      have e' := g.keep _ _ e id
      refine LcQ.mk hD e' el ?_ (fr.trans g) ?_
      · have := ba.ok.rl
        have := ba.dok.two
        exact Nat.lt_of_lt_of_le (show i < 3 by omega) (by decide)
      · rw [List.take_succ, hr', List.map_append]
        have hlD : l ≠ D := fun z => by rw [z, e] at hl; cases hl
        refine ((ht.up g.tk).up (tk_setL _ e')).append (.cons (.tup (by rw [upd_ne hlD]; exact upd_same) (ovs_tn _ _)) .nil)
    · rintro D acc H1 hD el fr ht e
      rw [List.length_map, ba.ln, List.take_length] at ht
      refine ⟨D, rfl, _, .inl ⟨sqL e, fun l hl => ?_⟩⟩
      exact k _ _ (tn_made hl ht) (fr.trans (Fr.new _ hl))
abbrev sCMs : Stmt := (inClass (top 38) 9)
abbrev sCMsN : List Str := ["self"]
theorem sCMsS : FnScope sCMsN ["self"] (defScope sCMs) := ⟨rfl, rfl, rfl, by decide +kernel, rfl, by decide +kernel, by decide +kernel⟩
def spCMs (B C : Addr) : Sp := fun vs H Q _ => ∃ (q : Addr) (d : Dev) (b : Bx Nm) (n m : Nat) (v : V) (p ls lr : Addr) (ll : List Addr) (rest : List (Str × V)), vs = [.ref q] ∧ CaAt B C H q d b n m v p ls lr ll rest ∧ Q (.int (m : Int)) H
theorem ok_cmisses {f : Addr} {fd : FuncData} (F : Fun K "misses" "Cache.misses" sCMs f fd) (ck : CK K C) : FnOk P w K mg base CX0 1 f fd ["self"] (spCMs B C) := by
  refine F.ok sCMsS (fun vs H Q E h => ?_) (fun cdv A outer s H vs Q E hr h => ?_)
  · obtain ⟨q, d, b, n, m, v, p, ls, lr, ll, rest, rfl, _⟩ := h
    rfl
  · obtain ⟨q, d, b, n, m, v, p, ls, lr, ll, rest, rfl, ca, k⟩ := h
    obtain ⟨dx, ob⟩ := ca.ob
    refine ⟨_, (pss_one (ps_ret (pe_fld (pv 0) rfl))), ?_⟩
    rw [show L2.start sCMsN [.ref q] = [some (.ref q)] from rfl]
    walk_at "rd"
    exact ⟨_, _, _, ob, ck.c, ck.misses, _, caF_misses _ _ _ _ _, k⟩
abbrev sNote : Stmt := (inClass (top 38) 10)
abbrev sNoteN : List Str := ["self", "answer"]
theorem sNoteS : FnScope sNoteN ["self", "answer"] (defScope sNote) := ⟨rfl, rfl, rfl, by decide +kernel, rfl, by decide +kernel, by decide +kernel⟩
def spNote (C : Addr) : Sp := fun vs H Q _ => ∃ (q dx : Addr) (a : Bool) (v : V) (p : Addr) (n m : Nat) (rest : List (Str × V)), vs = [.ref q, .bl a] ∧ H q = some (.ins C dx (caF v p n m ++ rest)) ∧ rest.length < 900 ∧
  Q (.bl a) (upd H q (.ins C dx (caF v p (if a = true then n + 1 else n) (if a = true then m else m + 1) ++ rest)))
theorem ok_note {f : Addr} {fd : FuncData} (F : Fun K "note_answer" "Cache.note_answer" sNote f fd) (ck : CK K C) : FnOk P w K mg base CX0 1 f fd ["self", "answer"] (spNote C) := by
  refine F.ok sNoteS (fun vs H Q E h => ?_) (fun cdv A outer s H vs Q E hr h => ?_)
  · obtain ⟨q, dx, a, v, p, n, m, rest, rfl, _⟩ := h
    rfl
  · obtain ⟨q, dx, a, v, p, n, m, rest, rfl, ob, hl, k⟩ := h
    refine ⟨_, (pss_cons (ps_if (pt_val (pv 1)) (pss_one (ps_fldaug (pv 0) pe_int in_add)) (pss_one (ps_fldaug (pv 0) pe_int in_add)))
      (pss_one (ps_ret (pv 1)))), ?_⟩
    rw [show L2.start sNoteN [.ref q, .bl a] = [some (.ref q), some (.bl a)] from rfl]
    walk_at "rd"
    cases a with
    | true =>
      rw [if_pos rfl]
      refine ⟨_, _, _, ob, ck.c, ck.hits, _, caF_hits _ _ _ _ _, n, 1, rfl, rfl, dx, _, ob, by rw [caF_len]; omega, ?_⟩
      rw [show (n : Int) + 1 = ((n + 1 : Nat) : Int) from rfl, caF_setH]
      exact k
    | false =>
      rw [if_neg (by decide)]
      refine ⟨_, _, _, ob, ck.c, ck.misses, _, caF_misses _ _ _ _ _, m, 1, rfl, rfl, dx, _, ob, by rw [caF_len]; omega, ?_⟩
      rw [show (m : Int) + 1 = ((m + 1 : Nat) : Int) from rfl, caF_setM]
      exact k
abbrev sCReq : Stmt := (inClass (top 38) 11)
abbrev sCReqN : List Str := ["self", "name"]
theorem sCReqS : FnScope sCReqN ["self", "name"] (defScope sCReq) := ⟨rfl, rfl, rfl, by decide +kernel, rfl, by decide +kernel, by decide +kernel⟩
def spCReq (B C : Addr) : Sp := fun vs H Q _ => ∃ (q : Addr) (x : Nm) (d : Dev) (b : Bx Nm) (n m : Nat) (v : V) (p ls lr : Addr) (ll : List Addr), vs = [.ref q, .str x] ∧ nameOk x ∧ CaAt B C H q d b n m v p ls lr ll [] ∧
  ∀ H' n', n' + (m + (if holds b x = true then 0 else 1)) = n + m + 1 → CaAt B C H' q d (askB d b x) n' (m + (if holds b x = true then 0 else 1)) v p ls lr ll [] → Fr (OwnG q p ls lr ll) H H' → Q (.bl (holds b x)) H'
theorem ok_crequest {f : Addr} {fd : FuncData} (F : Fun K "request" "Cache.request" sCReq f fd) (bk : BK K B) (ck : CK K C) (cB : Cls K B) (cC : Cls K C) (D_check_name : Def P w K mg base "check_name" ["name"] 2 spChkName) (D_ask : MDef P w K mg base B "ask" ["self", "name"] 4 (spAsk B)) (D_note_answer : MDef P w K mg base C "note_answer" ["self", "answer"] 1 (spNote C)) :
    FnOk P w K mg base CX0 5 f fd ["self", "name"] (spCReq B C) := by
  refine F.ok sCReqS (fun vs H Q E h => ?_) (fun cdv A outer s H vs Q E hr h => ?_)
  · obtain ⟨q, x, d, b, n, m, v, p, ls, lr, ll, rfl, _⟩ := h
    rfl
  · obtain ⟨q, x, d, b, n, m, v, p, ls, lr, ll, rfl, hx, ca, k⟩ := h
    refine ⟨_, (pss_cons (ps_expr (pe_def D_check_name (hr.mono (by decide)) (by rfl) (pa_cons (pv 1) pa_nil)))
      (pss_one (ps_ret (pe_mdef (pv 0) cC D_note_answer (hr.mono (by decide)) (pa_cons (pe_mdef (pe_fld (pv 0) rfl) cB D_ask (hr.mono (by decide)) (pa_cons (pv 1) pa_nil)) pa_nil))))), ?_⟩
    rw [show L2.start sCReqN [.ref q, .str x] = [some (.ref q), some (.str x)] from rfl]
    walk_at "rd"
    refine ⟨x, rfl, hx, fun H1 f1 => ?_⟩
    have ca1 := ca.up0 f1
    obtain ⟨dx, ob⟩ := ca1.ob
    obtain ⟨dy, pt, ob2, _⟩ := ca1.ba.ob
    walk_at "rd"
    refine ⟨_, _, ob, caF_note _ _ _ _, _, _, _, ob, ck.c, ck.box, _, caF_box _ _ _ _ _, p, rfl, _, _, ob2, bxF_ask _ _ _ _, p, x, d, b, ls, lr, ll, rfl, ca1.ba, fun H2 ba2 f2 => ?_⟩
    have ob3 := f2.keep _ _ ob ca1.nFB
    refine ⟨q, dx, holds b x, v, p, n, m, [], rfl, ob3, by decide, ?_⟩
    have g3 : Fr (· = q) H2 (upd H2 q (.ins C dx (caF v p (if holds b x = true then n + 1 else n) (if holds b x = true then m else m + 1) ++ []))) := Fr.setI _ ob3 rfl
    have hm : (if holds b x = true then m else m + 1) = m + (if holds b x = true then 0 else 1) := by split <;> rfl
    obtain ⟨n1, n2, n3⟩ := ca.qne
    refine k _ (if holds b x = true then n + 1 else n) (by split <;> omega) ⟨⟨dx, by rw [← hm]; exact upd_same⟩, ba2.up g3 (Ne.symm ca.ne) (Ne.symm n1) (Ne.symm n2) (fun c hc z => n3 (z ▸ hc)), ((ca1.tv.up f2.tk).up g3.tk), ca.ne⟩ ?_
    exact (f1.any.trans (f2.weak fun c o e z => z.elim (fun z => .inr (.inr (.inl z))) fun z => .inr (.inr (.inr (.inr z))))).trans (g3.weak fun c o e z => .inl z)
abbrev sBTw : Stmt := (inClass (top 38) 14)
abbrev sBTwN : List Str := ["self", "states", "contents"]
theorem sBTwS : FnScope sBTwN ["self"] (defScope sBTw) := ⟨rfl, rfl, rfl, by decide +kernel, rfl, by decide +kernel, by decide +kernel⟩
def spBTw (B C : Addr) : Sp := fun vs H Q _ => ∃ (q : Addr) (d : Dev) (b : Bx Nm) (n m : Nat) (v : V) (p ls lr : Addr) (ll : List Addr) (rest : List (Str × V)), vs = [.ref q] ∧ CaAt B C H q d b n m v p ls lr ll rest ∧
  ∀ H' p' ls' lr' ll', BoxAt B H' p' d b ls' lr' ll' → Fr F0 H H' → H p' = none → H ls' = none → H lr' = none → (∀ a ∈ ll', H a = none) → Q (.ref p') H'
theorem ok_box_twin {f : Addr} {fd : FuncData} (F : Fun K "box_twin" "Cache.box_twin" sBTw f fd) (bk : BK K B) (ck : CK K C) (cB : Cls K B) (D_moment : MDef P w K mg base B "moment" ["self"] 1 (spMom B)) (D_box_at : Def P w K mg base "box_at" ["device", "states", "contents"] 3 (spBoxAt B)) :
    FnOk P w K mg base CX0 4 f fd ["self"] (spBTw B C) := by
  refine F.ok sBTwS (fun vs H Q E h => ?_) (fun cdv A outer s H vs Q E hr h => ?_)
  · obtain ⟨q, d, b, n, m, v, p, ls, lr, ll, rest, rfl, _⟩ := h
    rfl
  · obtain ⟨q, d, b, n, m, v, p, ls, lr, ll, rest, rfl, ca, k⟩ := h
    obtain ⟨dx, ob⟩ := ca.ob
    obtain ⟨dy, pt, ob2, _⟩ := ca.ba.ob
    refine ⟨_, (pss_cons (ps_asg (pe_mdef0 (pe_fld (pv 0) rfl) cB D_moment (hr.mono (by decide))) (pg_tup rfl (pgs_cons (pg_name (i := 1) sBTwS.nd rfl (Or.inl rfl)) (pgs_cons (pg_name (i := 2) sBTwS.nd rfl (Or.inl rfl)) pgs_nil))))
      (pss_one (ps_ret (pe_def D_box_at (hr.mono (by decide)) (by rfl) (pa_cons (pe_fld (pv 0) rfl) (pa_cons (pv 1) (pa_cons (pv 2) pa_nil))))))), ?_⟩
    rw [show L2.start sBTwN [.ref q] = [some (.ref q), none, none] from rfl]
    walk_at "rd"
    refine ⟨_, _, _, ob, ck.c, ck.box, _, caF_box _ _ _ _ _, p, rfl, _, _, ob2, bxF_moment _ _ _ _, p, d, b, ls, lr, ll, rfl, ca.ba, fun z H1 tz f1 => ?_⟩
    obtain ⟨a, xs, rfl, ea, tx⟩ := tz.tup_inv
    cases tx with | cons t1 tx =>
    cases tx with | cons t2 tx =>
    cases tx
    walk_at "rd"
    refine ⟨_, sqT ea, rfl, ?_⟩
    walk_at "rd"
    refine ⟨_, _, _, f1.keep _ _ ob id, ck.c, ck.pattern, _, caF_pattern _ _ _ _ _, v, _, _, d, b, rfl, ca.tv.up f1.tk, ca.ba.dok, ca.ba.ok, t1, t2, fun H2 p' ls' lr' ll' ba2 f2 h1 h2 h3 h4 => ?_⟩
    exact k H2 p' ls' lr' ll' ba2 (f1.trans f2) (f1.dom _ h1) (f1.dom _ h2) (f1.dom _ h3) fun c hc => f1.dom _ (h4 c hc)
theorem cf1 (v : V) : putF ("pattern" : Str) v [] = ([("pattern", v)] : List (Str × V)) := by kernel_rfl
theorem cf2 (v w : V) : putF ("box" : Str) w ([("pattern", v)] : List (Str × V)) = ([("pattern", v), ("box", w)] : List (Str × V)) := by kernel_rfl
theorem cf3 (u v w : V) : putF ("hit_number" : Str) w ([("pattern", u), ("box", v)] : List (Str × V)) = ([("pattern", u), ("box", v), ("hit_number", w)] : List (Str × V)) := by kernel_rfl
theorem cf4 (t u v w : V) : putF ("miss_number" : Str) w ([("pattern", t), ("box", u), ("hit_number", v)] : List (Str × V)) = ([("pattern", t), ("box", u), ("hit_number", v), ("miss_number", w)] : List (Str × V)) := by kernel_rfl
abbrev sCInit : Stmt := (inClass (top 38) 2)
abbrev sCInitN : List Str := ["self", "device"]
theorem sCInitS : FnScope sCInitN ["self", "device"] (defScope sCInit) := ⟨rfl, rfl, rfl, by decide +kernel, rfl, by decide +kernel, by decide +kernel⟩
def spCInit (B C : Addr) : Sp := fun vs H Q _ => ∃ (q dx : Addr) (v : V) (d : Dev), vs = [.ref q, v] ∧ H q = some (.ins C dx []) ∧ TN H v (devK d) ∧ DevOk d ∧
  ∀ H' p ls lr ll, CaAt B C H' q d (empty d) 0 0 v p ls lr ll [] → Fr (· = q) H H' → H p = none → H ls = none → H lr = none → (∀ a ∈ ll, H a = none) → Q .non H'
theorem ok_cinit {f : Addr} {fd : FuncData} (F : Fun K "__init__" "Cache.__init__" sCInit f fd) (ck : CK K C) (D_check_device : Def P w K mg base "check_device" ["device"] 6 spChkDev) (D_Box : CDef P w K mg base B "Box" ["self", "device"] 1 (spBInit B)) :
    FnOk P w K mg base CX0 7 f fd ["self", "device"] (spCInit B C) := by
  refine F.ok sCInitS (fun vs H Q E h => ?_) (fun cdv A outer s H vs Q E hr h => ?_)
  · obtain ⟨q, dx, v, d, rfl, _⟩ := h
    rfl
  · obtain ⟨q, dx, v, d, rfl, ob, tv, dok, k⟩ := h
    refine ⟨_, (pss_cons (ps_expr (pe_def D_check_device (hr.mono (by decide)) (by rfl) (pa_cons (pv 1) pa_nil)))
      (pss_cons (ps_fld (pv 0) (pv 1) rfl)
      (pss_cons (ps_fld (pv 0) (pe_cdef D_Box (hr.mono (by decide)) (by rfl) (pa_cons (pv 1) pa_nil)) rfl)
      (pss_cons (ps_fld (pv 0) pe_int rfl)
      (pss_one (ps_fld (pv 0) pe_int rfl)))))), ?_⟩
    rw [show L2.start sCInitN [.ref q, v] = [some (.ref q), some v] from rfl]
    walk_at "rd"
    refine ⟨v, d, rfl, tv, dok, fun H1 f1 => ?_⟩
    have ob1 := f1.keep _ _ ob id
    walk_at "rd"
    refine ⟨_, _, _, ob1, ck.c, ck.pattern, by decide, ?_⟩
    rw [cf1]
    have g2 : Fr (· = q) H (upd H1 q (.ins C dx [(("pattern" : Str), v)])) := f1.any.trans (Fr.setI _ ob1 rfl)
    have ob2 : upd H1 q (.ins C dx [(("pattern" : Str), v)]) q = _ := upd_same
    generalize upd H1 q (.ins C dx [(("pattern" : Str), v)]) = H2 at g2 ob2 ⊢
    walk_at "rd"
    intro p dy hp hdy ne
    have f0 := fr_make (o1 := .own p) (o2 := .ins B dy []) hp hdy ne
    refine ⟨p, dy, v, d, rfl, upd_same, tv.up (g2.tk.trans f0.tk), dok, fun H4 ls lr ll ba f4 hls hlr hll => ?_⟩
    have f24 : Fr F0 H2 H4 := f0.after f4 fun c z => by rw [z]; exact hp
    have ob4 := f24.keep _ _ ob2 id
    have nqp : q ≠ p := ne_of_none ob2 hp
    have nqls : q ≠ ls := ne_of_none ob2 (f0.dom _ hls)
    have nqlr : q ≠ lr := ne_of_none ob2 (f0.dom _ hlr)
    have nqll : ∀ c ∈ ll, q ≠ c := fun c hc => ne_of_none ob2 (f0.dom _ (hll c hc))
    refine ⟨rfl, _, _, _, ob4, ck.c, ck.box, by show (1 : Nat) < 1000; decide, ?_⟩
    rw [cf2]
    have ob5 : upd H4 q (.ins C dx [(("pattern" : Str), v), (("box" : Str), V.ref p)]) q = _ := upd_same
    have g5 : Fr (· = q) H4 (upd H4 q (.ins C dx [(("pattern" : Str), v), (("box" : Str), V.ref p)])) := Fr.setI _ ob4 rfl
    generalize upd H4 q (.ins C dx [(("pattern" : Str), v), (("box" : Str), V.ref p)]) = H5 at g5 ob5 ⊢
    walk_at "rd"
    refine ⟨_, _, _, ob5, ck.c, ck.hits, by show (2 : Nat) < 1000; decide, ?_⟩
    rw [cf3]
    have ob6 : upd H5 q (.ins C dx [(("pattern" : Str), v), (("box" : Str), V.ref p), (("hit_number" : Str), V.int 0)]) q = _ := upd_same
    have g6 : Fr (· = q) H5 (upd H5 q (.ins C dx [(("pattern" : Str), v), (("box" : Str), V.ref p), (("hit_number" : Str), V.int 0)])) := Fr.setI _ ob5 rfl
    generalize upd H5 q (.ins C dx [(("pattern" : Str), v), (("box" : Str), V.ref p), (("hit_number" : Str), V.int 0)]) = H6 at g6 ob6 ⊢
    walk_at "rd"
    refine ⟨_, _, _, ob6, ck.c, ck.misses, by show (3 : Nat) < 1000; decide, ?_⟩
    rw [cf4]
    have g7 : Fr (· = q) H6 (upd H6 q (.ins C dx (caF v p 0 0 ++ []))) := Fr.setI _ ob6 rfl
    have g47 := (g5.trans g6).trans g7
    have g07 : Fr (· = q) H (upd H6 q (.ins C dx (caF v p 0 0 ++ []))) := (g2.trans f24.any).trans g47
    have fd := fun c (h : upd (upd H2 dy (.own p)) p (.ins B dy []) c = none) => g2.dom _ (f0.dom c h)
    exact k _ p ls lr ll ⟨⟨dx, upd_same⟩, ba.up g47 (Ne.symm nqp) (Ne.symm nqls) (Ne.symm nqlr) (fun c hc => Ne.symm (nqll c hc)), tv.up g07.tk, nqp⟩ g07 (g2.dom _ hp) (fd _ hls) (fd _ hlr) fun c hc => fd _ (hll c hc)
abbrev sOver : Stmt := (inClass (top 38) 15)
abbrev sOverN : List Str := ["self", "other"]
theorem sOverS : FnScope sOverN ["self", "other"] (defScope sOver) := ⟨rfl, rfl, rfl, by decide +kernel, rfl, by decide +kernel, by decide +kernel⟩
def spOver (B C : Addr) : Sp := fun vs H Q _ => ∃ (q' q dx : Addr) (d : Dev) (b : Bx Nm) (n m n0 m0 : Nat) (v v' : V) (p0 p ls lr : Addr) (ll : List Addr), vs = [.ref q', .ref q] ∧ q' ≠ q ∧ H q' = some (.ins C dx (caF v' p0 n0 m0 ++ [])) ∧ TN H v' (devK d) ∧ CaAt B C H q d b n m v p ls lr ll [] ∧
  ∀ H' p' ls' lr' ll', CaAt B C H' q' d b n m v' p' ls' lr' ll' [] → Fr (· = q') H H' → H p' = none → H ls' = none → H lr' = none → (∀ a ∈ ll', H a = none) → Q .non H'
theorem ok_take_over {f : Addr} {fd : FuncData} (F : Fun K "take_over" "Cache.take_over" sOver f fd) (ck : CK K C) (cC : Cls K C) (D_box_twin : MDef P w K mg base C "box_twin" ["self"] 4 (spBTw B C)) :
    FnOk P w K mg base CX0 5 f fd ["self", "other"] (spOver B C) := by
  refine F.ok sOverS (fun vs H Q E h => ?_) (fun cdv A outer s H vs Q E hr h => ?_)
  · obtain ⟨q', q, dx, d, b, n, m, n0, m0, v, v', p0, p, ls, lr, ll, rfl, _⟩ := h
    rfl
  · obtain ⟨q', q, dx, d, b, n, m, n0, m0, v, v', p0, p, ls, lr, ll, rfl, ne, ob', tv', ca, k⟩ := h
    obtain ⟨dy, ob⟩ := ca.ob
    refine ⟨_, (pss_cons (ps_fld (pv 0) (pe_mdef0 (pv 1) cC D_box_twin (hr.mono (by decide))) rfl)
      (pss_cons (ps_fld (pv 0) (pe_fld (pv 1) rfl) rfl)
      (pss_one (ps_fld (pv 0) (pe_fld (pv 1) rfl) rfl)))), ?_⟩
    rw [show L2.start sOverN [.ref q', .ref q] = [some (.ref q'), some (.ref q)] from rfl]
    walk_at "rd"
    refine ⟨_, _, ob, caF_btwin _ _ _ _, q, d, b, n, m, v, p, ls, lr, ll, [], rfl, ca, fun H1 p' ls' lr' ll' ba f1 h1 h2 h3 h4 => ?_⟩
    have ob1' := f1.keep _ _ ob' id
    have ob1 := f1.keep _ _ ob id
    have n1 : q' ≠ p' := ne_of_none ob' h1
    have n2 : q' ≠ ls' := ne_of_none ob' h2
    have n3 : q' ≠ lr' := ne_of_none ob' h3
    have n4 : ∀ c ∈ ll', q' ≠ c := fun c hc => ne_of_none ob' (h4 c hc)
    walk_at "rd"
    refine ⟨_, _, _, ob1', ck.c, ck.box, by rw [caF_len]; decide, ?_⟩
    rw [caF_setB]
    have ob2' : upd H1 q' (.ins C dx (caF v' p' n0 m0 ++ [])) q' = _ := upd_same
    have g2 : Fr (· = q') H1 (upd H1 q' (.ins C dx (caF v' p' n0 m0 ++ []))) := Fr.setI _ ob1' rfl
    generalize upd H1 q' (.ins C dx (caF v' p' n0 m0 ++ [])) = H2 at g2 ob2' ⊢
    have ob2 := g2.keep _ _ ob1 (Ne.symm ne)
    refine ⟨_, _, _, ob2, ck.c, ck.hits, _, caF_hits _ _ _ _ _, _, _, _, ob2', ck.c, ck.hits, by rw [caF_len]; decide, ?_⟩
    rw [caF_setH]
    have ob3' : upd H2 q' (.ins C dx (caF v' p' n m0 ++ [])) q' = _ := upd_same
    have g3 : Fr (· = q') H2 (upd H2 q' (.ins C dx (caF v' p' n m0 ++ []))) := Fr.setI _ ob2' rfl
    generalize upd H2 q' (.ins C dx (caF v' p' n m0 ++ [])) = H3 at g3 ob3' ⊢
    have ob3 := g3.keep _ _ ob2 (Ne.symm ne)
    refine ⟨_, _, _, ob3, ck.c, ck.misses, _, caF_misses _ _ _ _ _, _, _, _, ob3', ck.c, ck.misses, by rw [caF_len]; decide, ?_⟩
    rw [caF_setM]
    have g4 : Fr (· = q') H3 (upd H3 q' (.ins C dx (caF v' p' n m ++ []))) := Fr.setI _ ob3' rfl
    have g14 := (g2.trans g3).trans g4
    have g04 := (f1.any (F' := (· = q'))).trans g14
    exact k _ p' ls' lr' ll' ⟨⟨dx, upd_same⟩, ba.up g14 (Ne.symm n1) (Ne.symm n2) (Ne.symm n3) (fun c hc => Ne.symm (n4 c hc)), tv'.up g04.tk, n1⟩ g04 h1 h2 h3 h4
abbrev sTwin : Stmt := (inClass (top 38) 16)
abbrev sTwinN : List Str := ["self", "other"]
theorem sTwinS : FnScope sTwinN ["self"] (defScope sTwin) := ⟨rfl, rfl, rfl, by decide +kernel, rfl, by decide +kernel, by decide +kernel⟩
def spTwin (B C : Addr) : Sp := fun vs H Q _ => ∃ (q : Addr) (d : Dev) (b : Bx Nm) (n m : Nat) (v : V) (p ls lr : Addr) (ll : List Addr), vs = [.ref q] ∧ CaAt B C H q d b n m v p ls lr ll [] ∧
  ∀ H' q' p' ls' lr' ll', CaAt B C H' q' d b n m v p' ls' lr' ll' [] → Fr F0 H H' → (∀ c, OwnG q' p' ls' lr' ll' c → H c = none) → Q (.ref q') H'
theorem ok_twin {f : Addr} {fd : FuncData} (F : Fun K "twin" "Cache.twin" sTwin f fd) (ck : CK K C) (cC : Cls K C) (D_Cache : CDef P w K mg base C "Cache" ["self", "device"] 7 (spCInit B C)) (D_take_over : MDef P w K mg base C "take_over" ["self", "other"] 5 (spOver B C)) :
    FnOk P w K mg base CX0 9 f fd ["self"] (spTwin B C) := by
  refine F.ok sTwinS (fun vs H Q E h => ?_) (fun cdv A outer s H vs Q E hr h => ?_)
  · obtain ⟨q, d, b, n, m, v, p, ls, lr, ll, rfl, _⟩ := h
    rfl
  · obtain ⟨q, d, b, n, m, v, p, ls, lr, ll, rfl, ca, k⟩ := h
    obtain ⟨dy, ob⟩ := ca.ob
    refine ⟨_, (pss_cons (ps_set (i := 1) sTwinS.nd rfl (Or.inl rfl) (pe_cdef D_Cache (hr.mono (by decide)) (by rfl) (pa_cons (pe_fld (pv 0) rfl) pa_nil)))
      (pss_cons (ps_expr (pe_mdef (pv 1) cC D_take_over (hr.mono (by decide)) (pa_cons (pv 0) pa_nil)))
      (pss_one (ps_ret (pv 1))))), ?_⟩
    rw [show L2.start sTwinN [.ref q] = [some (.ref q), none] from rfl]
    walk_at "rd"
    refine ⟨_, _, _, ob, ck.c, ck.pattern, _, caF_pattern _ _ _ _ _, fun q' dx hq' hdx ne => ?_⟩
    have f0 := fr_make (o1 := .own q') (o2 := .ins C dx []) hq' hdx ne
    refine ⟨q', dx, v, d, rfl, upd_same, ca.tv.up f0.tk, ca.ba.dok, fun H1 p1 ls1 lr1 ll1 ca1 f1 h1 h2 h3 h4 => ?_⟩
    have f01 : Fr F0 H H1 := f0.after f1 fun c z => by rw [z]; exact hq'
    have nq : q' ≠ q := (ne_of_none ob hq').symm
    obtain ⟨dz, ob1⟩ := ca1.ob
    walk_at "rd"
    refine ⟨_, _, ob1, caF_over _ _ _ _, q', q, dz, d, b, n, m, 0, 0, v, v, p1, p, ls, lr, ll, rfl, nq, ob1, ca1.tv, ca.up0 f01, fun H2 p' ls' lr' ll' ca2 f2 h1 h2 h3 h4 => ?_⟩
    walk_at "rd"
    refine k _ q' p' ls' lr' ll' ca2 (f01.after f2 fun c z => by rw [z]; exact hq') fun c z => ?_
    rcases z with z | z | z | z | z
    · rw [z]; exact hq'
    · rw [z]; exact f01.dom _ h1
    · rw [z]; exact f01.dom _ h2
    · rw [z]; exact f01.dom _ h3
    · exact f01.dom _ (h4 c z)
end
end K53
end
section
set_option Elab.async false
set_option linter.all false
set_option maxRecDepth 100000
set_option maxHeartbeats 4000000
set_option pp.maxSteps 2500
namespace K53
open PySem PySem.Spec PyProof.Rows L2
local macro_rules | `(tactic| walk_at "rd") => `(tactic| (
  try dsimp only [tSeq, tIfS, tOr, tAnd, tNot, tNotV, tAndV, tOrV, tB, tCB, tCons, tNil, tVar, tC, tTest, tChain, tRet, tRetN, tNext, tOp, rI0, rI, tAsg, gName, tDrop, tIf, tTup, tLst, tFld, tUn, rU, tCall, tMeth, tMake, tProp, iStr, iTup, iList, iRng1, iRng2, iEnumT,
    tPar, tPar3, gTup, gCons, gNil, gSub, gUnl, rSetL, rIxL, rIxT, rAppend, rExtend, tBM, tBM0, sFld, sFldAug, tSl, tPart, tNoPart, rSlL, rSlA, rSlT, tAug, ipI, t2I, rEq, rNe, scal, List.append_nil, List.cons_append, List.nil_append, List.getElem?_cons_zero, List.getElem?_cons_succ, List.set_cons_zero, List.set_cons_succ,
    List.map_cons, List.map_nil]
  try simp only [Option.some.injEq, exists_eq_left', exists_eq_left, exists_eq_right, exists_eq', V.int.injEq, V.str.injEq, V.bl.injEq, V.ref.injEq, List.cons.injEq, and_true, true_and, and_assoc, exists_and_left, exists_const, Bool.not_true, Bool.not_false, Bool.false_eq_true, if_true, if_false, ite_true, ite_false, decide_true, decide_false, reduceCtorEq, false_and, false_or, or_false, List.cons_ne_nil, exists_false, List.length_cons, List.length_nil, Nat.reduceAdd, Nat.zero_add, Int.cast_ofNat_Int, Int.reduceEq, Int.reduceLT, Int.reduceLE, Int.reduceAdd, Int.reduceSub, at0, at1, at2, eq_self, List.reverse_cons, List.reverse_nil]))

local macro_rules | `(tactic| walk_at "fd") => `(tactic| (
  repeat (first
    | (apply And.intro
       · first
         | assumption
         | exact sqT (by assumption)
         | exact sqL (by assumption)
         | exact .inl (sqL (by assumption))
         | exact .inr (sqT (by assumption))
         | exact atI_nat (by assumption)
         | exact at0
         | exact at1
         | exact at2
         | exact bxF_rows _ _ _ _
         | exact bxF_stages _ _ _ _
         | exact bxF_pols _ _ _ _
         | exact bxF_mode _ _ _ _
         | exact bxF_told _ _ _ _
         | exact bxF_holds _ _ _ _
         | exact bxF_touch _ _ _ _
         | exact bxF_fill _ _ _ _
         | exact bxF_ask _ _ _ _
         | exact bxF_go_down _ _ _ _
         | exact bxF_moment _ _ _ _
         | exact BK.c (by assumption)
         | exact BK.rows (by assumption)
         | exact BK.stages (by assumption)
         | exact BK.policies (by assumption)
         | exact BK.mode (by assumption)
         | rfl)
    | with_reducible apply Exists.intro)))

theorem k_dget {X : Cx} {o i : Expr} {pos : Pos} {td ty : TE} {Ar : Around} (hu : Ar.units + 1 < cLine) (ho : PE X o td) (hi : PE X i ty) (hs : NoSl i) (hA : X.A = Ar := by rfl) : PE X (.Subscript o i pos) (tDGet td ty) := by
  subst hA; exact pe_dget hu ho hi hs
theorem k_fld {X : Cx} {o : Expr} {f : Str} {pos : Pos} {ta : TE} {K : PySem.W.Frag} (h : X.K = K) (he : PE X o ta) (hb : attributeBase o f X.env (eval o X.env) = eval o X.env) : PE X (.Attribute o f pos) (tFld K ta f) := by
  subst h; exact pe_fld he hb
structure VK_ (K : PySem.W.Frag) (C : Addr) : Prop where
  load : NoAttr K C "load"
  store : NoAttr K C "store"
  worths : NoAttr K C "worths"
  fresh : NoAttr K C "fresh"
  working : NoAttr K C "working"
def vaR (g k wd fd : Addr) (wk : Bool) : List (Str × V) := [("load", .ref g), ("store", .ref k), ("worths", .ref wd), ("fresh", .ref fd), ("working", .bl wk)]
section
variable (v : V) (p : Addr) (n m : Nat) (g k wd fd wd' fd' : Addr) (wk wk' : Bool)
theorem vaF_load : (caF v p n m ++ vaR g k wd fd wk).lookup ("load" : Str) = some (.ref g) := by kernel_rfl
theorem vaF_worths : (caF v p n m ++ vaR g k wd fd wk).lookup ("worths" : Str) = some (.ref wd) := by kernel_rfl
theorem vaF_fresh : (caF v p n m ++ vaR g k wd fd wk).lookup ("fresh" : Str) = some (.ref fd) := by kernel_rfl
theorem vaF_working : (caF v p n m ++ vaR g k wd fd wk).lookup ("working" : Str) = some (.bl wk) := by kernel_rfl
theorem vaF_note : (caF v p n m ++ vaR g k wd fd wk).lookup ("note_answer" : Str) = none := by kernel_rfl
theorem vaF_btwin : (caF v p n m ++ vaR g k wd fd wk).lookup ("box_twin" : Str) = none := by kernel_rfl
theorem vaF_idle : (caF v p n m ++ vaR g k wd fd wk).lookup ("check_idle" : Str) = none := by kernel_rfl
theorem vaF_serve : (caF v p n m ++ vaR g k wd fd wk).lookup ("serve" : Str) = none := by kernel_rfl
theorem vaF_req : (caF v p n m ++ vaR g k wd fd wk).lookup ("request" : Str) = none := by kernel_rfl
theorem vaF_setWk : putF ("working" : Str) (.bl wk') (caF v p n m ++ vaR g k wd fd wk) = caF v p n m ++ vaR g k wd fd wk' := by kernel_rfl
theorem vaF_setWd : putF ("worths" : Str) (.ref wd') (caF v p n m ++ vaR g k wd fd wk) = caF v p n m ++ vaR g k wd' fd wk := by kernel_rfl
theorem vaF_setFd : putF ("fresh" : Str) (.ref fd') (caF v p n m ++ vaR g k wd fd wk) = caF v p n m ++ vaR g k wd fd' wk := by kernel_rfl
theorem vf1 (x : V) : putF ("load" : Str) x (caF v p n m ++ []) = caF v p n m ++ ([("load", x)] : List (Str × V)) := by kernel_rfl
theorem vf2 (x y : V) : putF ("store" : Str) y (caF v p n m ++ ([("load", x)] : List (Str × V))) = caF v p n m ++ ([("load", x), ("store", y)] : List (Str × V)) := by kernel_rfl
theorem vf3 (x y z : V) : putF ("worths" : Str) z (caF v p n m ++ ([("load", x), ("store", y)] : List (Str × V))) = caF v p n m ++ ([("load", x), ("store", y), ("worths", z)] : List (Str × V)) := by kernel_rfl
theorem vf4 (x y z u : V) : putF ("fresh" : Str) u (caF v p n m ++ ([("load", x), ("store", y), ("worths", z)] : List (Str × V))) = caF v p n m ++ ([("load", x), ("store", y), ("worths", z), ("fresh", u)] : List (Str × V)) := by kernel_rfl
theorem vf5 : putF ("working" : Str) (.bl false) (caF v p n m ++ ([("load", .ref g), ("store", .ref k), ("worths", .ref wd), ("fresh", .ref fd)] : List (Str × V))) = caF v p n m ++ vaR g k wd fd false := by kernel_rfl
end
section
variable {P : Program} {w : World} {K : PySem.W.Frag} {mg : Str → Option Value} {base : Heap} {B C : Addr}
abbrev sChkF : Stmt := (top 39)
abbrev sChkFN : List Str := ["value"]
theorem sChkFS : FnScope sChkFN ["value"] (defScope sChkF) := ⟨rfl, rfl, rfl, by decide +kernel, rfl, by decide +kernel, by decide +kernel⟩
def spChkF (K : PySem.W.Frag) : Sp := fun vs H Q _ => ∃ g : Addr, vs = [.ref g] ∧ PySem.W.typeIn K (.ref g) = some (.type "function") ∧ ∀ H', Fr F0 H H' → Q .non H'
theorem ok_check_function {f : Addr} {fd : FuncData} (F : Fun K "check_function" "check_function" sChkF f fd) (Bb : Bi mg) : FnOk P w K mg base CX0 1 f fd ["value"] (spChkF K) := by
  refine F.ok sChkFS (fun vs H Q E h => ?_) (fun cdv A outer s H vs Q E hr h => ?_)
  · obtain ⟨g, rfl, _⟩ := h
    rfl
  · obtain ⟨g, rfl, hg, k⟩ := h
    refine ⟨_, (pss_one (ps_if (PW.pt (pw_or (pt_cmpR op_isN (pv 0) pe_non (nomark _)) (pw_or1 (pt_val (pe_callB (id := "isinstance") call_isiF (by rfl) Bb.isinstance (by decide +kernel) (pa_cons (pv 0) (pa_cons (pe_tup (pa_cons (pe_bltn (v := .ty "int") (by rfl) Bb.int (by decide +kernel) rfl) (pa_cons (pe_bltn (v := .ty "str") (by rfl) Bb.str (by decide +kernel) rfl) (pa_cons (pe_bltn (v := .ty "tuple") (by rfl) Bb.tuple (by decide +kernel) rfl) (pa_cons (pe_bltn (v := .ty "list") (by rfl) Bb.list (by decide +kernel) rfl) (pa_cons (pe_bltn (v := .ty "dict") (by rfl) Bb.dict (by decide +kernel) rfl) pa_nil)))))) pa_nil))))))) (pss_one ps_never) pss_nil)), ?_⟩
    rw [show L2.start sChkFN [.ref g] = [some (.ref g)] from rfl]
    walk_at "rd"
    refine ⟨by decide, fun tp htp => ?_⟩
    refine ⟨g, tp, _, [.type "int", .type "str", .type "tuple", .type "list", .type "dict"], false, rfl, hg, upd_same, .cons (.ty _) (.cons (.ty _) (.cons (.ty _) (.cons (.ty _) (.cons (.ty _) .nil)))), by rfl, ?_⟩
    walk_at "rd"
    exact k _ (Fr.new _ htp)
abbrev sIdle : Stmt := (inClass (top 40) 3)
abbrev sIdleN : List Str := ["self"]
theorem sIdleS : FnScope sIdleN ["self"] (defScope sIdle) := ⟨rfl, rfl, rfl, by decide +kernel, rfl, by decide +kernel, by decide +kernel⟩
def spIdle (C : Addr) : Sp := fun vs H Q _ => ∃ (q dx : Addr) (v : V) (p : Addr) (n m : Nat) (g k wd fd : Addr), vs = [.ref q] ∧ H q = some (.ins C dx (caF v p n m ++ vaR g k wd fd false)) ∧ Q .non H
theorem ok_check_idle {f : Addr} {fd : FuncData} (F : Fun K "check_idle" "ValueCache.check_idle" sIdle f fd) (ck : CK K C) (vk : VK_ K C) : FnOk P w K mg base CX0 1 f fd ["self"] (spIdle C) := by
  refine F.ok sIdleS (fun vs H Q E h => ?_) (fun cdv A outer s H vs Q E hr h => ?_)
  · obtain ⟨q, dx, v, p, n, m, g, k, wd, fd, rfl, _⟩ := h
    rfl
  · obtain ⟨q, dx, v, p, n, m, g, k, wd, fd, rfl, ob, kk⟩ := h
    refine ⟨_, (pss_one (ps_if (pt_val (pe_fld (pv 0) rfl)) (pss_one ps_never) pss_nil)), ?_⟩
    rw [show L2.start sIdleN [.ref q] = [some (.ref q)] from rfl]
    walk_at "rd"
    refine ⟨_, _, _, ob, ck.c, vk.working, _, vaF_working _ _ _ _ _ _ _ _ _, _, rfl, ?_⟩
    walk_at "rd"
    exact kk
structure VaAt (B C : Addr) (H : Hp) (q : Addr) (d : Dev) (b : Bx Nm) (n m : Nat) (v : V) (p ls lr : Addr) (ll : List Addr) (g k wd fd : Addr) (kvs : List (Key × V)) : Prop where
  ca : CaAt B C H q d b n m v p ls lr ll (vaR g k wd fd false)
  w : H wd = some (.dK kvs)
  f : H fd = some (.dK [])
  wl : kvs.length ≤ n + m
  ks : ∀ e ∈ kvs, ∃ y : Nm, e.1 = .inr y
  cov : ∀ x, holds b x = true → (valV kvs (.inr x)).isSome = true
def OwnV (q p ls lr : Addr) (ll : List Addr) (wd fd : Addr) : Addr → Prop := fun c => OwnG q p ls lr ll c ∨ c = wd ∨ c = fd
theorem VaAt.up {H H' : Hp} {q : Addr} {d : Dev} {b : Bx Nm} {n m : Nat} {v : V} {p ls lr : Addr} {ll : List Addr} {g k wd fd : Addr} {kvs : List (Key × V)} {F : Addr → Prop} (x : VaAt B C H q d b n m v p ls lr ll g k wd fd kvs) (f : Fr F H H') (h : ∀ c, OwnV q p ls lr ll wd fd c → ¬ F c) : VaAt B C H' q d b n m v p ls lr ll g k wd fd kvs :=
  ⟨x.ca.up f fun c z => h c (.inl z), f.keep _ _ x.w (h _ (.inr (.inl rfl))), f.keep _ _ x.f (h _ (.inr (.inr rfl))), x.wl, x.ks, x.cov⟩
theorem serve_if {c : Bool} {td ty ta : TE} {t : TA} {m : Str} {f : Addr} {sp : Sp} {E : XK} {σ : L2.St} {H : Hp} {Q : VK} (hq : ∀ z, Q z H) (h1 : c = true → ∀ Q' : VK, (∀ z, Q' z H) → tDGet td ty σ H Q') (h2 : ¬ c = true → ∀ Q' : VK, (∀ z, Q' z H) → tFcall K m f sp E ta t σ H Q') :
    if c = true then tDGet td ty σ H Q else tFcall K m f sp E ta t σ H Q := by
  split
  · exact h1 (by assumption) Q hq
  · exact h2 (by assumption) Q hq
theorem lock_fr {H H' : Hp} {d : Addr} {u : HO} {od : PySem.Obj} (e : H d = some u) (hu : ∀ xs, u ≠ .tup xs) (f : Fr F0 (upd H d (.frz od u)) H') : Fr F0 H (upd H' d u) := by
  refine ⟨fun a o h _ => ?_, fun a xs h => ?_, fun a h => ?_⟩
  · by_cases z : a = d
    · subst z; rw [upd_same, ← h, e]
    · rw [upd_ne z]; exact f.keep a o (by rw [upd_ne z]; exact h) id
  · have z : a ≠ d := fun z => by rw [z, e] at h; exact hu xs (Option.some.inj h)
    rw [upd_ne z]; exact f.tk a xs (by rw [upd_ne z]; exact h)
  · by_cases z : a = d
    · subst z; rw [upd_same] at h; cases h
    · rw [upd_ne z] at h
      have := f.dom a h
      rwa [upd_ne z] at this
theorem fr_freshE {F : Addr → Prop} {H1 H : Hp} {D : Addr} {u : HO} (o : HO) (f : Fr F H1 H) (hD : H1 D = none) (e : H D = some u) : Fr F H1 (upd H D o) :=
  ⟨fun a u h n => by rw [upd_ne (ne_of_none h hD)]; exact f.keep a u h n, fun a ys h => by rw [upd_ne (ne_of_none h hD)]; exact f.tk a ys h, fun a h => by
    by_cases z : a = D
    · subst z; exact hD
    · rw [upd_ne z] at h; exact f.dom a h⟩
theorem mem_putK {kvs : List (Key × V)} {k : Key} {v : V} {e : Key × V} (h : e ∈ putK kvs k v) : e.1 = k ∨ ∃ e' ∈ kvs, e'.1 = e.1 := by
  unfold putK at h
  split at h
  · obtain ⟨e', he', rfl⟩ := List.mem_map.mp h
    split
    · rename_i hk; exact .inl hk
    · exact .inr ⟨e', he', rfl⟩
  · rw [List.mem_append, List.mem_singleton] at h
    rcases h with h | h
    · exact .inr ⟨e, h, rfl⟩
    · exact .inl (by rw [h])
theorem valV_at {kvs : List (Key × V)} {k : Key} (h : (valV kvs k).isSome = true) : ∃ (j : Nat) (z : V), kvs[j]? = some (k, z) := by
  unfold valV at h
  rw [Option.isSome_map] at h
  obtain ⟨e, he⟩ := Option.isSome_iff_exists.mp h
  have h1 := List.find?_some he
  obtain ⟨j, hj⟩ := List.mem_iff_getElem?.mp (List.mem_of_find?_eq_some he)
  exact ⟨j, e.2, by rw [hj, ← show e.1 = k by simpa using h1]⟩
theorem valV_of {kvs : List (Key × V)} {k : Key} {j : Nat} {z : V} (h : kvs[j]? = some (k, z)) : ∃ z', valV kvs k = some z' := by
  unfold valV
  cases e : kvs.find? (fun kv => decide (kv.1 = k)) with
  | none =>
    rw [List.find?_eq_none] at e
    exact absurd (by simp) (e _ (List.mem_of_getElem? h))
  | some y => exact ⟨_, rfl⟩
def spGive : Sp := fun vs H Q _ => ∃ x : Nm, vs = [.str x] ∧ x.length ≤ sizeLine ∧ Q (.int (x.length : Int)) H
abbrev sServe : Stmt := (inClass (top 40) 4)
abbrev sServeN : List Str := ["self", "name", "is_put", "value", "box", "answer", "lost", "other"]
theorem sServeS : FnScope sServeN ["self", "name", "is_put", "value"] (defScope sServe) := ⟨rfl, rfl, rfl, by decide +kernel, rfl, by decide +kernel, by decide +kernel⟩
def spServe (B C g : Addr) : Sp := fun vs H Q _ => ∃ (q : Addr) (x : Nm) (d : Dev) (b : Bx Nm) (n m : Nat) (v : V) (p ls lr : Addr) (ll : List Addr) (k wd fd : Addr) (kvs : List (Key × V)), vs = [.ref q, .str x, .bl false, .non] ∧ nameOk x ∧ n + m ≤ 100000 ∧ VaAt B C H q d b n m v p ls lr ll g k wd fd kvs ∧
  ∀ H' n' p' ls' lr' ll' wd' fd' kvs', n' + (m + (if holds b x = true then 0 else 1)) = n + m + 1 → VaAt B C H' q d (askB d b x) n' (m + (if holds b x = true then 0 else 1)) v p' ls' lr' ll' g k wd' fd' kvs' → Fr (· = q) H H' → (∀ c, OwnV q p' ls' lr' ll' wd' fd' c → c = q ∨ H c = none) → Q (.bl (holds b x)) H'
theorem ok_serve {f : Addr} {fd : FuncData} (F : Fun K "serve" "ValueCache.serve" sServe f fd) (Bb : Bi mg) (bk : BK K B) (ck : CK K C) (vk : VK_ K C) (cB : Cls K B) (cC : Cls K C) (D_box_twin : MDef P w K mg base C "box_twin" ["self"] 4 (spBTw B C)) (D_ask : MDef P w K mg base B "ask" ["self", "name"] 4 (spAsk B))
    (D_holds : MDef P w K mg base B "holds" ["self", "name"] 1 (spHolds B)) (D_note_answer : MDef P w K mg base C "note_answer" ["self", "answer"] 1 (spNote C)) (D_give : Def P w K mg base "_law_give" ["_law_who"] 1 spGive) :
    FnOk P w K mg base CX0 5 f fd ["self", "name", "is_put", "value"] (spServe B C D_give.f) := by
  refine F.ok sServeS (fun vs H Q E h => ?_) (fun cdv A outer s H vs Q E hr h => ?_)
  · obtain ⟨q, x, d, b, n, m, v, p, ls, lr, ll, k, wd, fd, kvs, rfl, _⟩ := h
    rfl
  · obtain ⟨q, x, d, b, n, m, v, p, ls, lr, ll, k, wd, fd, kvs, rfl, hx, hnm, va, kk⟩ := h
    have ca := va.ca
    obtain ⟨dx, ob⟩ := ca.ob
    have UU1 := Nat.lt_of_le_of_lt (Nat.add_le_add_left (show 1 ≤ 64 by decide) _) hr.units
    refine ⟨_, (pss_cons (ps_set (i := 4) sServeS.nd rfl (Or.inr rfl) (pe_mdef0 (pv 0) cC D_box_twin (hr.mono (by decide))))
      (pss_cons (ps_set (i := 5) sServeS.nd rfl (Or.inl rfl) (pe_mdef (pv 4) cB D_ask (hr.mono (by decide)) (pa_cons (pv 1) pa_nil)))
      (pss_cons (ps_fld (pv 0) pe_bl rfl)
      (pss_cons (ps_finN (pss_cons (ps_if (pt_not (pt_val (pv 2))) (pss_one (ps_set (i := 3) sServeS.nd rfl (Or.inl rfl) (pe_ifExp (pt_val (pv 5)) (k_dget UU1 (pe_fld (pv 0) rfl) (pv 1) (fun _ _ => rfl)) (pe_fcall (pv 0) D_give.ok (hr.mono (by decide)) D_give.kp D_give.b pass0 (pa_cons (pv 1) pa_nil))))) pss_nil)
      (pss_one (ps_for PassesOwn.never rfl (pi_list (pe_callB (id := "sorted") (call_sortedD rfl) (by rfl) Bb.sorted (by decide +kernel) (pa_cons (pe_fld (pv 0) rfl) pa_nil))) (pg_name (i := 6) sServeS.nd rfl (Or.inl rfl)) (pss_one ps_never)))) (pss_one (ps_fld (pv 0) pe_bl rfl)))
      (pss_cons (ps_fld (pv 0) (pv 4) rfl)
      (pss_cons (ps_fld (pv 0) (pe_lock (pe_dc (own := [("other", 7)]) (g := gName 7) rfl sServeS.nd (pi_keys (pe_fld (pv 0) rfl)) (blkOk_by (N := sServeN) (sc := (defScope sServe)) (by decide +kernel)) (fun _ _ _ _ _ => pg_name (i := 7) sServeS.nd rfl (Or.inl rfl)) (fun _ _ _ _ _ => (pts_one (pt_val (pe_mdef (pv 4) cB D_holds (hr.mono (by decide)) (pa_cons (pv 7) pa_nil))))) (fun _ _ _ _ _ => (pv 7)) (fun _ _ _ _ _ => (k_dget UU1 (k_fld (K := K) rfl (pv 0) rfl) (pv 7) (fun _ _ => rfl))))) rfl)
      (pss_cons (ps_fld (pv 0) (pe_lock (pe_dc (own := [("other", 7)]) (g := gName 7) rfl sServeS.nd (pi_keys (pe_fld (pv 0) rfl)) (blkOk_by (N := sServeN) (sc := (defScope sServe)) (by decide +kernel)) (fun _ _ _ _ _ => pg_name (i := 7) sServeS.nd rfl (Or.inl rfl)) (fun _ _ _ _ _ => (pts_one (pt_val (pe_mdef (pv 4) cB D_holds (hr.mono (by decide)) (pa_cons (pv 7) pa_nil))))) (fun _ _ _ _ _ => (pv 7)) (fun _ _ _ _ _ => pe_bl))) rfl)
      (pss_cons (ps_asg (pv 3) (pg_sub (pe_fld (pv 0) rfl) (pv 1) (set_dict UU1)))
      (pss_cons (ps_if (pt_val (pv 2)) (pss_one (ps_asg pe_bl (pg_sub (pe_fld (pv 0) rfl) (pv 1) (set_dict UU1)))) pss_nil)
      (pss_one (ps_ret (pe_mdef (pv 0) cC D_note_answer (hr.mono (by decide)) (pa_cons (pv 5) pa_nil))))))))))))), ?_⟩
    rw [show L2.start sServeN [.ref q, .str x, .bl false, .non] = [some (.ref q), some (.str x), some (.bl false), some .non, none, none, none, none] from rfl]
    walk_at "rd"
    refine ⟨_, _, ob, vaF_btwin _ _ _ _ _ _ _ _ _, q, d, b, n, m, v, p, ls, lr, ll, _, rfl, ca, fun H1 p1 ls1 lr1 ll1 ba1 f1 h1 h2 h3 h4 => ?_⟩
    have ob1 := f1.keep _ _ ob id
    obtain ⟨dz, pt, obx, _⟩ := ba1.ob
    walk_at "rd"
    refine ⟨_, _, obx, bxF_ask _ _ _ _, p1, x, d, b, ls1, lr1, ll1, rfl, ba1, fun H2 ba2 f2 => ?_⟩
    have nin : ∀ c o, H c = some o → ¬ FB ls1 ll1 c := fun c o h z => by
      rcases z with z | z
      · rw [z, h2] at h; cases h
      · rw [h4 c z] at h; cases h
    have ob2 := f2.keep _ _ ob1 (nin _ _ ob)
    have w2 := f2.keep _ _ (f1.keep _ _ va.w id) (nin _ _ va.w)
    have e2 := f2.keep _ _ (f1.keep _ _ va.f id) (nin _ _ va.f)
    have nqw : q ≠ wd := ne_of ob va.w (fun z => nomatch z)
    have nqf : q ≠ fd := ne_of ob va.f (fun z => nomatch z)
    have nqp : q ≠ p1 := ne_of_none ob h1
    have nqls : q ≠ ls1 := ne_of_none ob h2
    have nqlr : q ≠ lr1 := ne_of_none ob h3
    have nqll : ∀ c ∈ ll1, q ≠ c := fun c hc => ne_of_none ob (h4 c hc)
    walk_at "rd"
    refine ⟨_, _, _, ob2, ck.c, vk.working, by rw [caF_len]; show (9 : Nat) < 1000; decide, ?_⟩
    rw [vaF_setWk]
    have ob3 : upd H2 q (.ins C dx (caF v p n m ++ vaR D_give.f k wd fd true)) q = _ := upd_same
    have g3 : Fr (· = q) H2 (upd H2 q (.ins C dx (caF v p n m ++ vaR D_give.f k wd fd true))) := Fr.setI _ ob2 rfl
    generalize upd H2 q (.ins C dx (caF v p n m ++ vaR D_give.f k wd fd true)) = H3 at g3 ob3 ⊢
    have w3 := g3.keep _ _ w2 (Ne.symm nqw)
    have e3 := g3.keep _ _ e2 (Ne.symm nqf)
    have ba3 : BoxAt B H3 p1 d (askB d b x) ls1 lr1 ll1 := ba2.up g3 (Ne.symm nqp) (Ne.symm nqls) (Ne.symm nqlr) fun c hc => Ne.symm (nqll c hc)
    refine serve_if (fun val => ?_) (fun hh Q' hq => ?_) (fun hh Q' hq => ?_)
    · refine ⟨_, rfl, q, _, _, _, .ref fd, rfl, ob3, ck.c, vk.fresh, vaF_fresh _ _ _ _ _ _ _ _ _, fd, rfl, [], .inl e3, [], rfl, by decide, fun ys pl hys _ hpl => ?_⟩
      obtain rfl := hys.eq_nil
      have g4 : Fr F0 H3 (upd H3 pl (.lst (List.map V.str []))) := Fr.new _ hpl
      have l4 : upd H3 pl (.lst (List.map V.str [])) pl = _ := upd_same
      generalize upd H3 pl (.lst (List.map V.str [])) = H4 at g4 l4 ⊢
      refine ⟨pl, rfl, ⟨_, sqL l4⟩, for_list (K := K) (xs := []) (fun i σ H' => σ = [some (.ref q), some (.str x), some (.bl false), some val, some (.ref p1), some (.bl (holds b x)), none, none] ∧ H' = H4) ⟨rfl, rfl⟩ (fun i σ H' _ hh => by rw [hh.2]; exact sqL l4) (fun i x σ H' hx => by simp at hx) ?_⟩
      rintro σ H' ⟨rfl, rfl⟩
      have ob4 := g4.keep _ _ ob3 id
      walk_at "rd"
      refine ⟨_, _, _, ob4, ck.c, vk.working, by rw [caF_len]; show (9 : Nat) < 1000; decide, ?_⟩
      rw [vaF_setWk]
      have ob5 : upd H' q (.ins C dx (caF v p n m ++ vaR D_give.f k wd fd false)) q = _ := upd_same
      have g5 : Fr (· = q) H' (upd H' q (.ins C dx (caF v p n m ++ vaR D_give.f k wd fd false))) := Fr.setI _ ob4 rfl
      generalize upd H' q (.ins C dx (caF v p n m ++ vaR D_give.f k wd fd false)) = H5 at g5 ob5 ⊢
      refine ⟨_, _, _, ob5, ck.c, ck.box, by rw [caF_len]; show (9 : Nat) < 1000; decide, ?_⟩
      rw [caF_setB]
      have ob6 : upd H5 q (.ins C dx (caF v p1 n m ++ vaR D_give.f k wd fd false)) q = _ := upd_same
      have g6 : Fr (· = q) H5 (upd H5 q (.ins C dx (caF v p1 n m ++ vaR D_give.f k wd fd false))) := Fr.setI _ ob5 rfl
      generalize upd H5 q (.ins C dx (caF v p1 n m ++ vaR D_give.f k wd fd false)) = H6 at g6 ob6 ⊢
      have g46 : Fr (· = q) H3 H6 := (g4.any.trans g5).trans g6
      have w6 := g46.keep _ _ w3 (Ne.symm nqw)
      have e6 := g46.keep _ _ e3 (Ne.symm nqf)
      have ba6 : BoxAt B H6 p1 d (askB d b x) ls1 lr1 ll1 := ba3.up g46 (Ne.symm nqp) (Ne.symm nqls) (Ne.symm nqlr) fun c hc => Ne.symm (nqll c hc)
      have ndk : ∀ (ks : List (Key × V)) (xs : List V), HO.dK ks ≠ .tup xs := fun _ _ z => nomatch z
      obtain ⟨dz6, pt6, obx6, _⟩ := ba6.ob
      have nwp : p1 ≠ wd := ne_of obx6 w6 (fun z => nomatch z)
      have nwls : ls1 ≠ wd := ne_of ba6.st w6 (fun z => nomatch z)
      have nwlr : lr1 ≠ wd := ne_of ba6.rw w6 (fun z => nomatch z)
      have nwll : ∀ c ∈ ll1, c ≠ wd := fun c hc z => nin _ _ va.w (.inr (z ▸ hc))
      refine ⟨wd, .dK kvs, w6, trivial, fun od => ?_⟩
      have w7 : upd H6 wd (.frz od (.dK kvs)) wd = _ := upd_same
      have g7 : Fr (· = wd) H6 (upd H6 wd (.frz od (.dK kvs))) := Fr.set _ w6 rfl (ndk _)
      have lk := fun H' (f : Fr F0 (upd H6 wd (.frz od (.dK kvs))) H') => lock_fr (od := od) w6 (ndk _) f
      generalize upd H6 wd (.frz od (.dK kvs)) = H7 at w7 g7 lk ⊢
      have ob7 := g7.keep _ _ ob6 nqw
      have ba7 : BoxAt B H7 p1 d (askB d b x) ls1 lr1 ll1 := ba6.up g7 nwp nwls nwlr nwll
      refine ⟨.ref q, rfl, q, C, dx, _, .ref wd, rfl, ob7, ck.c, vk.worths, vaF_worths _ _ _ _ _ _ _ _ _, wd, od, rfl, .inl ⟨kvs, w7, fun D hD => ?_⟩⟩
      have wk := walk_keys (d := wd) (o := od) (kvs := kvs)
      have hsz : kvs.length < sizeLine := Nat.lt_of_le_of_lt va.wl (Nat.lt_of_le_of_lt hnm (by decide))
      refine ⟨fun i m H' => m = kvs.length - i ∧ i ≤ kvs.length ∧ Fr F0 H7 H' ∧ ∃ ks', H' D = some (.dK ks') ∧ ks'.length ≤ i ∧ (∀ e ∈ ks', ∃ y : Nm, e.1 = .inr y) ∧ ∀ (j : Nat) (y : Nm) (z : V), j < i → kvs[j]? = some (.inr y, z) → holds (askB d b x) y = true → (valV ks' (.inr y)).isSome = true,
        ⟨_, rfl, Nat.zero_le _, Fr.new _ hD, [], upd_same, Nat.le_refl _, fun e he => absurd he (by simp), fun j y z hj => absurd hj (by omega)⟩, ?_⟩
      · rintro i _ H8 ⟨rfl, hi, f8, ks', e8, l8, k8, c8⟩
        have w8 := f8.keep _ _ w7 id
        by_cases hlt : i < kvs.length
        · refine .inr ⟨wk.goes i H8 hlt w8, fun H' => Fr F0 H7 H' ∧ ∃ ks', H' D = some (.dK ks') ∧ ks'.length ≤ i + 1 ∧ (∀ e ∈ ks', ∃ y : Nm, e.1 = .inr y) ∧ ∀ (j : Nat) (y : Nm) (z : V), j < i + 1 → kvs[j]? = some (.inr y, z) → holds (askB d b x) y = true → (valV ks' (.inr y)).isSome = true,
            fun H' hh => ⟨_, by omega, rfl, hlt, hh⟩, fun x' H9 hy => ?_⟩
          obtain ⟨rfl, key, z0, hk, rfl⟩ := wk.yields i H8 x' H9 hlt w8 hy
          obtain ⟨y, ey⟩ := va.ks _ (List.mem_of_getElem? hk)
          have ey' : key = .inr y := ey
          subst ey'
          obtain ⟨zv, hzv⟩ := valV_of hk
          refine ⟨rfl, ?_⟩
          obtain ⟨dz9, pt9, obx9, _⟩ := (ba7.up0 f8).ob
          refine ⟨_, rfl, p1, dz9, _, rfl, obx9, bxF_holds _ _ _ _, _, rfl, p1, y, d, _, ls1, lr1, ll1, rfl, ba7.up0 f8, fun H10 f10 => ⟨_, rfl, ?_⟩⟩
          have f710 := f8.trans f10
          have e10 := f10.keep _ _ e8 id
          have w10 := f710.keep _ _ w7 id
          have ob10 := f710.keep _ _ ob7 id
          cases hh : holds (askB d b x) y with
          | true =>
            dsimp only
            rw [if_pos rfl]
            refine ⟨.str y, rfl, .ref q, rfl, q, C, dx, _, .ref wd, rfl, ob10, ck.c, vk.worths, vaF_worths _ _ _ _ _ _ _ _ _, .str y, rfl, wd, zv, rfl, .inl ⟨kvs, .inr y, .inr ⟨od, w10⟩, rfl, hzv.symm⟩, ks', .inr y, rfl, e10, Nat.lt_of_le_of_lt l8 (Nat.lt_trans hlt hsz), fr_freshE _ f710 hD e10, _, upd_same, Nat.le_trans (length_putK _ _ _) (by omega), ?_, ?_⟩
            · intro e he
              rcases mem_putK he with h | ⟨e', he', h⟩
              · exact ⟨y, h⟩
              · obtain ⟨y', hy'⟩ := k8 e' he'; exact ⟨y', by rw [← h]; exact hy'⟩
            · intro j y' z hj hkj hhy
              rw [valV_put]
              split
              · rfl
              · rename_i hne
                rcases Nat.lt_or_ge j i with hji | hji
                · exact c8 j y' z hji hkj hhy
                · have : j = i := by omega
                  subst this
                  rw [hk] at hkj
                  cases hkj
                  exact absurd rfl hne
          | false =>
            dsimp only
            rw [if_neg (by decide)]
            refine ⟨f710, ks', e10, by omega, k8, fun j y' z hj hkj hhy => ?_⟩
            rcases Nat.lt_or_ge j i with hji | hji
            · exact c8 j y' z hji hkj hhy
            · have : j = i := by omega
              subst this
              rw [hk] at hkj
              cases hkj
              rw [hh] at hhy; cases hhy
        · have ei : i = kvs.length := by omega
          subst ei
          refine .inl ⟨wk.stops H8 w8, w8, ?_⟩
          have g68 : Fr F0 H6 (upd H8 wd (.dK kvs)) := lk _ f8
          have nDw : D ≠ wd := fun z => by rw [z, w7] at hD; cases hD
          have hD6 : H6 D = none := g7.dom _ hD
          have e9 : upd H8 wd (.dK kvs) D = _ := (upd_ne nDw).trans e8
          generalize upd H8 wd (.dK kvs) = H9 at g68 e9 ⊢
          have ob9 := g68.keep _ _ ob6 id
          have ef9 := g68.keep _ _ e6 id
          have ba9 := ba6.up0 g68
          have nqD : q ≠ D := ne_of_none ob6 hD6
          refine ⟨_, _, _, ob9, ck.c, vk.worths, by rw [caF_len]; show (9 : Nat) < 1000; decide, ?_⟩
          rw [vaF_setWd]
          have ob10 : upd H9 q (.ins C dx (caF v p1 n m ++ vaR D_give.f k D fd false)) q = _ := upd_same
          have g10 : Fr (· = q) H9 (upd H9 q (.ins C dx (caF v p1 n m ++ vaR D_give.f k D fd false))) := Fr.setI _ ob9 rfl
          generalize upd H9 q (.ins C dx (caF v p1 n m ++ vaR D_give.f k D fd false)) = H10 at g10 ob10 ⊢
          have eD10 := g10.keep _ _ e9 (Ne.symm nqD)
          have ef10 := g10.keep _ _ ef9 (Ne.symm nqf)
          have ba10 : BoxAt B H10 p1 d (askB d b x) ls1 lr1 ll1 := ba9.up g10 (Ne.symm nqp) (Ne.symm nqls) (Ne.symm nqlr) fun c hc => Ne.symm (nqll c hc)
          refine ⟨fd, .dK [], ef10, trivial, fun oe => ?_⟩
          have e11 : upd H10 fd (.frz oe (.dK [])) fd = _ := upd_same
          have g11 : Fr (· = fd) H10 (upd H10 fd (.frz oe (.dK []))) := Fr.set _ ef10 rfl (ndk _)
          have lk2 := fun H' (f : Fr F0 (upd H10 fd (.frz oe (.dK []))) H') => lock_fr (od := oe) ef10 (ndk _) f
          generalize upd H10 fd (.frz oe (.dK [])) = H11 at e11 g11 lk2 ⊢
          have ob11 := g11.keep _ _ ob10 nqf
          refine ⟨.ref q, rfl, q, C, dx, _, .ref fd, rfl, ob11, ck.c, vk.fresh, vaF_fresh _ _ _ _ _ _ _ _ _, fd, oe, rfl, .inl ⟨[], e11, fun D2 hD2 => ?_⟩⟩
          have wk2 := walk_keys (d := fd) (o := oe) (kvs := [])
          have f12 : Fr F0 H11 (upd H11 D2 (.dK [])) := Fr.new _ hD2
          have e12 : upd H11 D2 (.dK []) D2 = _ := upd_same
          generalize upd H11 D2 (.dK []) = H12 at f12 e12 ⊢
          refine ⟨fun i m H' => i = 0 ∧ H' = H12, ⟨0, rfl, rfl⟩, ?_⟩
          rintro i m0 H13 ⟨rfl, rfl⟩
          have e13 := f12.keep _ _ e11 id
          refine .inl ⟨wk2.stops _ e13, e13, ?_⟩
          have g1013 : Fr F0 H10 (upd H13 fd (.dK [])) := lk2 _ f12
          have nD2f : D2 ≠ fd := fun z => by rw [z, e11] at hD2; cases hD2
          have hD210 : H10 D2 = none := g11.dom _ hD2
          have e14 : upd H13 fd (.dK []) D2 = _ := (upd_ne nD2f).trans e12
          generalize upd H13 fd (.dK []) = H14 at g1013 e14 ⊢
          have ob14 := g1013.keep _ _ ob10 id
          have eD14 := g1013.keep _ _ eD10 id
          have ba14 := ba10.up0 g1013
          have nqD2 : q ≠ D2 := ne_of_none ob10 hD210
          have nDD2 : D ≠ D2 := ne_of_none eD10 hD210
          refine ⟨_, _, _, ob14, ck.c, vk.fresh, by rw [caF_len]; show (9 : Nat) < 1000; decide, ?_⟩
          rw [vaF_setFd]
          have ob15 : upd H14 q (.ins C dx (caF v p1 n m ++ vaR D_give.f k D D2 false)) q = _ := upd_same
          have g15 : Fr (· = q) H14 (upd H14 q (.ins C dx (caF v p1 n m ++ vaR D_give.f k D D2 false))) := Fr.setI _ ob14 rfl
          generalize upd H14 q (.ins C dx (caF v p1 n m ++ vaR D_give.f k D D2 false)) = H15 at g15 ob15 ⊢
          have eD15 := g15.keep _ _ eD14 (Ne.symm nqD)
          have eD215 := g15.keep _ _ e14 (Ne.symm nqD2)
          have ba15 : BoxAt B H15 p1 d (askB d b x) ls1 lr1 ll1 := ba14.up g15 (Ne.symm nqp) (Ne.symm nqls) (Ne.symm nqlr) fun c hc => Ne.symm (nqll c hc)
          refine ⟨_, _, _, ob15, ck.c, vk.worths, _, vaF_worths _ _ _ _ _ _ _ _ _, D, _, rfl, DPut.k (k := .inr x) eD15 (Nat.lt_of_le_of_lt l8 hsz), ?_⟩
          have g16 : Fr (· = D) H15 (upd H15 D (.dK (putK ks' (.inr x) val))) := Fr.set _ eD15 rfl (ndk _)
          have e16 : upd H15 D (.dK (putK ks' (.inr x) val)) D = _ := upd_same
          generalize upd H15 D (.dK (putK ks' (.inr x) val)) = H16 at g16 e16 ⊢
          have ob16 := g16.keep _ _ ob15 nqD
          have eD216 := g16.keep _ _ eD215 (Ne.symm nDD2)
          obtain ⟨nD1, _, nD2, nD3, nD4⟩ := ba6.dom (H1 := H6) hD6
          have ba16 : BoxAt B H16 p1 d (askB d b x) ls1 lr1 ll1 := ba15.up g16 (Ne.symm nD1) (Ne.symm nD2) (Ne.symm nD3) fun c hc z => nD4 (z ▸ hc)
          refine ⟨_, _, ob16, vaF_note _ _ _ _ _ _ _ _ _, q, dx, holds b x, v, p1, n, m, _, rfl, ob16, by show (5 : Nat) < 900; decide, ?_⟩
          have hm : (if holds b x = true then m else m + 1) = m + (if holds b x = true then 0 else 1) := by split <;> rfl
          have hn : (if holds b x = true then n + 1 else n) + (m + (if holds b x = true then 0 else 1)) = n + m + 1 := by split <;> omega
          rw [hm]
          have g17 : Fr (· = q) H16 (upd H16 q (.ins C dx (caF v p1 (if holds b x = true then n + 1 else n) (m + (if holds b x = true then 0 else 1)) ++ vaR D_give.f k D D2 false))) := Fr.setI _ ob16 rfl
          have ob17 : upd H16 q (.ins C dx (caF v p1 (if holds b x = true then n + 1 else n) (m + (if holds b x = true then 0 else 1)) ++ vaR D_give.f k D D2 false)) q = _ := upd_same
          generalize upd H16 q (.ins C dx (caF v p1 (if holds b x = true then n + 1 else n) (m + (if holds b x = true then 0 else 1)) ++ vaR D_give.f k D D2 false)) = H17 at g17 ob17 ⊢
          -- the frame
          have F02 : Fr F0 H H2 := f1.after f2 fun c z => z.elim (fun z => z ▸ h2) (h4 c)
          have F06 : Fr (· = q) H H6 := (F02.any.trans g3).trans g46
          have F10 : Fr (· = q) H H10 := (F06.trans g68.any).trans g10
          have F15 : Fr (· = q) H H15 := (F10.trans g1013.any).trans g15
          have hD0 : H D = none := F06.dom _ hD6
          have F17 : Fr (· = q) H H17 := (F15.after' g16 fun c z => by rw [z]; exact hD0).trans g17
          refine kk H17 _ p1 ls1 lr1 ll1 D D2 (putK ks' (.inr x) val) hn ⟨⟨⟨dx, ob17⟩, ba16.up g17 (Ne.symm nqp) (Ne.symm nqls) (Ne.symm nqlr) (fun c hc => Ne.symm (nqll c hc)), ca.tv.up F17.tk, nqp⟩, g17.keep _ _ e16 (Ne.symm nqD), g17.keep _ _ eD216 (Ne.symm nqD2), ?_, ?_, ?_⟩ F17 ?_
          · have := length_putK ks' (.inr x) val
            have := va.wl
            omega
          · intro e he
            rcases mem_putK he with h | ⟨e', he', h⟩
            · exact ⟨x, h⟩
            · obtain ⟨y', hy'⟩ := k8 e' he'; exact ⟨y', by rw [← h]; exact hy'⟩
          · intro y hy
            rw [valV_put]
            split
            · rfl
            · rename_i hne
              rcases holds_ask hy with h | h
              · exact absurd (by rw [h]) hne
              · obtain ⟨j, z, hj⟩ := valV_at (va.cov y h)
                exact c8 j y z (List.getElem?_eq_some_iff.mp hj).1 hj hy
          · rintro c ((z | z | z | z | z) | z | z)
            · exact .inl z
            · exact .inr (by rw [z]; exact h1)
            · exact .inr (by rw [z]; exact h2)
            · exact .inr (by rw [z]; exact h3)
            · exact .inr (h4 c z)
            · exact .inr (by rw [z]; exact hD0)
            · exact .inr (by rw [z]; exact F10.dom _ hD210)
    · obtain ⟨z, hz⟩ := Option.isSome_iff_exists.mp (va.cov x hh)
      exact ⟨_, rfl, q, C, dx, _, .ref wd, rfl, ob3, ck.c, vk.worths, vaF_worths _ _ _ _ _ _ _ _ _, _, rfl, wd, z, rfl, .inl ⟨kvs, .inr x, .inl w3, rfl, hz.symm⟩, hq z⟩
    · exact ⟨_, rfl, q, C, dx, _, rfl, ob3, ck.c, vk.load, vaF_load _ _ _ _ _ _ _ _ _, _, rfl, x, rfl, line6 hx.2.1, hq _⟩
end
end K53
end
section
set_option Elab.async false
set_option linter.all false
set_option maxRecDepth 100000
set_option maxHeartbeats 4000000
set_option pp.maxSteps 2500
namespace K53
open PySem PySem.Spec PyProof.Rows L2
local macro_rules | `(tactic| walk_at "rd") => `(tactic| (
  try dsimp only [tSeq, tIfS, tOr, tAnd, tNot, tNotV, tAndV, tOrV, tB, tCB, tCons, tNil, tVar, tC, tTest, tChain, tRet, tRetN, tNext, tOp, rI0, rI, tAsg, gName, tDrop, tIf, tTup, tLst, tFld, tUn, rU, tCall, tMeth, tMake, tProp, iStr, iTup, iList, iRng1, iRng2, iEnumT,
    tPar, tPar3, gTup, gCons, gNil, gSub, gUnl, rSetL, rIxL, rIxT, rAppend, rExtend, tBM, tBM0, sFld, sFldAug, tSl, tPart, tNoPart, rSlL, rSlA, rSlT, tAug, ipI, t2I, rEq, rNe, scal, List.append_nil, List.cons_append, List.nil_append, List.getElem?_cons_zero, List.getElem?_cons_succ, List.set_cons_zero, List.set_cons_succ,
    List.map_cons, List.map_nil]
  try simp only [Option.some.injEq, exists_eq_left', exists_eq_left, exists_eq_right, exists_eq', V.int.injEq, V.str.injEq, V.bl.injEq, V.ref.injEq, List.cons.injEq, and_true, true_and, and_assoc, exists_and_left, exists_const, Bool.not_true, Bool.not_false, Bool.false_eq_true, if_true, if_false, ite_true, ite_false, decide_true, decide_false, reduceCtorEq, false_and, false_or, or_false, List.cons_ne_nil, exists_false, List.length_cons, List.length_nil, Nat.reduceAdd, Nat.zero_add, Int.cast_ofNat_Int, Int.reduceEq, Int.reduceLT, Int.reduceLE, Int.reduceAdd, Int.reduceSub, at0, at1, at2, eq_self, List.reverse_cons, List.reverse_nil]))

local macro_rules | `(tactic| walk_at "fd") => `(tactic| (
  repeat (first
    | (apply And.intro
       · first
         | assumption
         | exact sqT (by assumption)
         | exact sqL (by assumption)
         | exact .inl (sqL (by assumption))
         | exact .inr (sqT (by assumption))
         | exact atI_nat (by assumption)
         | exact at0
         | exact at1
         | exact at2
         | exact bxF_rows _ _ _ _
         | exact bxF_stages _ _ _ _
         | exact bxF_pols _ _ _ _
         | exact bxF_mode _ _ _ _
         | exact bxF_told _ _ _ _
         | exact bxF_holds _ _ _ _
         | exact bxF_touch _ _ _ _
         | exact bxF_fill _ _ _ _
         | exact bxF_ask _ _ _ _
         | exact bxF_go_down _ _ _ _
         | exact bxF_moment _ _ _ _
         | exact BK.c (by assumption)
         | exact BK.rows (by assumption)
         | exact BK.stages (by assumption)
         | exact BK.policies (by assumption)
         | exact BK.mode (by assumption)
         | rfl)
    | with_reducible apply Exists.intro)))

section
variable {P : Program} {w : World} {K : PySem.W.Frag} {mg : Str → Option Value} {base : Heap} {B C : Addr}
abbrev sVReq : Stmt := (inClass (top 40) 7)
abbrev sVReqN : List Str := ["self", "name"]
theorem sVReqS : FnScope sVReqN ["self", "name"] (defScope sVReq) := ⟨rfl, rfl, rfl, by decide +kernel, rfl, by decide +kernel, by decide +kernel⟩
def spVReq (B C g : Addr) : Sp := fun vs H Q _ => ∃ (q : Addr) (x : Nm) (d : Dev) (b : Bx Nm) (n m : Nat) (v : V) (p ls lr : Addr) (ll : List Addr) (k wd fd : Addr) (kvs : List (Key × V)), vs = [.ref q, .str x] ∧ nameOk x ∧ n + m ≤ 100000 ∧ VaAt B C H q d b n m v p ls lr ll g k wd fd kvs ∧
  ∀ H' n' p' ls' lr' ll' wd' fd' kvs', n' + (m + (if holds b x = true then 0 else 1)) = n + m + 1 → VaAt B C H' q d (askB d b x) n' (m + (if holds b x = true then 0 else 1)) v p' ls' lr' ll' g k wd' fd' kvs' → Fr (· = q) H H' → (∀ c, OwnV q p' ls' lr' ll' wd' fd' c → c = q ∨ H c = none) → Q (.bl (holds b x)) H'
theorem ok_vrequest {g : Addr} {f : Addr} {fd : FuncData} (F : Fun K "request" "ValueCache.request" sVReq f fd) (cC : Cls K C) (D_check_idle : MDef P w K mg base C "check_idle" ["self"] 1 (spIdle C)) (D_check_name : Def P w K mg base "check_name" ["name"] 2 spChkName) (D_serve : MDef P w K mg base C "serve" ["self", "name", "is_put", "value"] 5 (spServe B C g)) :
    FnOk P w K mg base CX0 6 f fd ["self", "name"] (spVReq B C g) := by
  refine F.ok sVReqS (fun vs H Q E h => ?_) (fun cdv A outer s H vs Q E hr h => ?_)
  · obtain ⟨q, x, d, b, n, m, v, p, ls, lr, ll, k, wd, fd, kvs, rfl, _⟩ := h
    rfl
  · obtain ⟨q, x, d, b, n, m, v, p, ls, lr, ll, k, wd, fd, kvs, rfl, hx, hnm, va, kk⟩ := h
    obtain ⟨dx, ob⟩ := va.ca.ob
    refine ⟨_, (pss_cons (ps_expr (pe_mdef0 (pv 0) cC D_check_idle (hr.mono (by decide))))
      (pss_cons (ps_expr (pe_def D_check_name (hr.mono (by decide)) (by rfl) (pa_cons (pv 1) pa_nil)))
      (pss_one (ps_ret (pe_mdef (pv 0) cC D_serve (hr.mono (by decide)) (pa_cons (pv 1) (pa_cons pe_bl (pa_cons pe_non pa_nil)))))))), ?_⟩
    rw [show L2.start sVReqN [.ref q, .str x] = [some (.ref q), some (.str x)] from rfl]
    walk_at "rd"
    refine ⟨_, _, ob, vaF_idle _ _ _ _ _ _ _ _ _, q, dx, v, p, n, m, g, k, wd, fd, rfl, ob, ?_⟩
    walk_at "rd"
    refine ⟨x, rfl, hx, fun H1 f1 => ?_⟩
    have va1 := va.up f1 fun _ _ => id
    walk_at "rd"
    refine ⟨_, _, f1.keep _ _ ob id, vaF_serve _ _ _ _ _ _ _ _ _, q, x, d, b, n, m, v, p, ls, lr, ll, k, wd, fd, kvs, rfl, hx, hnm, va1, fun H' n' p' ls' lr' ll' wd' fd' kvs' hn va' f' fr => ?_⟩
    exact kk H' n' p' ls' lr' ll' wd' fd' kvs' hn va' (f1.any.trans f') fun c z => (fr c z).imp id (f1.dom c)
abbrev sVInit : Stmt := inClass (top 40) 1
abbrev sVInitN : List Str := ["self", "device", "load", "store"]
theorem sVInitS : FnScopeS sVInitN ["self", "device", "load", "store"] (defScope sVInit) := ⟨rfl, rfl, rfl, by decide +kernel, rfl, by decide +kernel, by decide +kernel, by decide +kernel, by decide +kernel, by decide +kernel⟩
def spVInit (K : PySem.W.Frag) (B C : Addr) : Sp := fun vs H Q _ => ∃ (q dx : Addr) (v : V) (d : Dev) (g k : Addr), vs = [.ref q, v, .ref g, .ref k] ∧ H q = some (.ins C dx []) ∧ TN H v (devK d) ∧ DevOk d ∧ PySem.W.typeIn K (.ref g) = some (.type "function") ∧ PySem.W.typeIn K (.ref k) = some (.type "function") ∧
  ∀ H' p ls lr ll wd fd, VaAt B C H' q d (empty d) 0 0 v p ls lr ll g k wd fd [] → Fr (· = q) H H' → (∀ c, OwnV q p ls lr ll wd fd c → c = q ∨ H c = none) → Q .non H'
theorem ok_vinit {f f2 cc cda : Addr} {fd2 : FuncData} {dV kV doc pm ct oc : Value} {an od : Option Addr} {osl : Array (Option Value)} (ck : CK K C) (vk : VK_ K C) (cC : Cls K C)
    (lk : K.lookup f = some ⟨oc, od, .func (PySem.W.ksFn "__init__" "ValueCache.__init__" (defArgs sVInit) (defBody sVInit) (defScope sVInit) dV kV doc pm an (.ref cda) ct cc), osl⟩) (hcd : PySem.W.codeIn K (.ref cda) "ValueCache.__init__" = true)
    (U : SupOk P K C C f f2 cc cda "__init__") (F2 : FnOk P w K mg base CX0 7 f2 fd2 ["self", "device"] (spCInit B C)) (hb2 : Binds K fd2 ["self", "device"] []) (D_check_function : Def P w K mg base "check_function" ["value"] 1 (spChkF K)) :
    FnOk P w K mg base CX0 8 f (PySem.W.ksFn "__init__" "ValueCache.__init__" (defArgs sVInit) (defBody sVInit) (defScope sVInit) dV kV doc pm an (.ref cda) ct cc) ["self", "device", "load", "store"] (spVInit K B C) := by
  refine fn_ofS (slf := "self") (k := 7) (k2 := 7) lk hcd sVInitS rfl rfl U F2 (Nat.le_refl _) hb2 (fun vs H Q E h => ?_) (fun A outer s H vs Q E hr h => ?_)
  · obtain ⟨q, dx, v, d, g, k, rfl, _⟩ := h
    rfl
  · obtain ⟨q, dx, v, d, g, k, rfl, ob, tv, dok, hg, hk, kk⟩ := h
    refine ⟨_, _, pa_cons (pv 1) pa_nil, (pss_cons (ps_expr (pe_def D_check_function (hr.mono (by decide)) (by rfl) (pa_cons (pv 2) pa_nil)))
      (pss_cons (ps_expr (pe_def D_check_function (hr.mono (by decide)) (by rfl) (pa_cons (pv 3) pa_nil)))
      (pss_cons (ps_fld (pv 0) (pv 2) rfl)
      (pss_cons (ps_fld (pv 0) (pv 3) rfl)
      (pss_cons (ps_fld (pv 0) pe_dnewK rfl)
      (pss_cons (ps_fld (pv 0) pe_dnewK rfl)
      (pss_one (ps_fld (pv 0) pe_bl rfl)))))))), q, dx, [], rfl, ob, cC, fun r hr0 => ?_⟩
    rw [show L2.start sVInitN [.ref q, v, .ref g, .ref k] = [some (.ref q), some v, some (.ref g), some (.ref k)] from rfl]
    walk_at "rd"
    have f0 : Fr F0 H (upd H r (.met f2 q)) := Fr.new _ hr0
    refine ⟨upd_same, q, dx, v, d, rfl, f0.keep _ _ ob id, tv.up f0.tk, dok, fun H1 p ls lr ll ca f1 h1 h2 h3 h4 => ?_⟩
    obtain ⟨dy, ob1⟩ := ca.ob
    refine ⟨g, rfl, hg, fun H2 e2 => ⟨k, rfl, hk, fun H3 e3 => ?_⟩⟩
    have ob3 := e3.keep _ _ (e2.keep _ _ ob1 id) id
    have ca3 := (ca.up0 e2).up0 e3
    have F3 : Fr (· = q) H H3 := ((f0.any.trans f1).trans e2.any).trans e3.any
    refine ⟨_, _, _, ob3, cC, vk.load, by rw [caF_len]; show (4 : Nat) < 1000; decide, ?_⟩
    rw [vf1]
    have ob4 : upd H3 q (.ins C dy (caF v p 0 0 ++ ([("load", .ref g)] : List (Str × V)))) q = _ := upd_same
    have g4 : Fr (· = q) H3 (upd H3 q (.ins C dy (caF v p 0 0 ++ ([("load", .ref g)] : List (Str × V))))) := Fr.setI _ ob3 rfl
    generalize upd H3 q (.ins C dy (caF v p 0 0 ++ ([("load", .ref g)] : List (Str × V)))) = H4 at g4 ob4 ⊢
    refine ⟨_, _, _, ob4, cC, vk.store, by rw [caF_len]; show (5 : Nat) < 1000; decide, ?_⟩
    rw [vf2]
    have ob5 : upd H4 q (.ins C dy (caF v p 0 0 ++ ([("load", .ref g), ("store", .ref k)] : List (Str × V)))) q = _ := upd_same
    have g5 : Fr (· = q) H4 (upd H4 q (.ins C dy (caF v p 0 0 ++ ([("load", .ref g), ("store", .ref k)] : List (Str × V))))) := Fr.setI _ ob4 rfl
    generalize upd H4 q (.ins C dy (caF v p 0 0 ++ ([("load", .ref g), ("store", .ref k)] : List (Str × V)))) = H5 at g5 ob5 ⊢
    intro wd hwd
    have g6 : Fr F0 H5 (upd H5 wd (.dK [])) := Fr.new _ hwd
    have w6 : upd H5 wd (.dK []) wd = _ := upd_same
    generalize upd H5 wd (.dK []) = H6 at g6 w6 ⊢
    have ob6 := g6.keep _ _ ob5 id
    have nqw : q ≠ wd := ne_of_none ob5 hwd
    refine ⟨_, _, _, ob6, cC, vk.worths, by rw [caF_len]; show (6 : Nat) < 1000; decide, ?_⟩
    rw [vf3]
    have ob7 : upd H6 q (.ins C dy (caF v p 0 0 ++ ([("load", .ref g), ("store", .ref k), ("worths", .ref wd)] : List (Str × V)))) q = _ := upd_same
    have g7 : Fr (· = q) H6 (upd H6 q (.ins C dy (caF v p 0 0 ++ ([("load", .ref g), ("store", .ref k), ("worths", .ref wd)] : List (Str × V))))) := Fr.setI _ ob6 rfl
    generalize upd H6 q (.ins C dy (caF v p 0 0 ++ ([("load", .ref g), ("store", .ref k), ("worths", .ref wd)] : List (Str × V)))) = H7 at g7 ob7 ⊢
    have w7 := g7.keep _ _ w6 (Ne.symm nqw)
    intro fd hfd
    have g8 : Fr F0 H7 (upd H7 fd (.dK [])) := Fr.new _ hfd
    have e8 : upd H7 fd (.dK []) fd = _ := upd_same
    generalize upd H7 fd (.dK []) = H8 at g8 e8 ⊢
    have ob8 := g8.keep _ _ ob7 id
    have nqf : q ≠ fd := ne_of_none ob7 hfd
    have w8 := g8.keep _ _ w7 id
    refine ⟨_, _, _, ob8, cC, vk.fresh, by rw [caF_len]; show (7 : Nat) < 1000; decide, ?_⟩
    rw [vf4]
    have ob9 : upd H8 q (.ins C dy (caF v p 0 0 ++ ([("load", .ref g), ("store", .ref k), ("worths", .ref wd), ("fresh", .ref fd)] : List (Str × V)))) q = _ := upd_same
    have g9 : Fr (· = q) H8 (upd H8 q (.ins C dy (caF v p 0 0 ++ ([("load", .ref g), ("store", .ref k), ("worths", .ref wd), ("fresh", .ref fd)] : List (Str × V))))) := Fr.setI _ ob8 rfl
    generalize upd H8 q (.ins C dy (caF v p 0 0 ++ ([("load", .ref g), ("store", .ref k), ("worths", .ref wd), ("fresh", .ref fd)] : List (Str × V)))) = H9 at g9 ob9 ⊢
    refine ⟨_, _, _, ob9, cC, vk.working, by rw [caF_len]; show (8 : Nat) < 1000; decide, ?_⟩
    rw [vf5]
    have ob10 : upd H9 q (.ins C dy (caF v p 0 0 ++ vaR g k wd fd false)) q = _ := upd_same
    have g10 : Fr (· = q) H9 (upd H9 q (.ins C dy (caF v p 0 0 ++ vaR g k wd fd false))) := Fr.setI _ ob9 rfl
    generalize upd H9 q (.ins C dy (caF v p 0 0 ++ vaR g k wd fd false)) = H10 at g10 ob10 ⊢
    have g910 := g9.trans g10
    have G : Fr (· = q) H3 H10 := ((((g4.trans g5).trans g6.any).trans g7).trans g8.any).trans g910
    obtain ⟨n1, n2, n3⟩ := ca3.qne
    refine kk H10 p ls lr ll wd fd ⟨⟨⟨dy, ob10⟩, ca3.ba.up G (Ne.symm ca3.ne) (Ne.symm n1) (Ne.symm n2) (fun c hc z => n3 (z ▸ hc)), ca3.tv.up G.tk, ca3.ne⟩, g910.keep _ _ w8 (Ne.symm nqw), g910.keep _ _ e8 (Ne.symm nqf), Nat.zero_le _, fun e he => absurd he (by simp), fun x hx => ?_⟩ (F3.trans G) ?_
    · obtain ⟨r, hr, hm⟩ := holds_iff.mp hx
      exact absurd (only_empty (fun _ => False) d r hr x hm) id
    · have F5 := F3.trans (g4.trans g5)
      have F7 := (F5.trans g6.any).trans g7
      rintro c ((z | z | z | z | z) | z | z)
      · exact .inl z
      · exact .inr (by rw [z]; exact f0.dom _ h1)
      · exact .inr (by rw [z]; exact f0.dom _ h2)
      · exact .inr (by rw [z]; exact f0.dom _ h3)
      · exact .inr (f0.dom _ (h4 c z))
      · exact .inr (by rw [z]; exact F5.dom _ hwd)
      · exact .inr (by rw [z]; exact F7.dom _ hfd)
end
end K53
end
section
set_option Elab.async false
set_option linter.all false
set_option maxRecDepth 100000
set_option maxHeartbeats 4000000
set_option pp.maxSteps 2500
namespace K53
open PySem PySem.Spec PyProof.Rows L2
local macro_rules | `(tactic| walk_at "rd") => `(tactic| (
  try dsimp only [tSeq, tIfS, tOr, tAnd, tNot, tNotV, tAndV, tOrV, tB, tCB, tCons, tNil, tVar, tC, tTest, tChain, tRet, tRetN, tNext, tOp, rI0, rI, tAsg, gName, tDrop, tIf, tTup, tLst, tFld, tUn, rU, tCall, tMeth, tMake, tProp, iStr, iTup, iList, iRng1, iRng2, iEnumT,
    tPar, tPar3, gTup, gCons, gNil, gSub, gUnl, rSetL, rIxL, rIxT, rAppend, rExtend, tBM, tBM0, sFld, sFldAug, tSl, tPart, tNoPart, rSlL, rSlA, rSlT, tAug, ipI, t2I, rEq, rNe, scal, List.append_nil, List.cons_append, List.nil_append, List.getElem?_cons_zero, List.getElem?_cons_succ, List.set_cons_zero, List.set_cons_succ,
    List.map_cons, List.map_nil]
  try simp only [Option.some.injEq, exists_eq_left', exists_eq_left, exists_eq_right, exists_eq', V.int.injEq, V.str.injEq, V.bl.injEq, V.ref.injEq, List.cons.injEq, and_true, true_and, and_assoc, exists_and_left, exists_const, Bool.not_true, Bool.not_false, Bool.false_eq_true, if_true, if_false, ite_true, ite_false, decide_true, decide_false, reduceCtorEq, false_and, false_or, or_false, List.cons_ne_nil, exists_false, List.length_cons, List.length_nil, Nat.reduceAdd, Nat.zero_add, Int.cast_ofNat_Int, Int.reduceEq, Int.reduceLT, Int.reduceLE, Int.reduceAdd, Int.reduceSub, at0, at1, at2, eq_self, List.reverse_cons, List.reverse_nil]))

local macro_rules | `(tactic| walk_at "fd") => `(tactic| (
  repeat (first
    | (apply And.intro
       · first
         | assumption
         | exact sqT (by assumption)
         | exact sqL (by assumption)
         | exact .inl (sqL (by assumption))
         | exact .inr (sqT (by assumption))
         | exact atI_nat (by assumption)
         | exact at0
         | exact at1
         | exact at2
         | exact bxF_rows _ _ _ _
         | exact bxF_stages _ _ _ _
         | exact bxF_pols _ _ _ _
         | exact bxF_mode _ _ _ _
         | exact bxF_told _ _ _ _
         | exact bxF_holds _ _ _ _
         | exact bxF_touch _ _ _ _
         | exact bxF_fill _ _ _ _
         | exact bxF_ask _ _ _ _
         | exact bxF_go_down _ _ _ _
         | exact bxF_moment _ _ _ _
         | exact BK.c (by assumption)
         | exact BK.rows (by assumption)
         | exact BK.stages (by assumption)
         | exact BK.policies (by assumption)
         | exact BK.mode (by assumption)
         | rfl)
    | with_reducible apply Exists.intro)))

theorem SqL.fr {K : PySem.W.Frag} {H H' : Hp} {a : Addr} {xs : List V} (h : SqL K H a xs) (f : Fr F0 H H') : SqL K H' a xs := by
  rcases h with (h | ⟨o, h⟩) | h
  · exact .inl (.inl (f.keep _ _ h id))
  · exact .inl (.inr ⟨o, f.keep _ _ h id⟩)
  · exact .inr h
def PoolAt (H : Hp) (p : Addr) : Prop := ∃ a dg c : Nat, H p = some (.lst [.int (a : Int), .int (dg : Int), .int (c : Int)]) ∧ a < 2147483249
theorem PoolAt.up {F : Addr → Prop} {H H' : Hp} {p : Addr} (x : PoolAt H p) (f : Fr F H H') (h : ¬ F p) : PoolAt H' p := by
  obtain ⟨a, dg, c, e, ha⟩ := x
  exact ⟨a, dg, c, f.keep _ _ e h, ha⟩
section
variable {P : Program} {w : World} {K : PySem.W.Frag} {mg : Str → Option Value} {base : Heap} {B C : Addr}
abbrev sCell : Stmt := (top 42)
abbrev sCellN : List Str := ["_law_script", "_law_k", "_law_state", "_law_figure"]
theorem sCellS : FnScope sCellN ["_law_script", "_law_k"] (defScope sCell) := ⟨rfl, rfl, rfl, by decide +kernel, rfl, by decide +kernel, by decide +kernel⟩
def spCell_ (K : PySem.W.Frag) : Sp := fun vs H Q _ => ∃ (a : Addr) (ns : List Int) (k : Nat), vs = [.ref a, .int (k : Int)] ∧ SqL K H a (ns.map V.int) ∧ ns.length ≤ 63 ∧ k ≤ 100 ∧ ∀ (i : Int) H', Fr F0 H H' → Q (.int i) H'
theorem ok_cell {f : Addr} {fd : FuncData} (F : Fun K "_law_cell" "_law_cell" sCell f fd) (Bb : Bi mg) : FnOk P w K mg base CX0 1 f fd ["_law_script", "_law_k"] (spCell_ K) := by
  refine F.ok sCellS (fun vs H Q E h => ?_) (fun cdv A outer s H vs Q E hr h => ?_)
  · obtain ⟨a, ns, k, rfl, _⟩ := h
    rfl
  · obtain ⟨a, ns, k, rfl, hs, hl, hk, kk⟩ := h
    refine ⟨_, (pss_cons (ps_if (pt_cmpR op_lt (pv 1) (pe_callB (id := "len") call_len_seq (by rfl) Bb.len (by decide +kernel) (pa_cons (pv 0) pa_nil)) (nomark _)) (pss_one (ps_ret (pe_callTy (T := "int") call_int1 (by rfl) Bb.int (by decide +kernel) (pa_cons (pe_ix ix_list (pv 0) (pv 1) (fun _ _ => rfl)) pa_nil)))) pss_nil)
      (pss_cons (ps_set (i := 2) sCellS.nd rfl (Or.inl rfl) (pe_op op_mod (pe_op op_mul pe_int (pe_op op_add (pe_op op_add (pe_op op_mul (pv 1) (pv 1)) (pe_op op_mul pe_int (pv 1))) pe_int)) pe_int))
      (pss_cons (ps_for PassesOwn.never rfl (pi_list (pe_slice sl_list (pv 0) po_none (po_some pe_int))) (pg_name (i := 3) sCellS.nd rfl (Or.inl rfl)) (pss_one (ps_set (i := 2) sCellS.nd rfl (Or.inl rfl) (pe_op op_mod (pe_op op_add (pe_op op_mul (pv 2) pe_int) (pe_callTy (T := "int") call_int1 (by rfl) Bb.int (by decide +kernel) (pa_cons (pv 3) pa_nil))) pe_int))))
      (pss_one (ps_ret (pv 2)))))), ?_⟩
    rw [show L2.start sCellN [.ref a, .int (k : Int)] = [some (.ref a), some (.int (k : Int)), none, none] from rfl]
    walk_at "rd"
    refine ⟨_, .inl hs, ?_⟩
    by_cases h : (k : Int) < ((ns.map V.int).length : Int)
    · rw [decide_eq_true h]
      have h2 : k < ns.length := by rw [List.length_map] at h; omega
      walk_at "rd"
      refine ⟨_, hs, _, atI_nat (mapGet' _ (List.getElem?_eq_getElem h2)), .inl ⟨_, rfl, ?_⟩⟩
      exact kk _ _ (Fr.refl _ _)
    · rw [decide_eq_false h]
      walk_at "rd"
      refine ⟨.inl ⟨by omega, by omega⟩, .inl ⟨by decide, by decide⟩, .inl ⟨by decide, by decide⟩, ?_⟩
      refine ⟨.ref a, rfl, 3, rfl, a, _, rfl, hs, fun q hq => ?_⟩
      have f1 : Fr F0 H (upd H q (.lst (cutV (ns.map V.int) none (some 3)))) := Fr.new _ hq
      have e1 : upd H q (.lst (cutV (ns.map V.int) none (some 3))) q = _ := upd_same
      generalize upd H q (.lst (cutV (ns.map V.int) none (some 3))) = H1 at f1 e1 ⊢
      refine ⟨q, rfl, ⟨_, sqL e1⟩, for_list (K := K) (xs := cutV (ns.map V.int) none (some 3)) (fun i σ H' => ∃ (z : Int) (x : Option V), σ = [some (.ref a), some (.int (k : Int)), some (.int z), x] ∧ H' = H1) ⟨_, _, rfl, rfl⟩ (fun i σ H' _ hh => by obtain ⟨_, _, _, rfl⟩ := hh; exact sqL e1) ?_ ?_⟩
      · rintro i x σ H' hx ⟨z, x0, rfl, rfl⟩
        have hm := List.mem_of_getElem? hx
        unfold cutV at hm
        obtain ⟨j, _, rfl⟩ := List.mem_map.mp (List.mem_of_mem_drop (List.mem_of_mem_take hm))
        walk_at "rd"
        exact .inr ⟨by decide, by decide⟩
      · rintro σ H' ⟨z, x0, rfl, rfl⟩
        exact ⟨_, rfl, kk _ _ f1⟩
abbrev sPool : Stmt := (top 43)
abbrev sPoolN : List Str := ["_law_figure", "_law_digits"]
theorem sPoolS : FnScope sPoolN ["_law_figure"] (defScope sPool) := ⟨rfl, rfl, rfl, by decide +kernel, rfl, by decide +kernel, by decide +kernel⟩
def spPool : Sp := fun vs H Q _ => ∃ i : Int, vs = [.int i] ∧ ∀ p H', PoolAt H' p → Fr F0 H H' → H p = none → Q (.ref p) H'
theorem ok_pool {f : Addr} {fd : FuncData} (F : Fun K "_law_pool" "_law_pool" sPool f fd) (Bb : Bi mg) : FnOk P w K mg base CX0 1 f fd ["_law_figure"] spPool := by
  refine F.ok sPoolS (fun vs H Q E h => ?_) (fun cdv A outer s H vs Q E hr h => ?_)
  · obtain ⟨i, rfl, _⟩ := h
    rfl
  · obtain ⟨i, rfl, kk⟩ := h
    refine ⟨_, (pss_cons (ps_set (i := 1) sPoolS.nd rfl (Or.inl rfl) (pe_ifExp (PW.pt (pw_or (pt_cmpR op_lt (pv 0) pe_int (nomark _)) (pw_or1 (pt_cmpR op_ge (pv 0) (pe_op op_pow pe_int pe_int) (nomark _))))) (pe_callB (id := "abs") call_abs (by rfl) Bb.abs (by decide +kernel) (pa_cons (pv 0) pa_nil)) pe_int))
      (pss_one (ps_ret (pe_lst (pa_cons (pe_op op_mod (pe_callTy (T := "int") call_int1 (by rfl) Bb.int (by decide +kernel) (pa_cons (pv 0) pa_nil)) pe_int) (pa_cons (pv 1) (pa_cons pe_int pa_nil))))))), ?_⟩
    rw [show L2.start sPoolN [.int i] = [some (.int i), none] from rfl]
    walk_at "rd"
    obtain ⟨m, hm⟩ := Int.eq_ofNat_of_zero_le (Int.emod_nonneg i (show (2147483249 : Int) ≠ 0 by decide))
    have hm2 := Int.emod_lt_of_pos i (show (0 : Int) < 2147483249 by decide)
    have hm3 : m < 2147483249 := by omega
    obtain ⟨dg, hdg⟩ := Int.eq_ofNat_of_zero_le (show 0 ≤ (if i < 0 then -i else i) by split <;> omega)
    rw [hm, hdg]
    by_cases h1 : i < 0
    · rw [decide_eq_true h1, if_pos rfl]
      exact ⟨by decide, fun p hp => kk p _ ⟨m, dg, 0, upd_same, hm3⟩ (Fr.new _ hp) hp⟩
    · rw [decide_eq_false h1, if_neg (by decide)]
      refine ⟨⟨by decide, by decide, by decide⟩, ?_⟩
      split
      · exact ⟨by decide, fun p hp => kk p _ ⟨m, dg, 0, upd_same, hm3⟩ (Fr.new _ hp) hp⟩
      · exact ⟨by decide, fun p hp => kk p _ ⟨m, 0, 0, upd_same, hm3⟩ (Fr.new _ hp) hp⟩
abbrev sDraw : Stmt := (top 44)
abbrev sDrawN : List Str := ["_law_pool_here", "_law_most", "_law_state", "_law_digit"]
theorem sDrawS : FnScope sDrawN ["_law_pool_here", "_law_most"] (defScope sDraw) := ⟨rfl, rfl, rfl, by decide +kernel, rfl, by decide +kernel, by decide +kernel⟩
def spDraw : Sp := fun vs H Q _ => ∃ (p : Addr) (most : Nat), vs = [.ref p, .int (most : Int)] ∧ PoolAt H p ∧ 0 < most ∧ most < 1073741824 ∧ ∀ (r : Nat) H', r < most → PoolAt H' p → Fr (· = p) H H' → Q (.int (r : Int)) H'
theorem ok_draw {f : Addr} {fd : FuncData} (F : Fun K "_law_draw" "_law_draw" sDraw f fd) (Bb : Bi mg) : FnOk P w K mg base CX0 1 f fd ["_law_pool_here", "_law_most"] spDraw := by
  refine F.ok sDrawS (fun vs H Q E h => ?_) (fun cdv A outer s H vs Q E hr h => ?_)
  · obtain ⟨p, most, rfl, _⟩ := h
    rfl
  · obtain ⟨p, most, rfl, ⟨a, dg, c, ep, ha⟩, hm0, hm1, kk⟩ := h
    refine ⟨_, (pss_cons (ps_asg (pe_op op_add (pe_ix ix_list (pv 0) pe_int (fun _ _ => rfl)) pe_int) (pg_sub (pv 0) pe_int set_list))
      (pss_cons (ps_set (i := 2) sDrawS.nd rfl (Or.inl rfl) (pe_callTy (T := "int") call_int1 (by rfl) Bb.int (by decide +kernel) (pa_cons (pe_ix ix_list (pv 0) pe_int (fun _ _ => rfl)) pa_nil)))
      (pss_cons (ps_asg (pe_op op_mod (pe_op op_add (pe_op op_mul (pv 2) (pe_op op_add (pe_op op_mod (pv 2) pe_int) pe_int)) (pe_op op_mul pe_int (pe_ix ix_list (pv 0) pe_int (fun _ _ => rfl)))) pe_int) (pg_sub (pv 0) pe_int set_list))
      (pss_cons (ps_if (pt_cmpR op_gt (pe_ix ix_list (pv 0) pe_int (fun _ _ => rfl)) pe_int (nomark _)) (pss_cons (ps_asg (pe_callB (id := "divmod") call_divmod (by rfl) Bb.divmod (by decide +kernel) (pa_cons (pe_ix ix_list (pv 0) pe_int (fun _ _ => rfl)) (pa_cons (pv 1) pa_nil))) (pg_tup rfl (pgs_cons (pg_sub (pv 0) pe_int set_list) (pgs_cons (pg_name (i := 3) sDrawS.nd rfl (Or.inl rfl)) pgs_nil))))
      (pss_one (ps_ret (pv 3)))) pss_nil)
      (pss_one (ps_ret (pe_op op_mod (pe_op op_fdiv (pe_ix ix_list (pv 0) pe_int (fun _ _ => rfl)) pe_int) (pv 1)))))))), ?_⟩
    rw [show L2.start sDrawN [.ref p, .int (most : Int)] = [some (.ref p), some (.int (most : Int)), none, none] from rfl]
    walk_at "rd"
    have x2 : ixN 3 (2 : Int) = some 2 := rfl
    have x0 : ixN 3 (0 : Int) = some 0 := rfl
    have x1 : ixN 3 (1 : Int) = some 1 := rfl
    refine ⟨_, sqL ep, _, at2, _, rfl, _, ep, 2, x2, ?_⟩
    have e1 : upd H p (.lst [.int (a : Int), .int (dg : Int), .int ((c : Int) + 1)]) p = _ := upd_same
    have g1 : Fr (· = p) H (upd H p (.lst [.int (a : Int), .int (dg : Int), .int ((c : Int) + 1)])) := Fr.setL _ ep rfl
    walk_at "rd"
    generalize upd H p (.lst [.int (a : Int), .int (dg : Int), .int ((c : Int) + 1)]) = H1 at e1 g1 ⊢
    obtain ⟨s1, hs1⟩ := Int.eq_ofNat_of_zero_le (Int.emod_nonneg ((a : Int) * ((a : Int) % 50021 + 30011) + 80021 * ((c : Int) + 1)) (show (2147483249 : Int) ≠ 0 by decide))
    have hs2 := Int.emod_lt_of_pos ((a : Int) * ((a : Int) % 50021 + 30011) + 80021 * ((c : Int) + 1)) (show (0 : Int) < 2147483249 by decide)
    have hs3 : s1 < 2147483249 := by omega
    have e2 : upd H1 p (.lst [.int (s1 : Int), .int (dg : Int), .int ((c : Int) + 1)]) p = _ := upd_same
    have g2 : Fr (· = p) H1 (upd H1 p (.lst [.int (s1 : Int), .int (dg : Int), .int ((c : Int) + 1)])) := Fr.setL _ e1 rfl
    refine ⟨_, sqL e1, _, at0, .inl ⟨_, rfl, .inl ⟨by omega, by omega⟩, _, sqL e1, _, at2, _, rfl, .inl ⟨by decide, by decide⟩, _, e1, 0, x0, ?_⟩⟩
    rw [hs1]
    walk_at "rd"
    generalize upd H1 p (.lst [.int (s1 : Int), .int (dg : Int), .int ((c : Int) + 1)]) = H2 at e2 g2 ⊢
    have g02 := g1.trans g2
    refine ⟨_, sqL e2, _, at1, _, rfl, ?_⟩
    by_cases h : (0 : Int) < (dg : Int)
    · rw [decide_eq_true h, if_pos rfl]
      refine ⟨_, sqL e2, _, at1, _, rfl, ⟨by omega, by omega⟩, fun t ht => ?_⟩
      have g3 : Fr F0 H2 (upd H2 t (.tup [.int ((dg : Int) / (most : Int)), .int ((dg : Int) % (most : Int))])) := Fr.new _ ht
      have e3 := g3.keep _ _ e2 id
      refine ⟨_, sqT upd_same, rfl, _, _, rfl, _, e3, 1, x1, _, _, rfl, rfl, ?_⟩
      have k1 := kk (dg % most) (upd (upd H2 t (.tup [.int ((dg : Int) / (most : Int)), .int ((dg : Int) % (most : Int))])) p (.lst [.int (s1 : Int), .int ((dg / most : Nat) : Int), .int ((c + 1 : Nat) : Int)])) (Nat.mod_lt _ hm0) ⟨s1, dg / most, c + 1, upd_same, hs3⟩ ((g02.trans g3.any).trans (Fr.setL _ e3 rfl))
      exact k1
    · rw [decide_eq_false h, if_neg (by decide)]
      refine ⟨_, sqL e2, _, at0, _, rfl, ⟨by decide, by decide⟩, by omega, ?_⟩
      exact kk (s1 / 64 % most) H2 (Nat.mod_lt _ hm0) ⟨s1, dg, c + 1, e2, hs3⟩ g02
abbrev sGive : Stmt := (top 51)
abbrev sGiveN : List Str := ["_law_who"]
theorem sGiveS : FnScope sGiveN ["_law_who"] (defScope sGive) := ⟨rfl, rfl, rfl, by decide +kernel, rfl, by decide +kernel, by decide +kernel⟩
theorem ok_give {f : Addr} {fd : FuncData} (F : Fun K "_law_give" "_law_give" sGive f fd) (Bb : Bi mg) : FnOk P w K mg base CX0 1 f fd ["_law_who"] spGive := by
  refine F.ok sGiveS (fun vs H Q E h => ?_) (fun cdv A outer s H vs Q E hr h => ?_)
  · obtain ⟨x, rfl, _⟩ := h
    rfl
  · obtain ⟨x, rfl, hl, kk⟩ := h
    refine ⟨_, (pss_one (ps_ret (pe_callB (id := "len") call_len_str (by rfl) Bb.len (by decide +kernel) (pa_cons (pv 0) pa_nil)))), ?_⟩
    rw [show L2.start sGiveN [.str x] = [some (.str x)] from rfl]
    walk_at "rd"
    exact ⟨hl, kk⟩
end
end K53
end
section
set_option Elab.async false
set_option linter.all false
set_option maxRecDepth 100000
set_option maxHeartbeats 4000000
set_option pp.maxSteps 2500
namespace K53
open PySem PySem.Spec PyProof.Rows L2
local macro_rules | `(tactic| walk_at "rd") => `(tactic| (
  try dsimp only [tSeq, tIfS, tOr, tAnd, tNot, tNotV, tAndV, tOrV, tB, tCB, tCons, tNil, tVar, tC, tTest, tChain, tRet, tRetN, tNext, tOp, rI0, rI, tAsg, gName, tDrop, tIf, tTup, tLst, tFld, tUn, rU, tCall, tMeth, tMake, tProp, iStr, iTup, iList, iRng1, iRng2, iEnumT,
    tPar, tPar3, gTup, gCons, gNil, gSub, gUnl, rSetL, rIxL, rIxT, rAppend, rExtend, tBM, tBM0, sFld, sFldAug, tSl, tPart, tNoPart, rSlL, rSlA, rSlT, tAug, ipI, t2I, rEq, rNe, scal, List.append_nil, List.cons_append, List.nil_append, List.getElem?_cons_zero, List.getElem?_cons_succ, List.set_cons_zero, List.set_cons_succ,
    List.map_cons, List.map_nil]
  try simp only [Option.some.injEq, exists_eq_left', exists_eq_left, exists_eq_right, exists_eq', V.int.injEq, V.str.injEq, V.bl.injEq, V.ref.injEq, List.cons.injEq, and_true, true_and, and_assoc, exists_and_left, exists_const, Bool.not_true, Bool.not_false, Bool.false_eq_true, if_true, if_false, ite_true, ite_false, decide_true, decide_false, reduceCtorEq, false_and, false_or, or_false, List.cons_ne_nil, exists_false, List.length_cons, List.length_nil, Nat.reduceAdd, Nat.zero_add, Int.cast_ofNat_Int, Int.reduceEq, Int.reduceLT, Int.reduceLE, Int.reduceAdd, Int.reduceSub, at0, at1, at2, eq_self, List.reverse_cons, List.reverse_nil]))

local macro_rules | `(tactic| walk_at "fd") => `(tactic| (
  repeat (first
    | (apply And.intro
       · first
         | assumption
         | exact sqT (by assumption)
         | exact sqL (by assumption)
         | exact .inl (sqL (by assumption))
         | exact .inr (sqT (by assumption))
         | exact atI_nat (by assumption)
         | exact at0
         | exact at1
         | exact at2
         | exact bxF_rows _ _ _ _
         | exact bxF_stages _ _ _ _
         | exact bxF_pols _ _ _ _
         | exact bxF_mode _ _ _ _
         | exact bxF_told _ _ _ _
         | exact bxF_holds _ _ _ _
         | exact bxF_touch _ _ _ _
         | exact bxF_fill _ _ _ _
         | exact bxF_ask _ _ _ _
         | exact bxF_go_down _ _ _ _
         | exact bxF_moment _ _ _ _
         | exact BK.c (by assumption)
         | exact BK.rows (by assumption)
         | exact BK.stages (by assumption)
         | exact BK.policies (by assumption)
         | exact BK.mode (by assumption)
         | rfl)
    | with_reducible apply Exists.intro)))

section
variable {P : Program} {w : World} {K : PySem.W.Frag} {mg : Str → Option Value} {base : Heap} {B C : Addr}
structure PolInv (H : Hp) (p rl : Addr) (l n i : Nat) (σ : L2.St) (H' : Hp) : Prop where
  s : ∃ x1 x2 x3, σ = [some (.ref p), some (.int (l : Int)), some (.int (n : Int)), some (.ref rl), x1, x2, x3]
  hp : PoolAt H' p
  f : Fr (· = p) H H'
  t : ∃ (acc : List V) (rows : List (Nat × Nat × List Nat)), H' rl = some (.lst acc) ∧ TNs H' acc (rows.map rowK) ∧ rows.length = i ∧ ∀ r ∈ rows, RowOk l n r
abbrev sPolicy : Stmt := (top 45)
abbrev sPolicyN : List Str := ["_law_pool_here", "_law_lines", "_law_states", "_law_rows", "_law_turn", "_law_hits", "_law_line"]
theorem sPolicyS : FnScope sPolicyN ["_law_pool_here", "_law_lines", "_law_states"] (defScope sPolicy) := ⟨rfl, rfl, rfl, by decide +kernel, rfl, by decide +kernel, by decide +kernel⟩
def spPolicy : Sp := fun vs H Q _ => ∃ (p : Addr) (l n : Nat), vs = [.ref p, .int (l : Int), .int (n : Int)] ∧ PoolAt H p ∧ 1 ≤ l ∧ l ≤ 3 ∧ 1 ≤ n ∧ n ≤ 5 ∧ ∀ (v : V) (o : Pol) H', TN H' v (polK o) → PolOk o → o.lines = l → PoolAt H' p → Fr (· = p) H H' → Q v H'
theorem ok_policy {f : Addr} {fd : FuncData} (F : Fun K "_law_policy" "_law_policy" sPolicy f fd) (Bb : Bi mg) (D__law_draw : Def P w K mg base "_law_draw" ["_law_pool_here", "_law_most"] 1 spDraw) : FnOk P w K mg base CX0 2 f fd ["_law_pool_here", "_law_lines", "_law_states"] spPolicy := by
  refine F.ok sPolicyS (fun vs H Q E h => ?_) (fun cdv A outer s H vs Q E hr h => ?_)
  · obtain ⟨p, l, n, rfl, _⟩ := h
    rfl
  · obtain ⟨p, l, n, rfl, hp, hl1, hl3, hn1, hn5, kk⟩ := h
    refine ⟨_, (pss_cons (ps_set (i := 3) sPolicyS.nd rfl (Or.inl rfl) (pe_lst pa_nil))
      (pss_cons (ps_for PassesOwn.never rfl (pi_range1 (by rfl) Bb.range (pa_cons (pv 2) pa_nil)) (pg_name (i := 4) sPolicyS.nd rfl (Or.inl rfl)) (pss_cons (ps_set (i := 5) sPolicyS.nd rfl (Or.inl rfl) (pe_callTy (T := "tuple") call_tuple_of (by rfl) Bb.tuple (by decide +kernel) (pa_cons (pe_lc (own := [("_law_line", 6)]) (g := gName 6) (tt := tYes) rfl sPolicyS.nd (pi_range1 (by rfl) Bb.range (pa_cons (pv 1) pa_nil)) (blkOk_by (N := sPolicyN) (sc := (defScope sPolicy)) (by decide +kernel)) (fun _ _ _ _ _ => pg_name (i := 6) sPolicyS.nd rfl (Or.inl rfl)) (fun _ _ _ _ _ => pts_nil) (fun _ _ _ _ _ => (pe_def D__law_draw (hr.mono (by decide)) (by rfl) (pa_cons (pv 0) (pa_cons (pv 2) pa_nil))))) pa_nil)))
      (pss_one (ps_expr (pe_bm PySem.F.plainAttrs_list PySem.F.slot_list_append PySem.F.type_list_append mt_append (pv 3) (pa_cons (pe_tup (pa_cons (pe_def D__law_draw (hr.mono (by decide)) (by rfl) (pa_cons (pv 0) (pa_cons (pv 1) pa_nil))) (pa_cons (pe_def D__law_draw (hr.mono (by decide)) (by rfl) (pa_cons (pv 0) (pa_cons (pv 2) pa_nil))) (pa_cons (pv 5) pa_nil)))) pa_nil))))))
      (pss_one (ps_ret (pe_tup (pa_cons (pv 1) (pa_cons (pe_callTy (T := "tuple") call_tuple_of (by rfl) Bb.tuple (by decide +kernel) (pa_cons (pv 3) pa_nil)) pa_nil))))))), ?_⟩
    rw [show L2.start sPolicyN [.ref p, .int (l : Int), .int (n : Int)] = [some (.ref p), some (.int (l : Int)), some (.int (n : Int)), none, none, none, none] from rfl]
    walk_at "rd"
    refine ⟨by decide, fun rl hrl => ?_⟩
    have f1 : Fr F0 H (upd H rl (.lst [])) := Fr.new _ hrl
    have e1 : upd H rl (.lst []) rl = _ := upd_same
    have hp1 := hp.up f1 id
    have nrp : rl ≠ p := fun z => by obtain ⟨_, _, _, e, _⟩ := hp; rw [z, e] at hrl; cases hrl
    generalize upd H rl (.lst []) = H1 at f1 e1 hp1 ⊢
    refine ⟨_, rfl, (n : Int), rfl, by omega, by omega, ?_⟩
    refine for_range (lo := 0) (n := (n : Int).toNat) (fun i σ H' => PolInv H p rl l n i σ H') ⟨⟨none, none, none, rfl⟩, hp1, f1.any, ⟨[], [], e1, .nil, rfl, fun r hr => absurd hr (by simp)⟩⟩ ?_ ?_
    · rintro i σ H2 hi ⟨⟨x1, x2, x3, rfl⟩, hp2, f2, ⟨acc, rows, e2, t2, hlen, hok⟩⟩
      have hi' : i < n := by omega
      walk_at "rd"
      refine tlc rfl ?_
      walk_at "rd"
      refine ⟨by omega, by omega, ?_⟩
      refine lc_fr (walk_range (lo := 0) (n := (l : Int).toNat)) (· = p) (fun D j acc H' => PoolAt H' p ∧ ∃ hs : List Nat, acc = numV hs ∧ ∀ s ∈ hs, s < n) (fun _ _ _ _ _ _ => trivial) (fun D hD => ⟨hp2.up (Fr.new (F := F0) _ hD) id, [], rfl, by simp⟩) ?_ ?_
      · rintro D j y H3 H4 acc' hD hj el fr ⟨hp3, hs, rfl, hhs⟩ e ⟨rfl, rfl⟩
        walk_at "rd"
        refine ⟨p, n, rfl, hp3, by omega, by omega, fun r H5 hr5 hp5 f5 => ?_⟩
        have nDp : D ≠ p := fun z => by obtain ⟨_, _, _, e', _⟩ := hp2; rw [z, e'] at hD; cases hD
        have e5 := f5.keep _ _ e nDp
        refine LcQ.mk hD e5 el (Nat.lt_of_lt_of_le (show j < 4 by omega) (by decide)) (fr.trans f5) ⟨hp5.up (Fr.setL (F := (· = D)) _ e5 rfl) (Ne.symm nDp), hs ++ [r], by simp, fun s hs' => ?_⟩
        rcases List.mem_append.mp hs' with h | h
        · exact hhs s h
        · rw [List.mem_singleton.mp h]; exact hr5
      · rintro D acc' H3 hD el f3 ⟨hp3, hs, rfl, hhs⟩ e
        have hsl : hs.length = l := by simp only [List.length_map] at el; omega
        have nDp : D ≠ p := fun z => by obtain ⟨_, _, _, e', _⟩ := hp2; rw [z, e'] at hD; cases hD
        refine ⟨D, rfl, _, .inl ⟨sqL e, fun T hT => ?_⟩⟩
        have g4 : Fr F0 H3 (upd H3 T (.tup (numV hs))) := Fr.new _ hT
        have hp4 := hp3.up g4 id
        have eT : upd H3 T (.tup (numV hs)) T = _ := upd_same
        generalize upd H3 T (.tup (numV hs)) = H4 at g4 hp4 eT ⊢
        have e24 := g4.keep _ _ (f3.keep _ _ e2 nrp) id
        walk_at "rd"
        refine ⟨tyL e24, p, l, rfl, hp4, by omega, by omega, fun r1 H5 hr1 hp5 f5 => ?_⟩
        walk_at "rd"
        refine ⟨p, n, rfl, hp5, by omega, by omega, fun r2 H6 hr2 hp6 f6 => ?_⟩
        walk_at "rd"
        have g46 := f5.trans f6
        refine ⟨by decide, fun U hU => ?_⟩
        have g7 : Fr F0 H6 (upd H6 U (.tup [.int (r1 : Int), .int (r2 : Int), .ref T])) := Fr.new _ hU
        have eU : upd H6 U (.tup [.int (r1 : Int), .int (r2 : Int), .ref T]) U = _ := upd_same
        generalize upd H6 U (.tup [.int (r1 : Int), .int (r2 : Int), .ref T]) = H7 at g7 eU ⊢
        have e27 := g7.keep _ _ (g46.keep _ _ e24 nrp) id
        have F7 : Fr (· = p) H2 H7 := ((f3.trans g4.any).trans g46).trans g7.any
        refine ⟨_, e27, ?_, ?_⟩
        · rw [t2.length, List.length_map, hlen]; exact Nat.lt_of_lt_of_le (show i < 6 by omega) (by decide)
        have g8 : Fr (· = rl) H7 (upd H7 rl (.lst (acc ++ [.ref U]))) := Fr.setL _ e27 rfl
        refine ⟨⟨_, _, _, rfl⟩, (hp6.up g7 id).up g8 (Ne.symm nrp), (f2.trans F7).after' g8 (fun c z => by rw [z]; exact hrl), ⟨_, rows ++ [(r1, r2, hs)], upd_same, ?_, by rw [List.length_append, hlen]; rfl, ?_⟩⟩
        · rw [List.map_append]
          refine ((t2.up F7.tk).up g8.tk).append (.cons (.tup (g8.tk _ _ eU) (.cons (.num _) (.cons (.num _) (.cons (.tup (g8.tk _ _ (g7.tk _ _ (g46.tk _ _ eT))) (numV_tn _ _)) .nil)))) .nil)
        · intro r hr'
          rcases List.mem_append.mp hr' with h | h
          · exact hok r h
          · rw [List.mem_singleton.mp h]
            exact ⟨hr1, hr2, hsl, by omega, hhs⟩
    · rintro σ H2 ⟨⟨x1, x2, x3, rfl⟩, hp2, f2, ⟨acc, rows, e2, t2, hlen, hok⟩⟩
      have hlen' : rows.length = n := by omega
      walk_at "rd"
      refine ⟨_, .inl ⟨sqL e2, fun T hT => ⟨by decide, fun U hU => ?_⟩⟩⟩
      have g3 : Fr F0 H2 (upd H2 T (.tup acc)) := Fr.new _ hT
      have g4 : Fr F0 _ (upd (upd H2 T (.tup acc)) U (.tup [.int (l : Int), .ref T])) := Fr.new _ hU
      have g34 := g3.trans g4
      refine kk _ ⟨l, rows⟩ _ (tn_made hU (.cons (.num _) (.cons (.tup upd_same (t2.up g3.tk)) .nil))) ⟨hl1, hl3, by show 1 ≤ rows.length; omega, by show rows.length ≤ 6; omega, fun r hr' => ?_⟩ rfl (hp2.up g34 id) (f2.trans g34.any)
      have := hok r hr'
      show RowOk l rows.length r
      rw [hlen']; exact this
theorem rep2 {α : Type} {x : α} {n : Nat} : (List.replicate n [x]).flatten = List.replicate n x := by
  induction n with
  | zero => rfl
  | succ n ih => rw [List.replicate_succ, List.flatten_cons, ih, List.replicate_succ]; rfl
abbrev sQueue : Stmt := (top 47)
abbrev sQueueN : List Str := ["_law_lines", "_law_at"]
theorem sQueueS : FnScope sQueueN ["_law_lines"] (defScope sQueue) := ⟨rfl, rfl, rfl, by decide +kernel, rfl, by decide +kernel, by decide +kernel⟩
def spQueue : Sp := fun vs H Q _ => ∃ (l : Nat), vs = [.int (l : Int)] ∧ 1 ≤ l ∧ l ≤ 3 ∧ ∀ (v : V) (o : Pol) H', TN H' v (polK o) → PolOk o → Fr F0 H H' → Q v H'
theorem ok_queue {f : Addr} {fd : FuncData} (F : Fun K "_law_queue" "_law_queue" sQueue f fd) (Bb : Bi mg) : FnOk P w K mg base CX0 1 f fd ["_law_lines"] spQueue := by
  refine F.ok sQueueS (fun vs H Q E h => ?_) (fun cdv A outer s H vs Q E hr h => ?_)
  · obtain ⟨l, rfl, _⟩ := h
    rfl
  · obtain ⟨l, rfl, hl1, hl3, kk⟩ := h
    refine ⟨_, (pss_one (ps_ret (pe_tup (pa_cons (pv 0) (pa_cons (pe_callTy (T := "tuple") call_tuple_of (by rfl) Bb.tuple (by decide +kernel) (pa_cons (pe_lc (own := [("_law_at", 1)]) (g := gName 1) (tt := tYes) rfl sQueueS.nd (pi_range1 (by rfl) Bb.range (pa_cons (pv 0) pa_nil)) (blkOk_by (N := sQueueN) (sc := (defScope sQueue)) (by decide +kernel)) (fun _ _ _ _ _ => pg_name (i := 1) sQueueS.nd rfl (Or.inl rfl)) (fun _ _ _ _ _ => pts_nil) (fun _ _ _ _ _ => (pe_tup (pa_cons (pv 1) (pa_cons (pe_op op_mod (pe_op op_add (pv 1) pe_int) (pv 0)) (pa_cons (pe_op (k_repN (K := K) rfl) (pe_tup (pa_cons (pv 1) pa_nil)) (pv 0)) pa_nil)))))) pa_nil)) pa_nil))))), ?_⟩
    rw [show L2.start sQueueN [.int (l : Int)] = [some (.int (l : Int)), none] from rfl]
    walk_at "rd"
    refine tlc rfl ?_
    walk_at "rd"
    refine ⟨by omega, by omega, ?_⟩
    refine lc_fr (walk_range (lo := 0) (n := (l : Int).toNat)) F0 (fun D i acc H' => TNs H' acc ((List.range i).map fun j => rowK (j, (j + 1) % l, List.replicate l j))) (fun _ _ _ _ _ _ => trivial) (fun _ _ => .nil) ?_ ?_
    · rintro D i y H1 H2 acc hD hi el fr t2 e ⟨rfl, rfl⟩
      have hi' : i < l := by omega
      have fin : ∀ (T : Addr) (H4 : Hp), Fr F0 H2 H4 → H4 T = some (.tup (numV (List.replicate l i))) → 3 ≤ sizeLine ∧ ∀ q, H4 q = none → LcQ F0 (fun D i acc H' => TNs H' acc ((List.range i).map fun j => rowK (j, (j + 1) % l, List.replicate l j))) H D i (.ref q) (upd H4 q (.tup [.int (i : Int), .int (((i : Int) + 1) % (l : Int)), .ref T])) := by
        intro T H4 f4 eT
        refine ⟨by decide, fun q hq => ?_⟩
        have g5 : Fr F0 H4 (upd H4 q (.tup [.int (i : Int), .int (((i : Int) + 1) % (l : Int)), .ref T])) := Fr.new _ hq
        have e5 := g5.keep _ _ (f4.keep _ _ e id) id
        have hqD : q ≠ D := fun z => by rw [z, f4.keep _ _ e id] at hq; cases hq
        refine LcQ.mk hD e5 el (Nat.lt_of_lt_of_le (show i < 4 by omega) (by decide)) ((fr.trans f4).trans g5) ?_
        rw [List.range_succ, List.map_append]
        refine (((t2.up f4.tk).up g5.tk).up (tk_setL _ e5)).append (.cons (.tup (by rw [upd_ne hqD]; exact upd_same) (.cons (.num _) (.cons (.num _) (.cons (.tup (tk_setL _ e5 _ _ (g5.tk _ _ eT)) (numV_tn _ _)) .nil)))) .nil)
      rw [show (fun i : Nat => V.int (0 + (i : Int))) = fun i : Nat => V.int (i : Int) from funext fun i => by rw [Int.zero_add]]
      walk_at "rd"
      refine ⟨by omega, by decide, fun q hq => ?_⟩
      have g3 : Fr F0 H2 (upd H2 q (.tup [.int (i : Int)])) := Fr.new _ hq
      refine ⟨q, l, [.int (i : Int)], rfl, rfl, sqT upd_same, by simp, by omega, by show (1 : Nat) ≤ 1000; decide, fun h0 => by omega, fun h1 => ?_, fun h2 T hT => ?_⟩
      · refine fin q _ g3 ?_
        rw [h1]
        exact upd_same
      · refine fin T _ (g3.trans (Fr.new _ hT)) ?_
        rw [upd_same, rep2]
        simp [numV, List.map_replicate]
    · rintro D acc H1 hD el fr t2 e
      refine ⟨D, rfl, _, .inl ⟨sqL e, fun T hT => ⟨by decide, fun U hU => ?_⟩⟩⟩
      have g3 : Fr F0 H1 (upd H1 T (.tup acc)) := Fr.new _ hT
      refine kk _ ⟨l, (List.range l).map fun j => (j, (j + 1) % l, List.replicate l j)⟩ _ (tn_made hU (.cons (.num _) (.cons (.tup upd_same ?_) .nil))) ⟨hl1, hl3, ?_, ?_, fun r hr' => ?_⟩ (fr.trans (g3.trans (Fr.new _ hU)))
      · rw [List.map_map]
        exact t2.up g3.tk
      · show 1 ≤ ((List.range l).map _).length; rw [List.length_map, List.length_range]; exact hl1
      · show ((List.range l).map _).length ≤ 6; rw [List.length_map, List.length_range]; omega
      · obtain ⟨j, hj, rfl⟩ := List.mem_map.mp hr'
        have hj' := List.mem_range.mp hj
        show RowOk l ((List.range l).map _).length _
        rw [List.length_map, List.length_range]
        exact ⟨hj', Nat.mod_lt _ (by omega), List.length_replicate, by omega, fun s hs => by rw [List.eq_of_mem_replicate hs]; exact hj'⟩
abbrev sWords : Stmt := (top 49)
abbrev sWordsN : List Str := ["_law_pool_here", "_law_some"]
theorem sWordsS : FnScope sWordsN ["_law_pool_here"] (defScope sWords) := ⟨rfl, rfl, rfl, by decide +kernel, rfl, by decide +kernel, by decide +kernel⟩
def wordsOk (ws : List Nm) : Prop := ws.length = 9 ∧ ∀ x ∈ ws, nameOk x
def W1 : List Nm := ["a", "b", "c", "d", "e", "f", "g", "h", "i"]
def W2 : List Nm := ["z", "y", "zy", "yz", "zzzzzz", "x", "xz", "zx", "w"]
def W3 : List Nm := ["aaaaaa", "aaaaa", "aaaa", "aaa", "aa", "a", "ab", "ba", "b"]
theorem w1_ok : wordsOk W1 := ⟨rfl, by unfold nameOk; decide +kernel⟩
theorem w2_ok : wordsOk W2 := ⟨rfl, by unfold nameOk; decide +kernel⟩
theorem w3_ok : wordsOk W3 := ⟨rfl, by unfold nameOk; decide +kernel⟩
def spWords : Sp := fun vs H Q _ => ∃ (p : Addr), vs = [.ref p] ∧ PoolAt H p ∧ ∀ (a : Addr) (ws : List Nm) H', H' a = some (.lst (ws.map V.str)) → wordsOk ws → PoolAt H' p → Fr (· = p) H H' → a ≠ p → Q (.ref a) H'
theorem ok_words {f : Addr} {fd : FuncData} (F : Fun K "_law_words" "_law_words" sWords f fd) (Bb : Bi mg) (D__law_draw : Def P w K mg base "_law_draw" ["_law_pool_here", "_law_most"] 1 spDraw) : FnOk P w K mg base CX0 2 f fd ["_law_pool_here"] spWords := by
  refine F.ok sWordsS (fun vs H Q E h => ?_) (fun cdv A outer s H vs Q E hr h => ?_)
  · obtain ⟨p, rfl, _⟩ := h
    rfl
  · obtain ⟨p, rfl, hp, kk⟩ := h
    refine ⟨_, (pss_cons (ps_set (i := 1) sWordsS.nd rfl (Or.inl rfl) (pe_lst (pa_cons (pe_lst (pa_cons pe_str (pa_cons pe_str (pa_cons pe_str (pa_cons pe_str (pa_cons pe_str (pa_cons pe_str (pa_cons pe_str (pa_cons pe_str (pa_cons pe_str pa_nil)))))))))) (pa_cons (pe_lst (pa_cons pe_str (pa_cons pe_str (pa_cons pe_str (pa_cons pe_str (pa_cons pe_str (pa_cons pe_str (pa_cons pe_str (pa_cons pe_str (pa_cons pe_str pa_nil)))))))))) pa_nil))))
      (pss_cons (ps_expr (pe_bm PySem.F.plainAttrs_list PySem.F.slot_list_append PySem.F.type_list_append mt_append (pv 1) (pa_cons (pe_lst (pa_cons pe_str (pa_cons pe_str (pa_cons pe_str (pa_cons pe_str (pa_cons pe_str (pa_cons pe_str (pa_cons pe_str (pa_cons pe_str (pa_cons pe_str pa_nil)))))))))) pa_nil)))
      (pss_one (ps_ret (pe_ix ix_list (pv 1) (pe_def D__law_draw (hr.mono (by decide)) (by rfl) (pa_cons (pv 0) (pa_cons pe_int pa_nil))) (fun _ _ => rfl)))))), ?_⟩
    rw [show L2.start sWordsN [.ref p] = [some (.ref p), none] from rfl]
    walk_at "rd"
    have fa : Fr F0 H H := Fr.refl _ _
    refine ⟨by decide, fun p1 h1 => ⟨by decide, fun p2 h2 => ⟨by decide, fun p3 h3 => ⟨tyL upd_same, by decide, fun p4 h4 => ?_⟩⟩⟩⟩
    have f1 := Fr.new (F := F0) (HO.lst (W1.map V.str)) h1
    have f2 := Fr.new (F := F0) (H := upd H p1 (HO.lst (W1.map V.str))) (HO.lst (W2.map V.str)) h2
    have f3 := Fr.new (F := F0) (H := upd (upd H p1 (HO.lst (W1.map V.str))) p2 (HO.lst (W2.map V.str))) (HO.lst [.ref p1, .ref p2]) h3
    have f4 := Fr.new (F := F0) (H := upd (upd (upd H p1 (HO.lst (W1.map V.str))) p2 (HO.lst (W2.map V.str))) p3 (HO.lst [.ref p1, .ref p2])) (HO.lst (W3.map V.str)) h4
    have e1 := f4.keep p1 _ (f3.keep _ _ (f2.keep _ _ upd_same id) id) id
    have e2 := f4.keep p2 _ (f3.keep _ _ upd_same id) id
    have e3 := f4.keep p3 _ upd_same id
    have e4 : upd (upd (upd (upd H p1 (HO.lst (W1.map V.str))) p2 (HO.lst (W2.map V.str))) p3 (HO.lst [.ref p1, .ref p2])) p4 (HO.lst (W3.map V.str)) p4 = _ := upd_same
    have f04 := ((f1.trans f2).trans f3).trans f4
    have d3 := (f1.trans f2).dom _ h3
    have n31 : p1 ≠ p3 := ne_of_none (f2.keep p1 _ upd_same id) h3
    have n32 : p2 ≠ p3 := ne_of_none (upd_same (H := upd H p1 (HO.lst (W1.map V.str))) (a := p2)) h3
    have n34 : p4 ≠ p3 := fun z => by rw [z] at h4; rw [upd_same] at h4; cases h4
    have hp4 := hp.up f04 id
    have np : ∀ c, H c = none → c ≠ p := fun c h z => by obtain ⟨_, _, _, e, _⟩ := hp; rw [z, e] at h; cases h
    refine ⟨_, e3, by show (2 : Nat) < _; decide, ?_⟩
    have g5 : Fr (· = p3) (upd (upd (upd (upd H p1 (HO.lst (W1.map V.str))) p2 (HO.lst (W2.map V.str))) p3 (HO.lst [.ref p1, .ref p2])) p4 (HO.lst (W3.map V.str))) (upd (upd (upd (upd (upd H p1 (HO.lst (W1.map V.str))) p2 (HO.lst (W2.map V.str))) p3 (HO.lst [.ref p1, .ref p2])) p4 (HO.lst (W3.map V.str))) p3 (.lst [.ref p1, .ref p2, .ref p4])) := Fr.setL _ e3 rfl
    have e15 := g5.keep _ _ e1 n31
    have e25 := g5.keep _ _ e2 n32
    have e45 := g5.keep _ _ e4 n34
    have e35 : upd (upd (upd (upd (upd H p1 (HO.lst (W1.map V.str))) p2 (HO.lst (W2.map V.str))) p3 (HO.lst [.ref p1, .ref p2])) p4 (HO.lst (W3.map V.str))) p3 (.lst [.ref p1, .ref p2, .ref p4]) p3 = _ := upd_same
    have F5 : Fr F0 H _ := f04.after g5 fun c z => by rw [z]; exact d3
    have hp5 := hp.up F5 id
    refine ⟨p, 3, rfl, hp5, by decide, by decide, fun r H6 hr6 hp6 f6 => ?_⟩
    walk_at "rd"
    have n1 := np _ h1
    have n2 := np _ (f1.dom _ h2)
    have n3 := np _ d3
    have n4 := np _ (((f1.trans f2).trans f3).dom _ h4)
    have F6 : Fr (· = p) H H6 := F5.any.trans f6
    have e36 := f6.keep _ _ e35 n3
    rcases (show r = 0 ∨ r = 1 ∨ r = 2 by omega) with rfl | rfl | rfl
    · exact ⟨_, sqL e36, _, atI_nat (j := 0) rfl, kk _ _ _ (f6.keep _ _ e15 n1) w1_ok hp6 F6 n1⟩
    · exact ⟨_, sqL e36, _, atI_nat (j := 1) rfl, kk _ _ _ (f6.keep _ _ e25 n2) w2_ok hp6 F6 n2⟩
    · exact ⟨_, sqL e36, _, atI_nat (j := 2) rfl, kk _ _ _ (f6.keep _ _ e45 n4) w3_ok hp6 F6 n4⟩
end
end K53
end
section
set_option Elab.async false
set_option linter.all false
set_option maxRecDepth 100000
set_option maxHeartbeats 4000000
set_option pp.maxSteps 2500
namespace K53
open PySem PySem.Spec PyProof.Rows L2
local macro_rules | `(tactic| walk_at "rd") => `(tactic| (
  try dsimp only [tSeq, tIfS, tOr, tAnd, tNot, tNotV, tAndV, tOrV, tB, tCB, tCons, tNil, tVar, tC, tTest, tChain, tRet, tRetN, tNext, tOp, rI0, rI, tAsg, gName, tDrop, tIf, tTup, tLst, tFld, tUn, rU, tCall, tMeth, tMake, tProp, iStr, iTup, iList, iRng1, iRng2, iEnumT,
    tPar, tPar3, gTup, gCons, gNil, gSub, gUnl, rSetL, rIxL, rIxT, rAppend, rExtend, tBM, tBM0, sFld, sFldAug, tSl, tPart, tNoPart, rSlL, rSlA, rSlT, tAug, ipI, t2I, rEq, rNe, scal, List.append_nil, List.cons_append, List.nil_append, List.getElem?_cons_zero, List.getElem?_cons_succ, List.set_cons_zero, List.set_cons_succ,
    List.map_cons, List.map_nil]
  try simp only [Option.some.injEq, exists_eq_left', exists_eq_left, exists_eq_right, exists_eq', V.int.injEq, V.str.injEq, V.bl.injEq, V.ref.injEq, List.cons.injEq, and_true, true_and, and_assoc, exists_and_left, exists_const, Bool.not_true, Bool.not_false, Bool.false_eq_true, if_true, if_false, ite_true, ite_false, decide_true, decide_false, reduceCtorEq, false_and, false_or, or_false, List.cons_ne_nil, exists_false, List.length_cons, List.length_nil, Nat.reduceAdd, Nat.zero_add, Int.cast_ofNat_Int, Int.reduceEq, Int.reduceLT, Int.reduceLE, Int.reduceAdd, Int.reduceSub, at0, at1, at2, eq_self, List.reverse_cons, List.reverse_nil]))

/-! ### data of any depth: what may be compared -/
mutual
def okK : NestedKey → Bool
  | .none => true
  | .num _ => true
  | .text x => PyData.strOk x
  | .tup ks => okKs ks
def okKs : List NestedKey → Bool
  | [] => true
  | k :: ks => okK k && okKs ks
end
mutual
theorem okK_lay : ∀ k : NestedKey, PyData.canLay0 k.data = okK k
  | .none => rfl
  | .num _ => rfl
  | .text _ => rfl
  | .tup ks => by simp only [NestedKey.data, PyData.canLay0, okK]; exact okKs_lay ks
theorem okKs_lay : ∀ ks : List NestedKey, PyData.canLayAll0 (NestedKey.datas ks) = okKs ks
  | [] => rfl
  | k :: ks => by simp only [NestedKey.datas, PyData.canLayAll0, okKs]; rw [okK_lay k, okKs_lay ks]
end
mutual
theorem depth_data : ∀ k : NestedKey, PyData.depth k.data = k.depth
  | .none => by simp [NestedKey.data, PyData.depth, NestedKey.depth]
  | .num _ => by simp [NestedKey.data, PyData.depth, NestedKey.depth]
  | .text _ => by simp [NestedKey.data, PyData.depth, NestedKey.depth]
  | .tup ks => by simp only [NestedKey.data, PyData.depth, NestedKey.depth]; rw [depth_datas ks]
theorem depth_datas : ∀ ks : List NestedKey, PyData.depthAll (NestedKey.datas ks) = NestedKey.depthAll ks
  | [] => by simp [NestedKey.datas, PyData.depthAll, NestedKey.depthAll]
  | k :: ks => by simp only [NestedKey.datas, PyData.depthAll, NestedKey.depthAll]; rw [depth_data k, depth_datas ks]
end
theorem okKs_all {ks : List NestedKey} : okKs ks = true ↔ ∀ k ∈ ks, okK k = true := by
  induction ks with
  | nil => simp [okKs]
  | cons k ks ih => simp [okKs, ih]
theorem depthAll_le {ks : List NestedKey} {n : Nat} (h : ∀ k ∈ ks, k.depth ≤ n) : NestedKey.depthAll ks ≤ n := by
  induction ks with
  | nil => simp [NestedKey.depthAll]
  | cons k ks ih =>
    have h1 := h k List.mem_cons_self
    have h2 := ih fun k hk => h k (List.mem_cons_of_mem _ hk)
    simp only [NestedKey.depthAll]
    omega
/-- a key that may be compared: shallow, its texts of signs -/
def Fine (k : NestedKey) : Prop := okK k = true ∧ k.depth ≤ 50
theorem Fine.tup {ks : List NestedKey} {n : Nat} (h : ∀ k ∈ ks, okK k = true ∧ k.depth ≤ n) (hn : n < 50) : Fine (.tup ks) := by
  refine ⟨?_, ?_⟩
  · show okKs ks = true
    exact okKs_all.mpr fun k hk => (h k hk).1
  · have := depthAll_le fun k hk => (h k hk).2
    simp only [NestedKey.depth]
    omega
theorem Fine.shaped {k : NestedKey} (h : Fine k) : SeqAt.shaped k.data = true := by
  show (PyData.canLay0 k.data && decide (k.data.depth ≤ 64)) = true
  rw [okK_lay, depth_data, h.1, Bool.true_and]
  exact decide_eq_true (by have := h.2; omega)
theorem fines_shaped {ks : List NestedKey} (h : ∀ k ∈ ks, Fine k) : SeqAt.shaped (.list (NestedKey.datas ks)) = true := by
  have h1 := depthAll_le fun k hk => (h k hk).2
  show (PyData.canLay0 (.list (NestedKey.datas ks)) && decide (PyData.depth (.list (NestedKey.datas ks)) ≤ 64)) = true
  rw [Bool.and_eq_true]
  refine ⟨?_, decide_eq_true ?_⟩
  · simp only [PyData.canLay0]
    rw [okKs_lay]
    exact okKs_all.mpr fun k hk => (h k hk).1
  · simp only [PyData.depth]
    rw [depth_datas]
    omega
theorem any_eqv (k : NestedKey) (ks : List NestedKey) : ((NestedKey.datas ks).any fun z => PyData.eqv z k.data) = decide (k ∈ ks) := by
  induction ks with
  | nil => rfl
  | cons x ks ih =>
    rw [NestedKey.datas, List.any_cons, ih, eqv_iff]
    by_cases e : x = k
    · subst e; simp
    · have : ¬ k = x := fun z => e z.symm
      simp [e, this]
theorem datas_get {ks : List NestedKey} {j : Nat} : (NestedKey.datas ks)[j]? = (ks[j]?).map NestedKey.data := by
  rw [datas_map, List.getElem?_map]
section
variable {K : PySem.W.Frag} {H : Hp} {x : V} {k : NestedKey} {a : Addr} {vs : List V} {ks : List NestedKey} {Q : VK}
theorem in_K (tx : TN H x k) (ha : H a = some (.lst vs)) (tv : TNs H vs ks) (h1 : Fine k) (h2 : ∀ k ∈ ks, Fine k) (q : Q (.bl (decide (k ∈ ks))) H) : rInD K x (.ref a) H Q :=
  ⟨_, _, TN.dp k x tx, .lst (sqL ha) (TNs.dp ks vs tv), h1.shaped, fines_shaped h2, by rw [any_eqv]; exact q⟩
theorem notin_K (tx : TN H x k) (ha : H a = some (.lst vs)) (tv : TNs H vs ks) (h1 : Fine k) (h2 : ∀ k ∈ ks, Fine k) (q : Q (.bl (!decide (k ∈ ks))) H) : rNotInD K x (.ref a) H Q :=
  ⟨_, _, TN.dp k x tx, .lst (sqL ha) (TNs.dp ks vs tv), h1.shaped, fines_shaped h2, by rw [any_eqv]; exact q⟩
theorem first_at {α : Type} [DecidableEq α] {x : α} : ∀ {l : List α}, x ∈ l → ∃ j : Nat, l[j]? = some x ∧ ∀ (m : Nat) z, m < j → l[m]? = some z → z ≠ x
  | [], h => absurd h (by simp)
  | y :: l, h => by
    by_cases e : y = x
    · subst e; exact ⟨0, rfl, fun m z hm => by omega⟩
    · have hm : x ∈ l := by rcases List.mem_cons.mp h with h | h; exact absurd h.symm e; exact h
      obtain ⟨j, h1, h2⟩ := first_at hm
      refine ⟨j + 1, h1, fun m z hm hz => ?_⟩
      cases m with
      | zero => cases hz; exact e
      | succ m => exact h2 m z (by omega) hz
theorem index_K (ha : H a = some (.lst vs)) (tx : TN H x k) (tv : TNs H vs ks) (h1 : Fine k) (h2 : ∀ k ∈ ks, Fine k) (hm : k ∈ ks) (q : ∀ j : Nat, ks[j]? = some k → Q (.int (j : Int)) H) : rIndexD K (.ref a) [x] H Q := by
  obtain ⟨j, h3, h4⟩ := first_at hm
  refine ⟨a, x, k.data, NestedKey.datas ks, j, k.data, rfl, rfl, .lst (sqL ha) (TNs.dp ks vs tv), TN.dp k x tx, fines_shaped h2, h1.shaped, by rw [datas_get, h3]; rfl, by rw [eqv_iff]; simp, fun m z' hm hz => ?_, q j h3⟩
  rw [datas_get] at hz
  obtain ⟨y, hy, rfl⟩ := Option.map_eq_some_iff.mp hz
  rw [eqv_iff]
  exact decide_eq_false (h4 m y hm hy)
theorem ne_K {y : V} {k' : NestedKey} (tx : TN H x k) (ty : TN H y k') (h1 : Fine k) (h2 : Fine k') (q : Q (.bl (!decide (k = k'))) H) : rNeD K x y H Q :=
  ⟨_, _, TN.dp k x tx, TN.dp k' y ty, h1.shaped, h2.shaped, by rw [eqv_iff]; exact q⟩
theorem eqL_K {b : Addr} {us : List V} {ls : List NestedKey} (ha : H a = some (.lst vs)) (tv : TNs H vs ks) (hb : H b = some (.lst us)) (tu : TNs H us ls) (h1 : ∀ k ∈ ks, Fine k) (h2 : ∀ k ∈ ls, Fine k) (q : Q (.bl (decide (ks = ls))) H) : rEqD K (.ref a) (.ref b) H Q := by
  refine ⟨_, _, .lst (sqL ha) (TNs.dp ks vs tv), .lst (sqL hb) (TNs.dp ls us tu), fines_shaped h1, fines_shaped h2, ?_⟩
  have : PyData.eqv (.list (NestedKey.datas ks)) (.list (NestedKey.datas ls)) = decide (ks = ls) := by
    have h := eqv_iff (.tup ks) (.tup ls)
    simp only [NestedKey.data, PyData.eqv, NestedKey.tup.injEq] at h ⊢
    exact h
  rw [this]; exact q
end
/-- the names' texts are of signs -/
theorem nameOk.str {x : Nm} (h : nameOk x) : PyData.strOk x = true := by
  unfold PyData.strOk
  rw [← Array.all_toList, List.all_eq_true]
  intro c hc
  have h1 := h.2.2 c hc
  have h2 : ∀ c ∈ letters.cps.toList, c < 0x110000 := by decide +kernel
  exact decide_eq_true (h2 c h1)
end K53
end
section
set_option Elab.async false
set_option linter.all false
set_option maxRecDepth 100000
set_option maxHeartbeats 4000000
set_option pp.maxSteps 2500
namespace K53
open PySem PySem.Spec PyProof.Rows L2
local macro_rules | `(tactic| walk_at "rd") => `(tactic| (
  try dsimp only [tSeq, tIfS, tOr, tAnd, tNot, tNotV, tAndV, tOrV, tB, tCB, tCons, tNil, tVar, tC, tTest, tChain, tRet, tRetN, tNext, tOp, rI0, rI, tAsg, gName, tDrop, tIf, tTup, tLst, tFld, tUn, rU, tCall, tMeth, tMake, tProp, iStr, iTup, iList, iRng1, iRng2, iEnumT,
    tPar, tPar3, gTup, gCons, gNil, gSub, gUnl, rSetL, rIxL, rIxT, rAppend, rExtend, tBM, tBM0, sFld, sFldAug, tSl, tPart, tNoPart, rSlL, rSlA, rSlT, tAug, ipI, t2I, rEq, rNe, scal, List.append_nil, List.cons_append, List.nil_append, List.getElem?_cons_zero, List.getElem?_cons_succ, List.set_cons_zero, List.set_cons_succ,
    List.map_cons, List.map_nil]
  try simp only [Option.some.injEq, exists_eq_left', exists_eq_left, exists_eq_right, exists_eq', V.int.injEq, V.str.injEq, V.bl.injEq, V.ref.injEq, List.cons.injEq, and_true, true_and, and_assoc, exists_and_left, exists_const, Bool.not_true, Bool.not_false, Bool.false_eq_true, if_true, if_false, ite_true, ite_false, decide_true, decide_false, reduceCtorEq, false_and, false_or, or_false, List.cons_ne_nil, exists_false, List.length_cons, List.length_nil, Nat.reduceAdd, Nat.zero_add, Int.cast_ofNat_Int, Int.reduceEq, Int.reduceLT, Int.reduceLE, Int.reduceAdd, Int.reduceSub, at0, at1, at2, eq_self, List.reverse_cons, List.reverse_nil]))

local macro_rules | `(tactic| walk_at "fd") => `(tactic| (
  repeat (first
    | (apply And.intro
       · first
         | assumption
         | exact sqT (by assumption)
         | exact sqL (by assumption)
         | exact .inl (sqL (by assumption))
         | exact .inr (sqT (by assumption))
         | exact atI_nat (by assumption)
         | exact at0
         | exact at1
         | exact at2
         | exact bxF_rows _ _ _ _
         | exact bxF_stages _ _ _ _
         | exact bxF_pols _ _ _ _
         | exact bxF_mode _ _ _ _
         | exact bxF_told _ _ _ _
         | exact bxF_holds _ _ _ _
         | exact bxF_touch _ _ _ _
         | exact bxF_fill _ _ _ _
         | exact bxF_ask _ _ _ _
         | exact bxF_go_down _ _ _ _
         | exact bxF_moment _ _ _ _
         | exact BK.c (by assumption)
         | exact BK.rows (by assumption)
         | exact BK.stages (by assumption)
         | exact BK.policies (by assumption)
         | exact BK.mode (by assumption)
         | rfl)
    | with_reducible apply Exists.intro)))

theorem k_bm {X : Cx} {K : PySem.W.Frag} {o e : Expr} {es : List Expr} {to : TE} {t : TA} {name : Str} {apos cpos : Pos} {T id : String} {r : V → List V → Hp → VK → Prop} (h : X.K = K) (pa : PlainAttrs T) (slot : Slot T name id) (hty : typeOf (.builtin id) = pure (.type "method_descriptor")) (hm : MtR X id r) (ho : PE X o to) (ha : PA X (e :: es) t)
    (hbase : attributeBase o name X.env (eval o X.env) = eval o X.env := by rfl)
    (hfew : ((backTo cpos (starEach (e :: es) X.env)).all (fun x => !x.1) && (backToKw cpos (keywordEach [] X.env)).all (fun x => x.1.isSome)
      && decide ((e :: es).length + ([] : List Keyword).length + (if ([] : List Keyword).isEmpty then 0 else 1) < 30)) = true := by rfl)
    (hline : (apos.endLine == cpos.line) = true := by rfl) (hs : starEach (e :: es) X.env = (false, eval e X.env) :: starEach es X.env := by rfl) (hplain : (backTo cpos (starEach es X.env)).any (·.1) = false := by rfl) :
    PE X (.Call (.Attribute o name apos) (e :: es) [] cpos) (tBM K T r to t) := by subst h; exact pe_bm pa slot hty hm ho ha hbase hfew hline hs hplain
theorem _root_.L2.Room.u65 {k : Nat} {A : Around} (r : Room (k + 1) A) : A.units + 65 < cLine := by
  have h : A.units + 1 + 64 < cLine := r.in1.units
  omega
section
variable {P : Program} {w : World} {K : PySem.W.Frag} {mg : Str → Option Value} {base : Heap} {B C : Addr}
/-! ### a comprehension of one name with a test -/
def LcQT (F : Addr → Prop) (C : Addr → Nat → List V → Hp → Prop) (H1 : Hp) (D : Addr) (i : Nat) : VK := fun y H4 => ∃ acc, H4 D = some (.lst acc) ∧ acc.length < sizeLine ∧
  ∃ acc', (upd H4 D (.lst (acc ++ [y]))) D = some (.lst acc') ∧ Fr F H1 (upd H4 D (.lst (acc ++ [y]))) ∧ C D (i + 1) acc' (upd H4 D (.lst (acc ++ [y])))
theorem LcQT.mk {F : Addr → Prop} {C : Addr → Nat → List V → Hp → Prop} {H1 H4 : Hp} {D : Addr} {i : Nat} {acc : List V} {y : V} (hD : H1 D = Option.none) (e : H4 D = some (.lst acc)) (hi : acc.length < sizeLine) (f : Fr F H1 H4)
    (c : C D (i + 1) (acc ++ [y]) (upd H4 D (.lst (acc ++ [y])))) : LcQT F C H1 D i y H4 := ⟨acc, e, hi, _, upd_same, fr_fresh _ f hD e, c⟩
def LcAllT (J : It) (i0 : Nat) (tt : TT) (te : TE) (σ : L2.St) (Q : VK) (H1 : Hp) : Prop :=
    ∀ D, H1 D = none → ∃ W : Nat → Nat → Hp → Prop, (∃ m, W 0 m (upd H1 D (.lst []))) ∧ ∀ i m H, W i m H →
      (J.stop i H ∧ Q (.ref D) H) ∨ (J.go i H ∧ ∃ Nx : Hp → Prop, (∀ H', Nx H' → ∃ m', m' < m ∧ W (i + 1) m' H') ∧ ∀ x H', J.yld i H x H' → gName i0 x (wipe σ [i0]) H' fun σ2 H2 => wipe σ2 [i0] = wipe σ [i0] ∧ tt σ2 H2 fun b H3 =>
        if b = true then te σ2 H3 fun y H4 => ∃ acc, H4 D = some (.lst acc) ∧ acc.length < sizeLine ∧ Nx (upd H4 D (.lst (acc ++ [y]))) else Nx H3)
theorem tlcT {wi : TI} {i0 : Nat} {tt : TT} {te : TE} {vs : List Nat} {σ : L2.St} {H : Hp} {Q : VK} (hvs : vs = [i0]) (h : wi σ H fun J H1 => LcAllT J i0 tt te σ Q H1) : tLc wi (gName i0) tt te vs σ H Q := by
  subst hvs
  exact h
theorem lc_ft {J : It} {n : Nat} {G : Hp → Prop} {Y : Nat → Hp → V → Hp → Prop} (w : Walk J n G Y) {i0 : Nat} {tt : TT} {te : TE} {σ : L2.St} {H1 : Hp} {Q : VK} (F : Addr → Prop) (C : Addr → Nat → List V → Hp → Prop)
    (hG : ∀ D i acc H, Fr F H1 H → C D i acc H → G H) (h0 : ∀ D, H1 D = none → C D 0 [] (upd H1 D (.lst [])))
    (hs : ∀ D i x H H' acc, H1 D = none → i < n → Fr F H1 H → C D i acc H → H D = some (.lst acc) → Y i H x H' → tt (σ.set i0 (some x)) H' fun b H3 => if b = true then te (σ.set i0 (some x)) H3 (LcQT F C H1 D i) else ∃ acc, H3 D = some (.lst acc) ∧ Fr F H1 H3 ∧ C D (i + 1) acc H3)
    (hd : ∀ D acc H, H1 D = none → Fr F H1 H → C D n acc H → H D = some (.lst acc) → Q (.ref D) H) : LcAllT J i0 tt te σ Q H1 := by
  intro D hD
  refine lc_it w (fun i H => ∃ acc, H D = some (.lst acc) ∧ Fr F H1 H ∧ C D i acc H) ⟨[], upd_same, Fr.new _ hD, h0 D hD⟩ (fun i H _ ⟨acc, _, f, c⟩ => hG D i acc H f c) ?_ ?_
  · rintro i x H H' hi ⟨acc, e, f, c⟩ hy
    have e1 : (wipe σ [i0]).set i0 (some x) = σ.set i0 (some x) := by rw [wipe1, List.set_set]
    show wipe ((wipe σ [i0]).set i0 (some x)) [i0] = wipe σ [i0] ∧ _
    rw [e1]
    exact ⟨by rw [wipe1, wipe1, List.set_set], hs D i x H H' acc hD hi f c e hy⟩
  · rintro H ⟨acc, e, f, c⟩
    exact hd D acc H hD f c e
/-! ### the orders -/
def allO : Nat → List (List Nat)
  | 1 => [[0]]
  | 2 => [[0, 1], [1, 0]]
  | 3 => [[0, 1, 2], [0, 2, 1], [1, 0, 2], [1, 2, 0], [2, 0, 1], [2, 1, 0]]
  | _ => []
def mv (o : List Nat) (x : Nat) : List Nat := o.filter (fun s => decide (s ≠ x)) ++ [x]
theorem allO_ok {l : Nat} (h1 : 1 ≤ l) (h3 : l ≤ 3) : (allO l).length ≤ 6 ∧ List.range l ∈ allO l ∧ (∀ o ∈ allO l, o.length = l ∧ (∀ s ∈ o, s < l) ∧ (∀ x, x < l → mv o x ∈ allO l) ∧ ((List.range l).map (mv o)).Nodup) := by
  rcases (show l = 1 ∨ l = 2 ∨ l = 3 by omega) with rfl | rfl | rfl <;> decide
abbrev ordK (o : List Nat) : NestedKey := .tup (nums o)
theorem ordK_inj {a b : List Nat} (h : ordK a = ordK b) : a = b := nums_inj (NestedKey.tup.inj h)
theorem ordK_fine (o : List Nat) : Fine (ordK o) := by
  refine Fine.tup (n := 0) (fun k hk => ?_) (by decide)
  obtain ⟨s, _, rfl⟩ := List.mem_map.mp hk
  exact ⟨rfl, by simp [NestedKey.depth]⟩
theorem ordK_mem {g : List Nat} {os : List (List Nat)} : ordK g ∈ os.map ordK ↔ g ∈ os := by
  constructor
  · intro h
    obtain ⟨o, ho, e⟩ := List.mem_map.mp h
    rw [← ordK_inj e]; exact ho
  · exact fun h => List.mem_map.mpr ⟨g, h, rfl⟩
theorem few_orders {l : Nat} {os : List (List Nat)} (h1 : 1 ≤ l) (h3 : l ≤ 3) (nd : os.Nodup) (h : ∀ o ∈ os, o ∈ allO l) : os.length ≤ 6 := by
  have h6 := (allO_ok h1 h3).1
  have := nodup_bound (allO l).length (os.map fun o => (allO l).idxOf o) ?_ ?_
  · rw [List.length_map] at this; omega
  · refine List.pairwise_map.mpr (List.Pairwise.imp_of_mem ?_ nd)
    intro a b ha hb hne e
    have ga : (allO l)[(allO l).idxOf a]'(List.idxOf_lt_length_of_mem (h a ha)) = a := List.getElem_idxOf _
    have gb : (allO l)[(allO l).idxOf b]'(List.idxOf_lt_length_of_mem (h b hb)) = b := List.getElem_idxOf _
    refine hne ?_
    rw [← ga, ← gb]
    simp only [e]
  · intro x hx
    obtain ⟨o, ho, rfl⟩ := List.mem_map.mp hx
    exact List.idxOf_lt_length_of_mem (h o ho)
structure RowP (l n : Nat) (r : Nat × Nat × List Nat) : Prop where
  v : r.1 < l
  a : r.2.1 < n
  hl : r.2.2.length = l
  h : ∀ s ∈ r.2.2, s < n
structure RecInv (H : Hp) (ol rl : Addr) (l : Nat) (n : Nat) (σ : L2.St) (H' : Hp) : Prop where
  s : ∃ x4 x5 x6 x7 x8, σ = [some (.int (l : Int)), some (.ref ol), some (.ref rl), some (.int (n : Int)), x4, x5, x6, x7, x8]
  f : Fr F0 H H'
  t : ∃ (vs : List V) (os : List (List Nat)) (acc : List V) (rows : List (Nat × Nat × List Nat)), H' ol = some (.lst vs) ∧ TNs H' vs (os.map ordK) ∧ os.Nodup ∧ (∀ o ∈ os, o ∈ allO l) ∧ 1 ≤ os.length ∧ n ≤ os.length ∧
    H' rl = some (.lst acc) ∧ TNs H' acc (rows.map rowK) ∧ rows.length = n ∧ ∀ r ∈ rows, RowP l os.length r
abbrev sRecent : Stmt := (top 46)
abbrev sRecentN : List Str := ["_law_lines", "_law_orders", "_law_rows", "_law_at", "_law_here", "_law_goals", "_law_line", "_law_goal", "_law_spot"]
theorem sRecentS : FnScope sRecentN ["_law_lines"] (defScope sRecent) := ⟨rfl, rfl, rfl, by decide +kernel, rfl, by decide +kernel, by decide +kernel⟩
def spRecent : Sp := fun vs H Q _ => ∃ (l : Nat), vs = [.int (l : Int)] ∧ 1 ≤ l ∧ l ≤ 3 ∧ ∀ (v : V) (o : Pol) H', TN H' v (polK o) → PolOk o → Fr F0 H H' → Q v H'
theorem ok_recent {f : Addr} {fd : FuncData} (F : Fun K "_law_recent" "_law_recent" sRecent f fd) (Bb : Bi mg) : FnOk P w K mg base CX0 2 f fd ["_law_lines"] spRecent := by
  refine F.ok sRecentS (fun vs H Q E h => ?_) (fun cdv A outer s H vs Q E hr h => ?_)
  · obtain ⟨l, rfl, _⟩ := h
    rfl
  · obtain ⟨l, rfl, hl1, hl3, kk⟩ := h
    have UU := hr.u65
    refine ⟨_, (pss_cons (ps_asg (pe_tup (pa_cons (pe_lst (pa_cons (pe_tupRg rfl (by rfl) Bb.tuple (prg_1 (by rfl) Bb.range (pv 0))) pa_nil)) (pa_cons (pe_lst pa_nil) (pa_cons pe_int pa_nil)))) (pg_tup rfl (pgs_cons (pg_name (i := 1) sRecentS.nd rfl (Or.inr rfl)) (pgs_cons (pg_name (i := 2) sRecentS.nd rfl (Or.inl rfl)) (pgs_cons (pg_name (i := 3) sRecentS.nd rfl (Or.inl rfl)) pgs_nil)))))
      (pss_cons (ps_while PassesOwn.never (pt_cmpR op_lt (pv 3) (pe_callB (id := "len") call_len_seq (by rfl) Bb.len (by decide +kernel) (pa_cons (pv 1) pa_nil)) (nomark _)) (pss_cons (ps_set (i := 4) sRecentS.nd rfl (Or.inr rfl) (pe_ix ix_list (pv 1) (pv 3) (fun _ _ => rfl)))
      (pss_cons (ps_setLc (i := 5) (own := [("_law_line", 6)]) (g := gName 6) (tt := tYes) rfl sRecentS.nd rfl rfl (sw_true rfl rfl rfl (by decide +kernel)) (pi_range1 (by rfl) Bb.range (pa_cons (pv 0) pa_nil)) (blkOk_by (N := sRecentN) (sc := (defScope sRecent)) (by decide +kernel)) (fun _ _ _ _ _ => pg_name (i := 6) sRecentS.nd rfl (Or.inr rfl)) (fun _ _ _ _ _ => pts_nil) (fun _ _ _ _ _ => (pe_op (k_catA (K := K) rfl) (pe_callTy (T := "tuple") (k_tuple (K := K) rfl) (by rfl) Bb.tuple (by decide +kernel) (pa_cons (pe_lc (own := [("_law_spot", 8)]) (g := gName 8) rfl sRecentS.nd (k_pit (K := K) rfl (pv 4)) (blkOk_by (N := sRecentN) (sc := ({ kind := .function, names := [(Str.ofString ".0", .local), (Str.ofString "_law_line", .cell), (Str.ofString "tuple", .globalImplicit), (Str.ofString "_law_here", .cell)], isGenerator := false, isCoroutine := false } : Scope)) (by decide +kernel)) (fun _ _ _ _ _ => pg_name (i := 8) sRecentS.nd rfl (Or.inl rfl)) (fun _ _ _ _ _ => (pts_one (pt_cmpR op_ne (pv 8) (pv 6) (nomark _)))) (fun _ _ _ _ _ => (pv 8))) pa_nil)) (pe_tup (pa_cons (pv 6) pa_nil)))))
      (pss_cons (ps_expr (pe_bm PySem.F.plainAttrs_list PySem.F.slot_list_extend PySem.F.type_list_extend mt_extend (pv 1) (pa_cons (pe_lc (own := [("_law_goal", 7)]) (g := gName 7) rfl sRecentS.nd (pi_list (pv 5)) (blkOk_by (N := sRecentN) (sc := (defScope sRecent)) (by decide +kernel)) (fun _ _ _ _ _ => pg_name (i := 7) sRecentS.nd rfl (Or.inl rfl)) (fun _ _ _ _ _ => (pts_one (pt_cmpR (k_notinD (K := K) rfl UU) (pv 7) (pv 1) rfl))) (fun _ _ _ _ _ => (pv 7))) pa_nil)))
      (pss_cons (ps_expr (pe_bm PySem.F.plainAttrs_list PySem.F.slot_list_append PySem.F.type_list_append mt_append (pv 2) (pa_cons (pe_tup (pa_cons (pe_ix ix_tup (pv 4) pe_int (fun _ _ => rfl)) (pa_cons (pe_bm PySem.F.plainAttrs_list PySem.F.slot_list_index PySem.F.type_list_index (mt_indexD UU) (pv 1) (pa_cons (pe_ix ix_list (pv 5) (pe_ix ix_tup (pv 4) pe_int (fun _ _ => rfl)) (fun _ _ => rfl)) pa_nil)) (pa_cons (pe_callTy (T := "tuple") call_tuple_of (by rfl) Bb.tuple (by decide +kernel) (pa_cons (pe_lc (own := [("_law_goal", 7)]) (g := gName 7) (tt := tYes) rfl sRecentS.nd (pi_list (pv 5)) (blkOk_by (N := sRecentN) (sc := (defScope sRecent)) (by decide +kernel)) (fun _ _ _ _ _ => pg_name (i := 7) sRecentS.nd rfl (Or.inl rfl)) (fun _ _ _ _ _ => pts_nil) (fun _ _ _ _ _ => (k_bm (K := K) rfl PySem.F.plainAttrs_list PySem.F.slot_list_index PySem.F.type_list_index (k_idxD (K := K) rfl UU) (pv 1) (pa_cons (pv 7) pa_nil)))) pa_nil)) pa_nil)))) pa_nil)))
      (pss_one (ps_set (i := 3) sRecentS.nd rfl (Or.inl rfl) (pe_op op_add (pv 3) pe_int))))))))
      (pss_one (ps_ret (pe_tup (pa_cons (pv 0) (pa_cons (pe_callTy (T := "tuple") call_tuple_of (by rfl) Bb.tuple (by decide +kernel) (pa_cons (pv 2) pa_nil)) pa_nil))))))), ?_⟩
    rw [show L2.start sRecentN [.int (l : Int)] = [some (.int (l : Int)), none, none, none, none, none, none, none, none] from rfl]
    walk_at "rd"
    obtain ⟨ho6, ho0, hoA⟩ := allO_ok hl1 hl3
    refine ⟨.int (l : Int), rfl, (l : Int), rfl, .of_le (by decide) (by omega) (by decide) (by omega), fun q hq => ⟨by decide, fun ol hol => ⟨by decide, fun rl hrl => ⟨by decide, fun T hT => ?_⟩⟩⟩⟩
    rw [show rgV 0 (l : Int) = numV (List.range l) by simp [rgV, numV]] at hol hrl hT ⊢
    refine ⟨_, sqT upd_same, rfl, _, _, rfl, _, _, rfl, _, _, rfl, rfl, ?_⟩
    have f1 := Fr.new (F := F0) (.tup (numV (List.range l))) hq
    have f2 := Fr.new (F := F0) (H := upd H q (.tup (numV (List.range l)))) (.lst [.ref q]) hol
    have f3 := Fr.new (F := F0) (H := upd (upd H q (.tup (numV (List.range l)))) ol (.lst [.ref q])) (.lst []) hrl
    have f4 := Fr.new (F := F0) (H := upd (upd (upd H q (.tup (numV (List.range l)))) ol (.lst [.ref q])) rl (.lst [])) (.tup [.ref ol, .ref rl, .int 0]) hT
    have e1 := f4.keep q _ (f3.keep _ _ (f2.keep _ _ upd_same id) id) id
    have e2 := f4.keep ol _ (f3.keep _ _ upd_same id) id
    have e3 := f4.keep rl _ upd_same id
    have f04 := ((f1.trans f2).trans f3).trans f4
    have hol0 := f1.dom _ hol
    have hrl0 := (f1.trans f2).dom _ hrl
    have nor : ol ≠ rl := fun z => by rw [← z, upd_same] at hrl; cases hrl
    generalize upd (upd (upd (upd H q (.tup (numV (List.range l)))) ol (.lst [.ref q])) rl (.lst [])) T (.tup [.ref ol, .ref rl, .int 0]) = H4 at e1 e2 e3 f04 ⊢
    refine ⟨fun m σ H' => ∃ n, m = 7 - n ∧ RecInv H ol rl l n σ H', ⟨_, 0, rfl, ⟨none, none, none, none, none, rfl⟩, f04, ⟨_, [List.range l], [], [], e2, .cons (.tup e1 (numV_tn _ _)) .nil, by simp, fun o ho => by rw [List.mem_singleton.mp ho]; exact ho0, by simp, by simp, e3, .nil, rfl, fun r hr => absurd hr (by simp)⟩⟩, ?_⟩
    rintro _ σ H5 ⟨n, rfl, ⟨x4, x5, x6, x7, x8, rfl⟩, f5, ⟨vs, os, acc, rows, ev, tv, nd, hos, hos1, hn, er, tr, hrl', hrows⟩⟩
    have hos6 := few_orders hl1 hl3 nd hos
    have hvl : vs.length = os.length := by rw [tv.length, List.length_map]
    walk_at "rd"
    refine ⟨_, .inl (sqL ev), ?_⟩
    by_cases hlt : n < os.length
    · rw [decide_eq_true (show (n : Int) < (vs.length : Int) by rw [hvl]; omega), if_pos rfl]
      obtain ⟨o, ho⟩ : ∃ o, os[n]? = some o := ⟨_, List.getElem?_eq_getElem hlt⟩
      obtain ⟨vh, hvh, tvh⟩ := tv.get (mapGet' ordK ho)
      obtain ⟨ah, _, rfl, eh, th⟩ := tvh.tup_inv
      obtain rfl := nums_inv th
      obtain ⟨hol1, hol2, hol3, hol4⟩ := hoA o (hos o (List.mem_of_getElem? ho))
      refine ⟨fun σ' H' => RecInv H ol rl l (n + 1) σ' H', fun σ' H' h => ⟨_, by omega, n + 1, rfl, h⟩, _, sqL ev, _, atI_nat hvh, ?_⟩
      refine tlc rfl ?_
      walk_at "rd"
      refine ⟨by omega, by omega, ?_⟩
      refine lc_fr (walk_range (lo := 0) (n := (l : Int).toNat)) F0 (fun D i acc H' => TNs H' acc (((List.range i).map (mv o)).map ordK)) (fun _ _ _ _ _ _ => trivial) (fun _ _ => .nil) ?_ ?_
      · rintro D i y H6 H7 acc' hD hi el fr t2 e ⟨rfl, rfl⟩
        have hi' : i < l := by omega
        rw [show (fun i : Nat => V.int (0 + (i : Int))) = fun i : Nat => V.int (i : Int) from funext fun i => by rw [Int.zero_add]]
        walk_at "rd"
        have eh7 := fr.tk _ _ eh
        have fin : ∀ (q : Addr) (H9 : Hp), Fr F0 H7 H9 → H9 q = some (.tup (numV (mv o i))) → LcQ F0 (fun D i acc H' => TNs H' acc (((List.range i).map (mv o)).map ordK)) H5 D i (.ref q) H9 := by
          intro q H9 f9 eq
          have e9 := f9.keep _ _ e id
          refine LcQ.mk hD e9 el (Nat.lt_of_lt_of_le (show i < 4 by omega) (by decide)) (fr.trans f9) ?_
          rw [List.range_succ, List.map_append, List.map_append]
          exact ((t2.up f9.tk).up (tk_setL _ e9)).append (.cons (.tup (tk_setL _ e9 _ _ eq) (numV_tn _ _)) .nil)
        refine tlcT rfl ?_
        walk_at "rd"
        refine ⟨⟨_, sqT eh7⟩, ?_⟩
        refine lc_ft (walk_tup (K := K) (a := ah) (xs := numV o)) F0 (fun D j acc H' => acc = numV ((o.take j).filter fun s => decide (s ≠ i))) (fun _ _ _ _ fr _ => fr.seqT eh7) (fun _ _ => rfl) ?_ ?_
        · rintro D2 j y H8 H9 acc2 hD2 hj fr2 rfl e2 ⟨rfl, hy⟩
          obtain ⟨s0, hs0, rfl⟩ := mapGet hy
          have ht : (o.take (j + 1)).filter (fun s => decide (s ≠ i)) = (o.take j).filter (fun s => decide (s ≠ i)) ++ [s0].filter (fun s => decide (s ≠ i)) := by
            rw [List.take_succ, hs0, List.filter_append]; rfl
          walk_at "rd"
          by_cases hsi : s0 = i
          · rw [decide_eq_true (show (s0 : Int) = (i : Int) by omega)]
            walk_at "rd"
            refine ⟨_, e2, fr2, ?_⟩
            rw [ht, show [s0].filter (fun s => decide (s ≠ i)) = [] by simp [hsi], List.append_nil]
          · rw [decide_eq_false (show ¬ (s0 : Int) = (i : Int) by omega)]
            walk_at "rd"
            refine LcQT.mk hD2 e2 ?_ fr2 ?_
            · have h1 : (numV ((o.take j).filter fun s => decide (s ≠ i))).length ≤ o.length := by
                rw [List.length_map]
                exact Nat.le_trans (List.length_filter_le _ _) (by rw [List.length_take]; omega)
              exact Nat.lt_of_le_of_lt h1 (Nat.lt_of_lt_of_le (show o.length < 4 by omega) (by decide))
            · rw [ht, show [s0].filter (fun s => decide (s ≠ i)) = [s0] by simp [hsi]]
              simp [numV]
        · rintro D2 acc2 H8 hD2 fr2 rfl e2
          rw [List.length_map, List.take_length] at e2
          refine ⟨D2, rfl, _, .inl ⟨sqL e2, fun l1 hl1' => ⟨by decide, fun p1 hp1 => ?_⟩⟩⟩
          have g1 : Fr F0 H8 (upd H8 l1 (.tup (numV (o.filter fun s => decide (s ≠ i))))) := Fr.new _ hl1'
          have g2 : Fr F0 _ (upd (upd H8 l1 (.tup (numV (o.filter fun s => decide (s ≠ i))))) p1 (.tup [.int (i : Int)])) := Fr.new _ hp1
          have el1 := g2.keep _ _ (upd_same (H := H8) (a := l1) (o := .tup (numV (o.filter fun s => decide (s ≠ i))))) id
          refine ⟨l1, p1, _, _, rfl, rfl, sqT el1, sqT upd_same, ?_, fun hx => ?_, fun _ hy => ?_, fun _ _ q hq => ?_⟩
          · have : (numV (o.filter fun s => decide (s ≠ i))).length ≤ o.length := by rw [List.length_map]; exact List.length_filter_le _ _
            exact Nat.le_trans (show _ ≤ 4 by simp only [List.length_cons, List.length_nil] at *; omega) (by decide)
          · refine fin p1 _ ((fr2.trans g1).trans g2) ?_
            rw [upd_same]
            unfold mv
            rw [List.map_eq_nil_iff.mp hx]
            rfl
          · cases hy
          · refine fin q _ (((fr2.trans g1).trans g2).trans (Fr.new _ hq)) ?_
            rw [upd_same]
            unfold mv
            simp [numV]
      · rintro D acc' H6 hD el fr t2 e
        rw [Int.toNat_natCast] at t2
        have ev6 := fr.keep _ _ ev id
        have er6 := fr.keep _ _ er id
        have eh6 := fr.tk _ _ eh
        have tv6 := tv.up fr.tk
        have haccl : acc'.length = l := by rw [el, Int.toNat_natCast]
        refine ⟨tyL ev6, tlcT rfl ?_⟩
        walk_at "rd"
        refine ⟨⟨_, sqL e⟩, ?_⟩
        have osfine : ∀ k ∈ os.map ordK, Fine k := fun k hk => by obtain ⟨o', _, rfl⟩ := List.mem_map.mp hk; exact ordK_fine o'
        refine lc_ft (walk_list (K := K) (a := D) (xs := acc')) F0 (fun D2 j acc H' => TNs H' acc (((((List.range l).map (mv o)).take j).filter fun g => decide (g ∉ os)).map ordK)) (fun _ _ _ _ fr _ => sqL (fr.keep _ _ e id)) (fun _ _ => .nil) ?_ ?_
        · rintro D2 j y H7 H8 acc2 hD2 hj fr2 t3 e2 ⟨rfl, hy⟩
          obtain ⟨kk1, hk1, tk1⟩ := t2.getV hy
          obtain ⟨g, hg, rfl⟩ := mapGet hk1
          have ht : (((List.range l).map (mv o)).take (j + 1)).filter (fun g => decide (g ∉ os)) = (((List.range l).map (mv o)).take j).filter (fun g => decide (g ∉ os)) ++ [g].filter (fun g => decide (g ∉ os)) := by
            rw [List.take_succ, hg, List.filter_append]; rfl
          walk_at "rd"
          refine notin_K (tk1.up fr2.tk) (fr2.keep _ _ ev6 id) (tv6.up fr2.tk) (ordK_fine g) osfine ⟨_, rfl, ?_⟩
          by_cases hgo : g ∈ os
          · rw [decide_eq_true (ordK_mem.mpr hgo)]
            walk_at "rd"
            refine ⟨acc2, e2, fr2, ?_⟩
            rw [ht, show [g].filter (fun g => decide (g ∉ os)) = [] by simp [hgo], List.append_nil]
            exact t3
          · rw [decide_eq_false (fun z => hgo (ordK_mem.mp z))]
            walk_at "rd"
            refine LcQT.mk hD2 e2 ?_ fr2 ?_
            · rw [t3.length, List.length_map]
              refine Nat.lt_of_le_of_lt (List.length_filter_le _ _) ?_
              rw [List.length_take, List.length_map, List.length_range]
              exact Nat.lt_of_lt_of_le (show min j l < 4 by omega) (by decide)
            · rw [ht, show [g].filter (fun g => decide (g ∉ os)) = [g] by simp [hgo], List.map_append]
              exact (t3.up (tk_setL _ e2)).append (.cons ((tk1.up fr2.tk).up (tk_setL _ e2)) .nil)
        · rintro D2 acc2 H7 hD2 fr2 t3 e2
          rw [haccl, List.take_of_length_le (by rw [List.length_map, List.length_range]; exact Nat.le_refl _)] at t3
          have ev7 := fr2.keep _ _ ev6 id
          have hnews : (((List.range l).map (mv o)).filter fun g => decide (g ∉ os)).length ≤ 3 := by
            refine Nat.le_trans (List.length_filter_le _ _) ?_
            rw [List.length_map, List.length_range]; exact hl3
          have hacc2 : acc2.length ≤ 3 := by rw [t3.length, List.length_map]; exact hnews
          refine ⟨D2, rfl, _, ev7, _, e2, Nat.le_trans (show vs.length + acc2.length ≤ 9 by omega) (by decide), ?_⟩
          have g8 : Fr (· = ol) H7 (upd H7 ol (.lst (vs ++ acc2))) := Fr.setL _ ev7 rfl
          have ev8 : upd H7 ol (.lst (vs ++ acc2)) ol = _ := upd_same
          generalize upd H7 ol (.lst (vs ++ acc2)) = H8 at g8 ev8 ⊢
          have f57 : Fr F0 H5 H7 := fr.trans fr2
          have nDol : D ≠ ol := fun z => by rw [z, ev] at hD; cases hD
          have eD8 := g8.keep _ _ (fr2.keep _ _ e id) nDol
          have er8 := g8.keep _ _ (f57.keep _ _ er id) (Ne.symm nor)
          have eh8 := g8.tk _ _ (f57.tk _ _ eh)
          have tv8 : TNs H8 (vs ++ acc2) ((os ++ ((List.range l).map (mv o)).filter fun g => decide (g ∉ os)).map ordK) := by
            rw [List.map_append]
            exact ((tv.up f57.tk).up g8.tk).append (t3.up g8.tk)
          have t28 := (t2.up fr2.tk).up g8.tk
          have hos8 : ∀ o' ∈ os ++ (((List.range l).map (mv o)).filter fun g => decide (g ∉ os)), o' ∈ allO l := by
            intro o' ho'
            rcases List.mem_append.mp ho' with h | h
            · exact hos o' h
            · obtain ⟨x, hx, rfl⟩ := List.mem_map.mp (List.mem_filter.mp h).1
              exact hol3 x (List.mem_range.mp hx)
          have nd8 : (os ++ (((List.range l).map (mv o)).filter fun g => decide (g ∉ os))).Nodup := by
            refine List.nodup_append.mpr ⟨nd, hol4.filter _, fun c hc c' hc' z => ?_⟩
            subst z
            have := (List.mem_filter.mp hc').2
            simp at this
            exact this hc
          have hin : ∀ x, x < l → mv o x ∈ os ++ (((List.range l).map (mv o)).filter fun g => decide (g ∉ os)) := by
            intro x hx
            rw [List.mem_append]
            by_cases h : mv o x ∈ os
            · exact .inl h
            · exact .inr (List.mem_filter.mpr ⟨List.mem_map.mpr ⟨x, List.mem_range.mpr hx, rfl⟩, by simpa using h⟩)
          generalize hos' : os ++ (((List.range l).map (mv o)).filter fun g => decide (g ∉ os)) = os' at tv8 hos8 nd8 hin
          have hosl : os.length ≤ os'.length := by rw [← hos', List.length_append]; omega
          have os6 := few_orders hl1 hl3 nd8 hos8
          have osfine8 : ∀ k ∈ os'.map ordK, Fine k := fun k hk => by obtain ⟨o', _, rfl⟩ := List.mem_map.mp hk; exact ordK_fine o'
          obtain ⟨o0, ho0'⟩ : ∃ o0, o[0]? = some o0 := ⟨_, List.getElem?_eq_getElem (show 0 < o.length by omega)⟩
          have ho0l := hol2 o0 (List.mem_of_getElem? ho0')
          have a0 : atI (numV o) 0 = some (.int (o0 : Int)) := atI_nat (j := 0) (mapGet' _ ho0')
          have hgs : ∀ x, x < l → ((List.range l).map (mv o))[x]? = some (mv o x) := fun x hx => by rw [List.getElem?_map, List.getElem?_range hx]; rfl
          obtain ⟨vg, hvg, tvg⟩ := t28.get (mapGet' ordK (hgs o0 ho0l))
          refine ⟨tyL er8, _, sqT eh8, _, a0, tyL ev8, _, sqT eh8, _, a0, _, _, rfl, sqL eD8, _, atI_nat hvg, ?_⟩
          refine index_K ev8 tvg tv8 (ordK_fine _) osfine8 (ordK_mem.mpr (hin o0 ho0l)) fun j1 hj1 => ?_
          have hj1' : j1 < os'.length := by have := (List.getElem?_eq_some_iff.mp hj1).1; rwa [List.length_map] at this
          refine tlc rfl ?_
          walk_at "rd"
          refine ⟨⟨_, sqL eD8⟩, ?_⟩
          refine lc_fr (walk_list (K := K) (a := D) (xs := acc')) F0 (fun D3 j acc H' => ∃ hs : List Nat, acc = numV hs ∧ ∀ s ∈ hs, s < os'.length) (fun _ _ _ _ fr _ => sqL (fr.keep _ _ eD8 id)) (fun _ _ => ⟨[], rfl, by simp⟩) ?_ ?_
          · rintro D3 j y H9 H10 acc3 hD3 hj el3 fr3 ⟨hs, rfl, hhs⟩ e3' ⟨rfl, hy⟩
            obtain ⟨kk1, hk1, tk1⟩ := t28.getV hy
            obtain ⟨g, hg, rfl⟩ := mapGet hk1
            have hg' : g ∈ os' := by
              obtain ⟨x, hx, rfl⟩ := List.mem_map.mp (List.mem_of_getElem? hg)
              exact hin x (List.mem_range.mp hx)
            walk_at "rd"
            refine ⟨tyL (fr3.keep _ _ ev8 id), index_K (fr3.keep _ _ ev8 id) (tk1.up fr3.tk) (tv8.up fr3.tk) (ordK_fine _) osfine8 (ordK_mem.mpr hg') fun j2 hj2 => ?_⟩
            have hj2' : j2 < os'.length := by have := (List.getElem?_eq_some_iff.mp hj2).1; rwa [List.length_map] at this
            refine LcQ.mk hD3 e3' el3 (Nat.lt_of_lt_of_le (show j < 4 by omega) (by decide)) fr3 ⟨hs ++ [j2], by simp, fun s hs' => ?_⟩
            rcases List.mem_append.mp hs' with h | h
            · exact hhs s h
            · rw [List.mem_singleton.mp h]; exact hj2'
          · rintro D3 acc3 H9 hD3 el3 fr3 ⟨hs, rfl, hhs⟩ e3'
            have hsl : hs.length = l := by rw [List.length_map] at el3; omega
            refine ⟨D3, rfl, _, .inl ⟨sqL e3', fun T hT => ⟨by decide, fun U hU => ?_⟩⟩⟩
            have g1 : Fr F0 H9 (upd H9 T (.tup (numV hs))) := Fr.new _ hT
            have g2 : Fr F0 _ (upd (upd H9 T (.tup (numV hs))) U (.tup [.int (o0 : Int), .int (j1 : Int), .ref T])) := Fr.new _ hU
            have eT := g2.tk T _ upd_same
            have eU : upd (upd H9 T (.tup (numV hs))) U (.tup [.int (o0 : Int), .int (j1 : Int), .ref T]) U = _ := upd_same
            generalize upd (upd H9 T (.tup (numV hs))) U (.tup [.int (o0 : Int), .int (j1 : Int), .ref T]) = H10 at g2 eT eU ⊢
            have f810 := (fr3.trans g1).trans g2
            have er10 := f810.keep _ _ er8 id
            have g3 : Fr (· = rl) H10 (upd H10 rl (.lst (acc ++ [.ref U]))) := Fr.setL _ er10 rfl
            refine ⟨acc, er10, ?_, ⟨_, _, _, _, _, rfl⟩, ?_, ⟨vs ++ acc2, os', acc ++ [.ref U], rows ++ [(o0, j1, hs)], g3.keep _ _ (f810.keep _ _ ev8 id) nor, (tv8.up f810.tk).up g3.tk, nd8, hos8, by omega, by omega, upd_same, ?_, by rw [List.length_append, hrl']; rfl, fun r hr' => ?_⟩⟩
            · rw [tr.length, List.length_map, hrl']; exact Nat.lt_of_lt_of_le (show n < 7 by omega) (by decide)
            · exact (((f5.trans f57).after g8 (fun c z => by rw [z]; exact hol0)).trans f810).after g3 fun c z => by rw [z]; exact hrl0
            · rw [List.map_append]
              refine ((((tr.up f57.tk).up g8.tk).up f810.tk).up g3.tk).append (.cons (.tup (g3.tk _ _ eU) (.cons (.num _) (.cons (.num _) (.cons (.tup (g3.tk _ _ eT) (numV_tn _ _)) .nil)))) .nil)
            · rcases List.mem_append.mp hr' with h | h
              · have q := hrows r h
                exact ⟨q.v, Nat.lt_of_lt_of_le q.a hosl, q.hl, fun s hs => Nat.lt_of_lt_of_le (q.h s hs) hosl⟩
              · rw [List.mem_singleton.mp h]
                exact ⟨ho0l, hj1', hsl, hhs⟩
    · rw [decide_eq_false (show ¬ (n : Int) < (vs.length : Int) by rw [hvl]; omega), if_neg (by decide)]
      have hne : n = os.length := by omega
      refine ⟨_, .inl ⟨sqL er, fun T hT => ⟨by decide, fun U hU => ?_⟩⟩⟩
      have g1 : Fr F0 H5 (upd H5 T (.tup acc)) := Fr.new _ hT
      refine kk _ ⟨l, rows⟩ _ (tn_made hU (.cons (.num _) (.cons (.tup upd_same (tr.up g1.tk)) .nil))) ⟨hl1, hl3, by show 1 ≤ rows.length; omega, by show rows.length ≤ 6; omega, fun r hr' => ?_⟩ (f5.trans (g1.trans (Fr.new _ hU)))
      have q := hrows r hr'
      show RowOk l rows.length r
      rw [hrl', hne]
      exact ⟨q.v, q.a, q.hl, by omega, q.h⟩
end
end K53
end
section
set_option Elab.async false
set_option linter.all false
set_option maxRecDepth 100000
set_option maxHeartbeats 4000000
set_option pp.maxSteps 2500
namespace K53
open PySem PySem.Spec PyProof.Rows L2
local macro_rules | `(tactic| walk_at "rd") => `(tactic| (
  try dsimp only [tSeq, tIfS, tOr, tAnd, tNot, tNotV, tAndV, tOrV, tB, tCB, tCons, tNil, tVar, tC, tTest, tChain, tRet, tRetN, tNext, tOp, rI0, rI, tAsg, gName, tDrop, tIf, tTup, tLst, tFld, tUn, rU, tCall, tMeth, tMake, tProp, iStr, iTup, iList, iRng1, iRng2, iEnumT,
    tPar, tPar3, gTup, gCons, gNil, gSub, gUnl, rSetL, rIxL, rIxT, rAppend, rExtend, tBM, tBM0, sFld, sFldAug, tSl, tPart, tNoPart, rSlL, rSlA, rSlT, tAug, ipI, t2I, rEq, rNe, scal, List.append_nil, List.cons_append, List.nil_append, List.getElem?_cons_zero, List.getElem?_cons_succ, List.set_cons_zero, List.set_cons_succ,
    List.map_cons, List.map_nil]
  try simp only [Option.some.injEq, exists_eq_left', exists_eq_left, exists_eq_right, exists_eq', V.int.injEq, V.str.injEq, V.bl.injEq, V.ref.injEq, List.cons.injEq, and_true, true_and, and_assoc, exists_and_left, exists_const, Bool.not_true, Bool.not_false, Bool.false_eq_true, if_true, if_false, ite_true, ite_false, decide_true, decide_false, reduceCtorEq, false_and, false_or, or_false, List.cons_ne_nil, exists_false, List.length_cons, List.length_nil, Nat.reduceAdd, Nat.zero_add, Int.cast_ofNat_Int, Int.reduceEq, Int.reduceLT, Int.reduceLE, Int.reduceAdd, Int.reduceSub, at0, at1, at2, eq_self, List.reverse_cons, List.reverse_nil]))

local macro_rules | `(tactic| walk_at "fd") => `(tactic| (
  repeat (first
    | (apply And.intro
       · first
         | assumption
         | exact sqT (by assumption)
         | exact sqL (by assumption)
         | exact .inl (sqL (by assumption))
         | exact .inr (sqT (by assumption))
         | exact atI_nat (by assumption)
         | exact at0
         | exact at1
         | exact at2
         | exact bxF_rows _ _ _ _
         | exact bxF_stages _ _ _ _
         | exact bxF_pols _ _ _ _
         | exact bxF_mode _ _ _ _
         | exact bxF_told _ _ _ _
         | exact bxF_holds _ _ _ _
         | exact bxF_touch _ _ _ _
         | exact bxF_fill _ _ _ _
         | exact bxF_ask _ _ _ _
         | exact bxF_go_down _ _ _ _
         | exact bxF_moment _ _ _ _
         | exact BK.c (by assumption)
         | exact BK.rows (by assumption)
         | exact BK.stages (by assumption)
         | exact BK.policies (by assumption)
         | exact BK.mode (by assumption)
         | rfl)
    | with_reducible apply Exists.intro)))

section
variable {P : Program} {w : World} {K : PySem.W.Frag} {mg : Str → Option Value} {base : Heap} {B C : Addr}
structure DvInv (H : Hp) (p fl : Addr) (way : Nat) (i : Nat) (σ : L2.St) (H' : Hp) : Prop where
  s : ∃ x3 x6 x7 x8, σ = [some (.ref p), some (.int 3), some (.int 5), x3, some (.int (way : Int)), some (.ref fl), x6, x7, x8]
  hp : PoolAt H' p
  f : Fr (· = p) H H'
  t : ∃ (vs : List V) (ps : List Pol), H' fl = some (.lst vs) ∧ TNs H' vs (ps.map polK) ∧ ps.length = i ∧ ∀ o ∈ ps, PolOk o
abbrev sDevice : Stmt := (top 48)
abbrev sDeviceN : List Str := ["_law_pool_here", "_law_most", "_law_states", "_law_turn", "_law_way", "_law_found", "_law_lines", "_law_some", "_law_table"]
theorem sDeviceS : FnScope sDeviceN ["_law_pool_here", "_law_most", "_law_states"] (defScope sDevice) := ⟨rfl, rfl, rfl, by decide +kernel, rfl, by decide +kernel, by decide +kernel⟩
def spDevice : Sp := fun vs H Q _ => ∃ (p : Addr), vs = [.ref p, .int 3, .int 5] ∧ PoolAt H p ∧ ∀ (v : V) (d : Dev) H', TN H' v (devK d) → DevOk d → PoolAt H' p → Fr (· = p) H H' → Q v H'
theorem ok_device {f : Addr} {fd : FuncData} (F : Fun K "_law_device" "_law_device" sDevice f fd) (Bb : Bi mg) (D__law_draw : Def P w K mg base "_law_draw" ["_law_pool_here", "_law_most"] 1 spDraw) (D__law_recent : Def P w K mg base "_law_recent" ["_law_lines"] 2 spRecent)
    (D__law_queue : Def P w K mg base "_law_queue" ["_law_lines"] 1 spQueue) (D__law_policy : Def P w K mg base "_law_policy" ["_law_pool_here", "_law_lines", "_law_states"] 2 spPolicy) : FnOk P w K mg base CX0 3 f fd ["_law_pool_here", "_law_most", "_law_states"] spDevice := by
  refine F.ok sDeviceS (fun vs H Q E h => ?_) (fun cdv A outer s H vs Q E hr h => ?_)
  · obtain ⟨p, rfl, _⟩ := h
    rfl
  · obtain ⟨p, rfl, hp, kk⟩ := h
    have np : ∀ c, H c = none → c ≠ p := fun c h z => by obtain ⟨_, _, _, e, _⟩ := hp; rw [z, e] at h; cases h
    refine ⟨_, (pss_cons (ps_par (i := 4) (j := 5) (by rfl) sDeviceS.nd rfl rfl (by decide) rfl rfl (pa_cons (pe_def D__law_draw (hr.mono (by decide)) (by rfl) (pa_cons (pv 0) (pa_cons pe_int pa_nil))) (pa_cons (pe_lst pa_nil) pa_nil)) (by rfl))
      (pss_cons (ps_for PassesOwn.never rfl (pi_range1 (by rfl) Bb.range (pa_cons pe_int pa_nil)) (pg_name (i := 3) sDeviceS.nd rfl (Or.inl rfl)) (pss_cons (ps_set (i := 6) sDeviceS.nd rfl (Or.inl rfl) (pe_op op_add pe_int (pe_def D__law_draw (hr.mono (by decide)) (by rfl) (pa_cons (pv 0) (pa_cons (pv 1) pa_nil)))))
      (pss_cons (ps_set (i := 7) sDeviceS.nd rfl (Or.inl rfl) (pe_lst (pa_cons (pe_def D__law_recent (hr.mono (by decide)) (by rfl) (pa_cons (pv 6) pa_nil)) (pa_cons (pe_def D__law_queue (hr.mono (by decide)) (by rfl) (pa_cons (pv 6) pa_nil)) pa_nil))))
      (pss_cons (ps_set (i := 8) sDeviceS.nd rfl (Or.inl rfl) (pe_def D__law_policy (hr.mono (by decide)) (by rfl) (pa_cons (pv 0) (pa_cons (pv 6) (pa_cons (pe_op op_add pe_int (pe_def D__law_draw (hr.mono (by decide)) (by rfl) (pa_cons (pv 0) (pa_cons (pv 2) pa_nil)))) pa_nil)))))
      (pss_one (ps_expr (pe_bm PySem.F.plainAttrs_list PySem.F.slot_list_append PySem.F.type_list_append mt_append (pv 5) (pa_cons (pe_ix ix_list (pe_op op_cat (pv 7) (pe_op op_rep (pe_lst (pa_cons (pv 8) pa_nil)) pe_int)) (pe_def D__law_draw (hr.mono (by decide)) (by rfl) (pa_cons (pv 0) (pa_cons pe_int pa_nil))) (fun _ _ => rfl)) pa_nil))))))))
      (pss_cons (ps_if (pt_cmpR op_lt (pv 4) pe_int (nomark _)) (pss_one (ps_ret (pe_tup (pa_cons pe_str (pa_cons (pe_ix ix_list (pv 5) pe_int (fun _ _ => rfl)) pa_nil))))) pss_nil)
      (pss_one (ps_ret (pe_tup (pa_cons (pe_ix ix_list (pe_lst (pa_cons pe_str (pa_cons pe_str (pa_cons pe_str pa_nil)))) (pe_op op_sub (pv 4) pe_int) (fun _ _ => rfl)) (pa_cons (pe_ix ix_list (pv 5) pe_int (fun _ _ => rfl)) (pa_cons (pe_ix ix_list (pv 5) pe_int (fun _ _ => rfl)) pa_nil))))))))), ?_⟩
    rw [show L2.start sDeviceN [.ref p, .int 3, .int 5] = [some (.ref p), some (.int 3), some (.int 5), none, none, none, none, none, none] from rfl]
    walk_at "rd"
    refine ⟨p, 6, rfl, hp, by decide, by decide, fun way H1 hway hp1 f1 => ?_⟩
    walk_at "rd"
    refine ⟨by decide, fun fl hfl => ?_⟩
    have hfl0 := f1.dom _ hfl
    have g2 : Fr F0 H1 (upd H1 fl (.lst [])) := Fr.new _ hfl
    have e2 : upd H1 fl (.lst []) fl = _ := upd_same
    have hp2 := hp1.up g2 id
    generalize upd H1 fl (.lst []) = H2 at g2 e2 hp2 ⊢
    refine ⟨_, rfl, by decide, by decide, ?_⟩
    refine for_range (lo := 0) (n := 2) (fun i σ H' => DvInv H p fl way i σ H') ⟨⟨_, _, _, _, rfl⟩, hp2, f1.trans g2.any, ⟨[], [], e2, .nil, rfl, fun o ho => absurd ho (by simp)⟩⟩ ?_ ?_
    · rintro i σ H3 hi ⟨⟨x3, x6, x7, x8, rfl⟩, hp3, f3, vs, ps, ev, tv, hl, hps⟩
      walk_at "rd"
      have nfp : fl ≠ p := np _ hfl0
      refine ⟨p, 3, rfl, hp3, by decide, by decide, fun r1 H4 hr1 hp4 f4 => ⟨_, rfl, 1 + r1, congrArg (fun t : Int => [V.int t]) (show (1 : Int) + (r1 : Int) = ((1 + r1 : Nat) : Int) by omega), by omega, by omega, fun v1 o1 H5 tv1 ok1 f5 =>
        ⟨1 + r1, congrArg (fun t : Int => [V.int t]) (show (1 : Int) + (r1 : Int) = ((1 + r1 : Nat) : Int) by omega), by omega, by omega, fun v2 o2 H6 tv2 ok2 f6 => ⟨by decide, fun ls hls => ?_⟩⟩⟩⟩
      have g7 : Fr F0 H6 (upd H6 ls (.lst [v1, v2])) := Fr.new _ hls
      have e7 : upd H6 ls (.lst [v1, v2]) ls = _ := upd_same
      generalize upd H6 ls (.lst [v1, v2]) = H7 at g7 e7 ⊢
      have f57 := (f5.trans f6).trans g7
      have hp7 := hp4.up f57 id
      have np7 : ∀ c, H4 c = none → c ≠ p := fun c h z => by obtain ⟨_, _, _, e, _⟩ := hp4; rw [z, e] at h; cases h
      have nls : ls ≠ p := np7 _ ((f5.trans f6).dom _ hls)
      refine ⟨p, 5, rfl, hp7, by decide, by decide, fun r2 H8 hr2 hp8 f8 => ⟨_, rfl, p, 1 + r1, 1 + r2, ?_, hp8, by omega, by omega, by omega, by omega, fun v3 o3 H9 tv3 ok3 _ hp9 f9 => ?_⟩⟩
      · rw [show (1 : Int) + (r1 : Int) = ((1 + r1 : Nat) : Int) by omega, show (1 : Int) + (r2 : Int) = ((1 + r2 : Nat) : Int) by omega]
      have f79 := f8.trans f9
      have F39 : Fr (· = p) H3 H9 := (f4.trans f57.any).trans f79
      refine ⟨tyL (F39.keep _ _ ev nfp), by decide, fun l4 hl4 => ?_⟩
      have g10 : Fr F0 H9 (upd H9 l4 (.lst [v3])) := Fr.new _ hl4
      have e10 : upd H9 l4 (.lst [v3]) l4 = _ := upd_same
      generalize upd H9 l4 (.lst [v3]) = H10 at g10 e10 ⊢
      refine ⟨l4, 4, [v3], rfl, rfl, e10, by decide, by decide, by show (4 : Nat) ≤ sizeLine; decide, fun l5 hl5 => ?_⟩
      rw [show (List.replicate (4 : Int).toNat [v3]).flatten = [v3, v3, v3, v3] from rfl]
      have g11 : Fr F0 H10 (upd H10 l5 (.lst [v3, v3, v3, v3])) := Fr.new _ hl5
      have e11 : upd H10 l5 (.lst [v3, v3, v3, v3]) l5 = _ := upd_same
      generalize upd H10 l5 (.lst [v3, v3, v3, v3]) = H11 at g11 e11 ⊢
      have els := (g10.trans g11).keep _ _ (f79.keep _ _ e7 nls) id
      refine ⟨ls, l5, [v1, v2], _, rfl, rfl, els, e11, by show (6 : Nat) ≤ sizeLine; decide, fun l6 hl6 => ?_⟩
      have g12 : Fr F0 H11 (upd H11 l6 (.lst ([v1, v2] ++ [v3, v3, v3, v3]))) := Fr.new _ hl6
      have e12 : upd H11 l6 (.lst ([v1, v2] ++ [v3, v3, v3, v3])) l6 = _ := upd_same
      generalize upd H11 l6 (.lst ([v1, v2] ++ [v3, v3, v3, v3])) = H12 at g12 e12 ⊢
      have f912 := (g10.trans g11).trans g12
      have np9 : ∀ c, H9 c = none → c ≠ p := fun c h z => by obtain ⟨_, _, _, e, _⟩ := hp9; rw [z, e] at h; cases h
      have nl6 : l6 ≠ p := np9 _ ((g10.trans g11).dom _ hl6)
      refine ⟨p, 6, rfl, hp9.up f912 id, by decide, by decide, fun r3 H13 hr3 hp13 f13 => ?_⟩
      have F313 : Fr (· = p) H3 H13 := (F39.trans f912.any).trans f13
      have t513 : Tk H5 H13 := ((f6.trans g7).tk.trans f79.tk).trans (f912.tk.trans f13.tk)
      obtain ⟨v, o, hv, tvv, okv⟩ : ∃ v o, ([v1, v2] ++ [v3, v3, v3, v3])[r3]? = some v ∧ TN H13 v (polK o) ∧ PolOk o := by
        have k1 := tv1.up t513
        have k2 := tv2.up ((g7.tk.trans f79.tk).trans (f912.tk.trans f13.tk))
        have k3 := tv3.up (f912.tk.trans f13.tk)
        rcases (show r3 = 0 ∨ r3 = 1 ∨ r3 = 2 ∨ r3 = 3 ∨ r3 = 4 ∨ r3 = 5 by omega) with rfl | rfl | rfl | rfl | rfl | rfl
        · exact ⟨v1, o1, rfl, k1, ok1⟩
        · exact ⟨v2, o2, rfl, k2, ok2⟩
        all_goals exact ⟨v3, o3, rfl, k3, ok3⟩
      have ev13 := F313.keep _ _ ev nfp
      refine ⟨l6, rfl, _, _, rfl, sqL (f13.keep _ _ e12 nl6), v, atI_nat hv, vs, ev13, ?_, ?_⟩
      · rw [tv.length, List.length_map, hl]; exact Nat.lt_of_lt_of_le (show i < 3 by omega) (by decide)
      have g14 : Fr (· = fl) H13 (upd H13 fl (.lst (vs ++ [v]))) := Fr.setL _ ev13 rfl
      refine ⟨⟨_, _, _, _, rfl⟩, hp13.up g14 (Ne.symm nfp), (f3.trans F313).after' g14 (fun c z => by rw [z]; exact hfl0), ⟨_, ps ++ [o], upd_same, ?_, by rw [List.length_append, hl]; rfl, fun o' ho' => ?_⟩⟩
      · rw [List.map_append]
        exact ((tv.up F313.tk).up g14.tk).append (.cons (tvv.up g14.tk) .nil)
      · rcases List.mem_append.mp ho' with h | h
        · exact hps o' h
        · rw [List.mem_singleton.mp h]; exact okv
    · rintro σ H3 ⟨⟨x3, x6, x7, x8, rfl⟩, hp3, f3, vs, ps, ev, tv, hl, hps⟩
      walk_at "rd"
      obtain ⟨o1, o2, rfl⟩ : ∃ o1 o2, ps = [o1, o2] := by
        match ps, hl with
        | [o1, o2], _ => exact ⟨o1, o2, rfl⟩
      obtain ⟨w1, w2, rfl, t1, t2⟩ : ∃ w1 w2, vs = [w1, w2] ∧ TN H3 w1 (polK o1) ∧ TN H3 w2 (polK o2) := by
        cases tv with | cons t1 tv =>
        cases tv with | cons t2 tv =>
        cases tv
        exact ⟨_, _, rfl, t1, t2⟩
      have k1 := hps o1 (by simp)
      have k2 := hps o2 (by simp)
      by_cases hw : (way : Int) < 3
      · rw [decide_eq_true hw, if_pos rfl]
        refine ⟨_, sqL ev, _, at0, by decide, fun q hq => ?_⟩
        have g : Fr F0 H3 (upd H3 q (.tup [.str "cache", w1])) := Fr.new _ hq
        exact kk _ ⟨0, [o1]⟩ _ (tn_made hq (.cons (.text _) (.cons t1 .nil))) ⟨.inl ⟨rfl, rfl⟩, fun o ho => by rw [List.mem_singleton.mp ho]; exact k1⟩ (hp3.up g id) (f3.trans g.any)
      · rw [decide_eq_false hw, if_neg (by decide)]
        refine ⟨by decide, fun q hq => ?_⟩
        have g : Fr F0 H3 (upd H3 q (.lst [.str "plain", .str "inclusive", .str "victim"])) := Fr.new _ hq
        have eq : upd H3 q (.lst [.str "plain", .str "inclusive", .str "victim"]) q = _ := upd_same
        have fin : ∀ (md : Nat), 1 ≤ md → md ≤ 3 → ∀ u, upd H3 q (.lst [.str "plain", .str "inclusive", .str "victim"]) u = none → Q (.ref u) (upd (upd H3 q (.lst [.str "plain", .str "inclusive", .str "victim"])) u (.tup [.str (modeS md), w1, w2])) := by
          intro md h1 h3 u hu
          have g2 : Fr F0 _ (upd (upd H3 q (.lst [.str "plain", .str "inclusive", .str "victim"])) u (.tup [.str (modeS md), w1, w2])) := Fr.new _ hu
          refine kk _ ⟨md, [o1, o2]⟩ _ (tn_made hu (.cons (.text _) (.cons (t1.up g.tk) (.cons (t2.up g.tk) .nil)))) ⟨.inr ⟨h1, h3, rfl⟩, fun o ho => ?_⟩ (hp3.up (g.trans g2) id) (f3.trans (g.trans g2).any)
          rcases List.mem_cons.mp ho with h | h
          · rw [h]; exact k1
          · rw [List.mem_singleton.mp h]; exact k2
        have e3 := g.keep _ _ ev id
        rcases (show way = 3 ∨ way = 4 ∨ way = 5 by omega) with rfl | rfl | rfl
        · exact ⟨_, sqL eq, _, at0, _, sqL e3, _, at0, _, sqL e3, _, at1, by decide, fin 1 (by decide) (by decide)⟩
        · exact ⟨_, sqL eq, _, at1, _, sqL e3, _, at0, _, sqL e3, _, at1, by decide, fin 2 (by decide) (by decide)⟩
        · exact ⟨_, sqL eq, _, at2, _, sqL e3, _, at0, _, sqL e3, _, at1, by decide, fin 3 (by decide) (by decide)⟩
abbrev sDrawn : Stmt := (top 50)
abbrev sDrawnN : List Str := ["_law_pool_here", "_law_words_here", "_law_size", "_law_most", "_law_turn"]
theorem sDrawnS : FnScope sDrawnN ["_law_pool_here", "_law_words_here", "_law_size", "_law_most"] (defScope sDrawn) := ⟨rfl, rfl, rfl, by decide +kernel, rfl, by decide +kernel, by decide +kernel⟩
def spDrawn : Sp := fun vs H Q _ => ∃ (p a : Addr) (ws : List Nm) (size most : Nat), vs = [.ref p, .ref a, .int (size : Int), .int (most : Int)] ∧ PoolAt H p ∧ H a = some (.lst (ws.map V.str)) ∧ wordsOk ws ∧ a ≠ p ∧ 1 ≤ size ∧ size ≤ 8 ∧ 1 ≤ most ∧ most ≤ 6 ∧
  ∀ (q : Addr) (r : List Nm) H', H' q = some (.tup (r.map V.str)) → r.length = size → (∀ x ∈ r, x ∈ ws.take most) → PoolAt H' p → Fr (· = p) H H' → Q (.ref q) H'
theorem ok_drawn {f : Addr} {fd : FuncData} (F : Fun K "_law_drawn" "_law_drawn" sDrawn f fd) (Bb : Bi mg) (D__law_draw : Def P w K mg base "_law_draw" ["_law_pool_here", "_law_most"] 1 spDraw) : FnOk P w K mg base CX0 2 f fd ["_law_pool_here", "_law_words_here", "_law_size", "_law_most"] spDrawn := by
  refine F.ok sDrawnS (fun vs H Q E h => ?_) (fun cdv A outer s H vs Q E hr h => ?_)
  · obtain ⟨p, a, ws, size, most, rfl, _⟩ := h
    rfl
  · obtain ⟨p, a, ws, size, most, rfl, hp, ha, hw, nap, hs1, hs8, hm1, hm6, kk⟩ := h
    refine ⟨_, (pss_one (ps_ret (pe_callTy (T := "tuple") call_tuple_of (by rfl) Bb.tuple (by decide +kernel) (pa_cons (pe_lc (own := [("_law_turn", 4)]) (g := gName 4) (tt := tYes) rfl sDrawnS.nd (pi_range1 (by rfl) Bb.range (pa_cons (pv 2) pa_nil)) (blkOk_by (N := sDrawnN) (sc := (defScope sDrawn)) (by decide +kernel)) (fun _ _ _ _ _ => pg_name (i := 4) sDrawnS.nd rfl (Or.inl rfl)) (fun _ _ _ _ _ => pts_nil) (fun _ _ _ _ _ => (pe_ix (k_ixl (K := K) rfl) (pv 1) (pe_def D__law_draw (hr.mono (by decide)) (by rfl) (pa_cons (pv 0) (pa_cons (pv 3) pa_nil))) (fun _ _ => rfl)))) pa_nil)))), ?_⟩
    rw [show L2.start sDrawnN [.ref p, .ref a, .int (size : Int), .int (most : Int)] = [some (.ref p), some (.ref a), some (.int (size : Int)), some (.int (most : Int)), none] from rfl]
    walk_at "rd"
    refine tlc rfl ?_
    walk_at "rd"
    refine ⟨by omega, by omega, ?_⟩
    refine lc_fr (walk_range (lo := 0) (n := (size : Int).toNat)) (· = p) (fun D j acc H' => PoolAt H' p ∧ ∃ r : List Nm, acc = r.map V.str ∧ ∀ x ∈ r, x ∈ ws.take most) (fun _ _ _ _ _ _ => trivial) (fun D hD => ⟨hp.up (Fr.new (F := F0) _ hD) id, [], rfl, by simp⟩) ?_ ?_
    · rintro D j y H3 H4 acc hD hj el fr ⟨hp3, r, rfl, hr3⟩ e ⟨rfl, rfl⟩
      walk_at "rd"
      refine ⟨p, most, rfl, hp3, by omega, by omega, fun r1 H5 hr1 hp5 f5 => ?_⟩
      have nDp : D ≠ p := fun z => by obtain ⟨_, _, _, e', _⟩ := hp; rw [z, e'] at hD; cases hD
      obtain ⟨x, hx⟩ : ∃ x, ws[r1]? = some x := ⟨_, List.getElem?_eq_getElem (show r1 < ws.length by rw [hw.1]; omega)⟩
      have e5 := f5.keep _ _ e nDp
      refine ⟨_, _, rfl, sqL (f5.keep _ _ (fr.keep _ _ ha nap) nap), _, atI_nat (mapGet' _ hx), ?_⟩
      refine LcQ.mk hD e5 el (Nat.lt_of_lt_of_le (show j < 9 by omega) (by decide)) (fr.trans f5) ⟨hp5.up (Fr.setL (F := (· = D)) _ e5 rfl) (Ne.symm nDp), r ++ [x], by simp, fun y hy => ?_⟩
      rcases List.mem_append.mp hy with h | h
      · exact hr3 y h
      · rw [List.mem_singleton.mp h]
        exact List.mem_of_getElem? (i := r1) (by rw [List.getElem?_take, if_pos hr1]; exact hx)
    · rintro D acc H3 hD el fr ⟨hp3, r, rfl, hr3⟩ e
      have nDp : D ≠ p := fun z => by obtain ⟨_, _, _, e', _⟩ := hp; rw [z, e'] at hD; cases hD
      refine ⟨D, rfl, _, .inl ⟨sqL e, fun T hT => kk T r _ upd_same ?_ hr3 (hp3.up (Fr.new (F := F0) _ hT) id) (fr.trans (Fr.new _ hT))⟩⟩
      rw [List.length_map] at el; omega
end
end K53
end
section
set_option Elab.async false
set_option linter.all false
set_option maxRecDepth 100000
set_option maxHeartbeats 4000000
set_option pp.maxSteps 2500
namespace K53
open PySem PySem.Spec PyProof.Rows L2
local macro_rules | `(tactic| walk_at "rd") => `(tactic| (
  try dsimp only [tSeq, tIfS, tOr, tAnd, tNot, tNotV, tAndV, tOrV, tB, tCB, tCons, tNil, tVar, tC, tTest, tChain, tRet, tRetN, tNext, tOp, rI0, rI, tAsg, gName, tDrop, tIf, tTup, tLst, tFld, tUn, rU, tCall, tMeth, tMake, tProp, iStr, iTup, iList, iRng1, iRng2, iEnumT,
    tPar, tPar3, gTup, gCons, gNil, gSub, gUnl, rSetL, rIxL, rIxT, rAppend, rExtend, tBM, tBM0, sFld, sFldAug, tSl, tPart, tNoPart, rSlL, rSlA, rSlT, tAug, ipI, t2I, rEq, rNe, scal, List.append_nil, List.cons_append, List.nil_append, List.getElem?_cons_zero, List.getElem?_cons_succ, List.set_cons_zero, List.set_cons_succ,
    List.map_cons, List.map_nil]
  try simp only [Option.some.injEq, exists_eq_left', exists_eq_left, exists_eq_right, exists_eq', V.int.injEq, V.str.injEq, V.bl.injEq, V.ref.injEq, List.cons.injEq, and_true, true_and, and_assoc, exists_and_left, exists_const, Bool.not_true, Bool.not_false, Bool.false_eq_true, if_true, if_false, ite_true, ite_false, decide_true, decide_false, reduceCtorEq, false_and, false_or, or_false, List.cons_ne_nil, exists_false, List.length_cons, List.length_nil, Nat.reduceAdd, Nat.zero_add, Int.cast_ofNat_Int, Int.reduceEq, Int.reduceLT, Int.reduceLE, Int.reduceAdd, Int.reduceSub, at0, at1, at2, eq_self, List.reverse_cons, List.reverse_nil]))

local macro_rules | `(tactic| walk_at "fd") => `(tactic| (
  repeat (first
    | (apply And.intro
       · first
         | assumption
         | exact sqT (by assumption)
         | exact sqL (by assumption)
         | exact .inl (sqL (by assumption))
         | exact .inr (sqT (by assumption))
         | exact atI_nat (by assumption)
         | exact at0
         | exact at1
         | exact at2
         | exact bxF_rows _ _ _ _
         | exact bxF_stages _ _ _ _
         | exact bxF_pols _ _ _ _
         | exact bxF_mode _ _ _ _
         | exact bxF_told _ _ _ _
         | exact bxF_holds _ _ _ _
         | exact bxF_touch _ _ _ _
         | exact bxF_fill _ _ _ _
         | exact bxF_ask _ _ _ _
         | exact bxF_go_down _ _ _ _
         | exact bxF_moment _ _ _ _
         | exact BK.c (by assumption)
         | exact BK.rows (by assumption)
         | exact BK.stages (by assumption)
         | exact BK.policies (by assumption)
         | exact BK.mode (by assumption)
         | rfl)
    | with_reducible apply Exists.intro)))

section
variable {P : Program} {w : World} {K : PySem.W.Frag} {mg : Str → Option Value} {base : Heap} {B C : Addr}
/-! ### a cache, seen by the law: At says what stands there, G what it owns -/
abbrev AtP := Hp → Addr → Dev → Bx Nm → Nat → Nat → (Addr → Prop) → Prop
structure Sys (B C : Addr) (At : AtP) : Prop where
  up : ∀ {H H' : Hp} {q d b n m G} {F : Addr → Prop}, At H q d b n m G → Fr F H H' → (∀ c, G c → ¬ F c) → At H' q d b n m G
  dom : ∀ {H : Hp} {q d b n m G c}, At H q d b n m G → H c = none → ¬ G c
  ca : ∀ {H : Hp} {q d b n m G}, At H q d b n m G → ∃ v p ls lr ll rest, CaAt B C H q d b n m v p ls lr ll rest ∧ ∃ dx, H q = some (.ins C dx (caF v p n m ++ rest)) ∧ (caF v p n m ++ rest).lookup ("request" : Str) = none
def spReqA (At : AtP) : Sp := fun vs H Q _ => ∃ (q : Addr) (x : Nm) (d : Dev) (b : Bx Nm) (n m : Nat) (G : Addr → Prop), vs = [.ref q, .str x] ∧ nameOk x ∧ n + m ≤ 100000 ∧ At H q d b n m G ∧
  ∀ H' n' G', n' + (m + (if holds b x = true then 0 else 1)) = n + m + 1 → At H' q d (askB d b x) n' (m + (if holds b x = true then 0 else 1)) G' → Fr G H H' → (∀ c, G' c → G c ∨ H c = none) → Q (.bl (holds b x)) H'
def AtC (B C : Addr) : AtP := fun H q d b n m G => ∃ v p ls lr ll, CaAt B C H q d b n m v p ls lr ll [] ∧ G = OwnG q p ls lr ll
def AtV (B C g : Addr) : AtP := fun H q d b n m G => ∃ v p ls lr ll k wd fd kvs, VaAt B C H q d b n m v p ls lr ll g k wd fd kvs ∧ G = OwnV q p ls lr ll wd fd
theorem sysC : Sys B C (AtC B C) := by
  refine ⟨?_, ?_, ?_⟩
  · rintro H H' q d b n m G F ⟨v, p, ls, lr, ll, ca, rfl⟩ f h
    exact ⟨v, p, ls, lr, ll, ca.up f h, rfl⟩
  · rintro H q d b n m G c ⟨v, p, ls, lr, ll, ca, rfl⟩ h
    exact ca.dom h
  · rintro H q d b n m G ⟨v, p, ls, lr, ll, ca, rfl⟩
    obtain ⟨dx, ob⟩ := ca.ob
    exact ⟨v, p, ls, lr, ll, [], ca, dx, ob, caF_req _ _ _ _⟩
theorem sysV {g : Addr} : Sys B C (AtV B C g) := by
  refine ⟨?_, ?_, ?_⟩
  · rintro H H' q d b n m G F ⟨v, p, ls, lr, ll, k, wd, fd, kvs, va, rfl⟩ f h
    exact ⟨v, p, ls, lr, ll, k, wd, fd, kvs, va.up f h, rfl⟩
  · rintro H q d b n m G c ⟨v, p, ls, lr, ll, k, wd, fd, kvs, va, rfl⟩ h
    rintro (z | z | z)
    · exact va.ca.dom h z
    · have := va.w; rw [← z, h] at this; cases this
    · have := va.f; rw [← z, h] at this; cases this
  · rintro H q d b n m G ⟨v, p, ls, lr, ll, k, wd, fd, kvs, va, rfl⟩
    obtain ⟨dx, ob⟩ := va.ca.ob
    exact ⟨v, p, ls, lr, ll, _, va.ca, dx, ob, vaF_req _ _ _ _ _ _ _ _ _⟩
theorem reqC {j : Nat} {f : Addr} {fd : FuncData} (F : FnOk P w K mg base CX0 j f fd ["self", "name"] (spCReq B C)) (hj : j ≤ 6) : FnOk P w K mg base CX0 6 f fd ["self", "name"] (spReqA (AtC B C)) := by
  refine (F.mono hj).imp fun vs H Q E h => ?_
  obtain ⟨q, x, d, b, n, m, G, rfl, hx, hnm, ⟨v, p, ls, lr, ll, ca, rfl⟩, k⟩ := h
  refine ⟨q, x, d, b, n, m, v, p, ls, lr, ll, rfl, hx, ca, fun H' n' hn ca' f => k H' n' _ hn ⟨v, p, ls, lr, ll, ca', rfl⟩ f fun c z => .inl z⟩
theorem reqV {g : Addr} {j : Nat} {f : Addr} {fd : FuncData} (F : FnOk P w K mg base CX0 j f fd ["self", "name"] (spVReq B C g)) (hj : j ≤ 6) : FnOk P w K mg base CX0 6 f fd ["self", "name"] (spReqA (AtV B C g)) := by
  refine (F.mono hj).imp fun vs H Q E h => ?_
  obtain ⟨q, x, d, b, n, m, G, rfl, hx, hnm, ⟨v, p, ls, lr, ll, kk, wd, fd, kvs, va, rfl⟩, k⟩ := h
  exact ⟨q, x, d, b, n, m, v, p, ls, lr, ll, kk, wd, fd, kvs, rfl, hx, hnm, va, fun H' n' p' ls' lr' ll' wd' fd' kvs' hn va' f fr =>
    k H' n' _ hn ⟨v, p', ls', lr', ll', kk, wd', fd', kvs', va', rfl⟩ (f.weak fun c o e z => .inl (.inl z)) fun c z => (fr c z).imp (fun z => .inl (.inl z)) id⟩
theorem Fr.comp {F G : Addr → Prop} {H H1 H2 : Hp} (a : Fr F H H1) (b : Fr G H1 H2) (h : ∀ c, G c → F c ∨ H c = none) : Fr F H H2 :=
  ⟨fun c o e n => b.keep c o (a.keep c o e n) fun z => (h c z).elim n fun z => (by rw [z] at e; cases e), a.tk.trans b.tk, fun c e => a.dom c (b.dom c e)⟩
structure RdIn (At : AtP) (H : Hp) (q a : Addr) (many : Nat) (d : Dev) (b : Bx Nm) (n m : Nat) (G : Addr → Prop) (r : List Nm) (sl ul : Addr) (i j : Nat) (σ : L2.St) (H' : Hp) : Prop where
  s : ∃ x3 x6, σ = [some (.ref q), some (.ref a), some (.int (many : Int)), x3, some (.ref sl), some (.ref ul), x6]
  f : Fr G H H'
  at_ : ∃ n' G', At H' q d (runB d (itB d r b i) (r.take j)) n' (m + itM d r b i + runM d (itB d r b i) (r.take j)) G' ∧ n' + (m + itM d r b i + runM d (itB d r b i) (r.take j)) = n + m + i * r.length + j ∧ (∀ c, G' c → G c ∨ H c = none) ∧ ¬ G' sl ∧ ¬ G' ul
  t : ∃ vs : List V, H' sl = some (.lst vs) ∧ TNs H' vs ((List.range (i + 1)).map fun i => standK (itB d r b i))
  u : H' ul = some (.lst ((List.range (i + 1)).map fun i => V.int ((m + itM d r b i : Nat) : Int)))
abbrev sRounds : Stmt := (top 53)
abbrev sRoundsN : List Str := ["_law_cache", "_law_ring", "_law_many", "_law_turn", "_law_stands", "_law_sums", "_law_who"]
theorem sRoundsS : FnScope sRoundsN ["_law_cache", "_law_ring", "_law_many"] (defScope sRounds) := ⟨rfl, rfl, rfl, by decide +kernel, rfl, by decide +kernel, by decide +kernel⟩
def spRounds (At : AtP) : Sp := fun vs H Q _ => ∃ (q a : Addr) (many : Nat) (d : Dev) (b : Bx Nm) (n m : Nat) (G : Addr → Prop) (r : List Nm), vs = [.ref q, .ref a, .int (many : Int)] ∧ At H q d b n m G ∧ H a = some (.tup (r.map V.str)) ∧ r.length ≤ 8 ∧ (∀ x ∈ r, nameOk x) ∧ many ≤ 150 ∧ n + m ≤ 2000 ∧
  ∀ (o sl ul : Addr) (vs : List V) n' G' H', H' o = some (.lst [.ref sl, .ref ul]) → H' sl = some (.lst vs) → TNs H' vs ((List.range (many + 1)).map fun i => standK (itB d r b i)) → H' ul = some (.lst ((List.range (many + 1)).map fun i => V.int ((m + itM d r b i : Nat) : Int))) →
    At H' q d (itB d r b many) n' (m + itM d r b many) G' → n' + (m + itM d r b many) = n + m + many * r.length → Fr G H H' → (∀ c, G' c → G c ∨ H c = none) → H sl = none → H ul = none → H o = none → Q (.ref o) H'
theorem ok_rounds {At : AtP} {f : Addr} {fd : FuncData} (F : Fun K "_law_rounds" "_law_rounds" sRounds f fd) (Bb : Bi mg) (cC : Cls K C) (S : Sys B C At) (D_states : PDef P w K mg base C "states" 1 (spCSt B C)) (D_levels : PDef P w K mg base C "levels" 1 (spCLv B C)) (D_misses : PDef P w K mg base C "misses" 1 (spCMs B C))
    (D_request : MDef P w K mg base C "request" ["self", "name"] 6 (spReqA At)) : FnOk P w K mg base CX0 7 f fd ["_law_cache", "_law_ring", "_law_many"] (spRounds At) := by
  refine F.ok sRoundsS (fun vs H Q E h => ?_) (fun cdv A outer s H vs Q E hr h => ?_)
  · obtain ⟨q, a, many, d, b, n, m, G, r, rfl, _⟩ := h
    rfl
  · obtain ⟨q, a, many, d, b, n, m, G, r, rfl, at_, ha, hr8, hrn, hmany, hnm, kk⟩ := h
    refine ⟨_, (pss_cons (ps_par (i := 4) (j := 5) (by rfl) sRoundsS.nd rfl rfl (by decide) rfl rfl (pa_cons (pe_lst (pa_cons (pe_tup (pa_cons (pe_pdef (pv 0) cC D_states (hr.mono (by decide)) rfl) (pa_cons (pe_pdef (pv 0) cC D_levels (hr.mono (by decide)) rfl) pa_nil))) pa_nil)) (pa_cons (pe_lst (pa_cons (pe_pdef (pv 0) cC D_misses (hr.mono (by decide)) rfl) pa_nil)) pa_nil)) (by rfl))
      (pss_cons (ps_for PassesOwn.never rfl (pi_range1 (by rfl) Bb.range (pa_cons (pv 2) pa_nil)) (pg_name (i := 3) sRoundsS.nd rfl (Or.inl rfl)) (pss_cons (ps_for PassesOwn.never rfl (pi_tup (pv 1)) (pg_name (i := 6) sRoundsS.nd rfl (Or.inl rfl)) (pss_one (ps_expr (pe_mdef (pv 0) cC D_request (hr.mono (by decide)) (pa_cons (pv 6) pa_nil)))))
      (pss_cons (ps_expr (pe_bm PySem.F.plainAttrs_list PySem.F.slot_list_append PySem.F.type_list_append mt_append (pv 4) (pa_cons (pe_tup (pa_cons (pe_pdef (pv 0) cC D_states (hr.mono (by decide)) rfl) (pa_cons (pe_pdef (pv 0) cC D_levels (hr.mono (by decide)) rfl) pa_nil))) pa_nil)))
      (pss_one (ps_expr (pe_bm PySem.F.plainAttrs_list PySem.F.slot_list_append PySem.F.type_list_append mt_append (pv 5) (pa_cons (pe_pdef (pv 0) cC D_misses (hr.mono (by decide)) rfl) pa_nil)))))))
      (pss_one (ps_ret (pe_lst (pa_cons (pv 4) (pa_cons (pv 5) pa_nil))))))), ?_⟩
    rw [show L2.start sRoundsN [.ref q, .ref a, .int (many : Int)] = [some (.ref q), some (.ref a), some (.int (many : Int)), none, none, none, none] from rfl]
    walk_at "rd"
    obtain ⟨v, p, ls, lr, ll, rest, ca, dx, ob, hreq⟩ := S.ca at_
    refine ⟨_, _, ob, q, d, b, n, m, v, p, ls, lr, ll, rest, rfl, ca, fun z1 H1 tz1 f1 => ?_⟩
    refine ⟨_, _, f1.keep _ _ ob id, q, d, b, n, m, v, p, ls, lr, ll, rest, rfl, ca.up0 f1, fun z2 H2 tz2 f2 => ⟨by decide, fun T hT => ⟨by decide, fun sl hsl => ?_⟩⟩⟩
    have f02 := f1.trans f2
    have g3 : Fr F0 H2 (upd H2 T (.tup [z1, z2])) := Fr.new _ hT
    have g4 : Fr F0 _ (upd (upd H2 T (.tup [z1, z2])) sl (.lst [.ref T])) := Fr.new _ hsl
    have eT := g4.tk T _ upd_same
    have esl : upd (upd H2 T (.tup [z1, z2])) sl (.lst [.ref T]) sl = _ := upd_same
    have hsl0 := (f02.trans g3).dom _ hsl
    generalize upd (upd H2 T (.tup [z1, z2])) sl (.lst [.ref T]) = H3 at g4 eT esl ⊢
    have f03 := (f02.trans g3).trans g4
    refine ⟨_, _, f03.keep _ _ ob id, q, d, b, n, m, v, p, ls, lr, ll, rest, rfl, ca.up0 f03, by decide, fun ul hul => ?_⟩
    have hul0 := f03.dom _ hul
    have g5 : Fr F0 H3 (upd H3 ul (.lst [.int (m : Int)])) := Fr.new _ hul
    have eul : upd H3 ul (.lst [.int (m : Int)]) ul = _ := upd_same
    generalize upd H3 ul (.lst [.int (m : Int)]) = H4 at g5 eul ⊢
    have f04 := f03.trans g5
    have nsu : sl ≠ ul := ne_of_none esl hul
    have tstand : ∀ {H H' : Hp} {z1 z2 : V} {b : Bx Nm} {T : Addr}, TN H z1 (.tup (nums b.st)) → TN H z2 (lvK b) → Tk H H' → H' T = some (.tup [z1, z2]) → TN H' (.ref T) (standK b) := fun t1 t2 tk e => .tup e (.cons (t1.up tk) (.cons (t2.up tk) .nil))
    refine ⟨_, rfl, (many : Int), rfl, by omega, by omega, ?_⟩
    refine for_range (lo := 0) (n := (many : Int).toNat) (fun i σ H' => RdIn At H q a many d b n m G r sl ul i 0 σ H') ⟨⟨_, _, rfl⟩, f04.any, ⟨n, G, ?_, ?_, fun c z => .inl z, S.dom at_ hsl0, S.dom at_ hul0⟩, ⟨_, g5.keep _ _ esl id, .cons (tstand (tz1.up f2.tk) tz2 ((g3.trans g4).trans g5).tk (g5.tk _ _ eT)) .nil⟩, ?_⟩ ?_ ?_
    · exact S.up at_ f04 fun _ _ => id
    · show n + (m + 0 + 0) = n + m + 0 * r.length + 0; omega
    · exact eul
    · rintro i σ H5 hi ⟨⟨x3, x6, rfl⟩, f5, ⟨n5, G5, at5, hn5, hG5, hs5, hu5⟩, ⟨vs5, es5, ts5⟩, eu5⟩
      have hi' : i < many := by omega
      refine ⟨.ref a, rfl, a, rfl, ⟨_, sqT (f5.tk _ _ ha)⟩, ?_⟩
      refine for_tup (K := K) (a := a) (xs := r.map V.str) (fun j σ H' => RdIn At H q a many d b n m G r sl ul i j σ H') ⟨⟨_, _, rfl⟩, f5, ⟨n5, G5, at5, hn5, hG5, hs5, hu5⟩, ⟨vs5, es5, ts5⟩, eu5⟩ (fun j σ H' _ hh => sqT (hh.f.tk _ _ ha)) ?_ ?_
      · rintro j y σ H6 hy ⟨⟨x3, x6, rfl⟩, f6, ⟨n6, G6, at6, hn6, hG6, hs6, hu6⟩, ⟨vs6, es6, ts6⟩, eu6⟩
        obtain ⟨x, hx, rfl⟩ := mapGet hy
        have hjl : j < r.length := (List.getElem?_eq_some_iff.mp hx).1
        obtain ⟨v6, p6, ls6, lr6, ll6, rest6, ca6, dx6, ob6, hreq6⟩ := S.ca at6
        have hsz : n6 + (m + itM d r b i + runM d (itB d r b i) (r.take j)) ≤ 100000 := by
          have h1 : i * r.length ≤ 150 * 8 := Nat.mul_le_mul (by omega) hr8
          omega
        walk_at "rd"
        refine ⟨_, _, ob6, hreq6, q, x, d, _, n6, _, G6, rfl, hrn x (List.mem_of_getElem? hx), hsz, at6, fun H7 n7 G7 hn7 at7 f7 hG7 => ?_⟩
        have et : r.take (j + 1) = r.take j ++ [x] := by rw [List.take_succ, hx]; rfl
        have eB : runB d (itB d r b i) (r.take (j + 1)) = askB d (runB d (itB d r b i) (r.take j)) x := by rw [et, runB_append]; rfl
        have eM : runM d (itB d r b i) (r.take (j + 1)) = runM d (itB d r b i) (r.take j) + (if holds (runB d (itB d r b i) (r.take j)) x = true then 0 else 1) := by rw [et, runM_append]; rfl
        have n7s : ∀ c, ¬ G6 c → (∃ o, H6 c = some o) → ¬ G7 c := fun c h1 ⟨o, h2⟩ z => by
          rcases hG7 c z with h | h
          · exact h1 h
          · rw [h] at h2; cases h2
        refine ⟨⟨_, _, rfl⟩, f6.comp f7 hG6, ⟨n7, G7, ?_, ?_, fun c z => ?_, n7s _ hs6 ⟨_, es6⟩, n7s _ hu6 ⟨_, eu6⟩⟩, ⟨vs6, f7.keep _ _ es6 hs6, ts6.up f7.tk⟩, f7.keep _ _ eu6 hu6⟩
        · rw [eB, eM, ← Nat.add_assoc]; exact at7
        · rw [eM, ← Nat.add_assoc]; omega
        · rcases hG7 c z with h | h
          · exact hG6 c h
          · exact .inr (f6.dom _ h)
      · rintro σ H6 ⟨⟨x3, x6, rfl⟩, f6, ⟨n6, G6, at6, hn6, hG6, hs6, hu6⟩, ⟨vs6, es6, ts6⟩, eu6⟩
        rw [List.length_map, List.take_length] at at6
        rw [List.length_map, List.take_length] at hn6
        obtain ⟨v6, p6, ls6, lr6, ll6, rest6, ca6, dx6, ob6, hreq6⟩ := S.ca at6
        walk_at "rd"
        refine ⟨tyL es6, _, _, ob6, q, d, _, _, _, v6, p6, ls6, lr6, ll6, rest6, rfl, ca6, fun y1 H7 ty1 f7 => ?_⟩
        refine ⟨_, _, f7.keep _ _ ob6 id, q, d, _, _, _, v6, p6, ls6, lr6, ll6, rest6, rfl, ca6.up0 f7, fun y2 H8 ty2 f8 => ⟨by decide, fun U hU => ?_⟩⟩
        have f68 := f7.trans f8
        have g9 : Fr F0 H8 (upd H8 U (.tup [y1, y2])) := Fr.new _ hU
        have eU : upd H8 U (.tup [y1, y2]) U = _ := upd_same
        generalize upd H8 U (.tup [y1, y2]) = H9 at g9 eU ⊢
        have f69 := f68.trans g9
        have es9 := f69.keep _ _ es6 id
        refine ⟨_, es9, ?_, ?_⟩
        · rw [ts6.length, List.length_map, List.length_range]; exact Nat.lt_of_lt_of_le (show i + 1 < 200 by omega) (by decide)
        have g10 : Fr (· = sl) H9 (upd H9 sl (.lst (vs6 ++ [.ref U]))) := Fr.setL _ es9 rfl
        have es10 : upd H9 sl (.lst (vs6 ++ [.ref U])) sl = _ := upd_same
        generalize upd H9 sl (.lst (vs6 ++ [.ref U])) = H10 at g10 es10 ⊢
        have eu10 := g10.keep _ _ (f69.keep _ _ eu6 id) (Ne.symm nsu)
        have at10 := S.up (S.up at6 f69 fun _ _ => id) g10 fun c hc z => hs6 (z ▸ hc)
        obtain ⟨v10, p10, ls10, lr10, ll10, rest10, ca10, dx10, ob10, hreq10⟩ := S.ca at10
        refine ⟨tyL eu10, _, _, ob10, q, d, _, _, _, v10, p10, ls10, lr10, ll10, rest10, rfl, ca10, _, eu10, ?_, ?_⟩
        · rw [List.length_map, List.length_range]; exact Nat.lt_of_lt_of_le (show i + 1 < 200 by omega) (by decide)
        have g11 : Fr (· = ul) H10 (upd H10 ul (.lst (((List.range (i + 1)).map fun i => V.int ((m + itM d r b i : Nat) : Int)) ++ [.int ((m + itM d r b i + runM d (itB d r b i) r : Nat) : Int)]))) := Fr.setL _ eu10 rfl
        refine ⟨⟨_, _, rfl⟩, ((f6.trans f69.any).after' g10 (fun c z => by rw [z]; exact hsl0)).after' g11 (fun c z => by rw [z]; exact hul0), ⟨n6, G6, ?_, ?_, hG6, hs6, hu6⟩, ⟨_, g11.keep _ _ es10 nsu, ?_⟩, ?_⟩
        · have at11 := S.up at10 g11 fun c hc z => hu6 (z ▸ hc)
          show At _ q d (runB d (itB d r b i) r) n6 (m + (itM d r b i + runM d (itB d r b i) r) + 0) G6
          rw [Nat.add_zero, ← Nat.add_assoc]
          exact at11
        · show n6 + (m + (itM d r b i + runM d (itB d r b i) r) + 0) = n + m + (i + 1) * r.length + 0
          rw [Nat.succ_mul]; omega
        · rw [List.range_succ (n := i + 1), List.map_append]
          refine (((ts6.up f69.tk).up g10.tk).up g11.tk).append (.cons ?_ .nil)
          exact tstand (ty1.up f8.tk) ty2 ((g9.tk.trans g10.tk).trans g11.tk) (g11.tk _ _ (g10.tk _ _ eU))
        · rw [upd_same, List.range_succ (n := i + 1), List.map_append]
          show some (HO.lst (_ ++ [_])) = some (HO.lst (_ ++ [V.int ((m + (itM d r b i + runM d (itB d r b i) r) : Nat) : Int)]))
          rw [← Nat.add_assoc]
    · rintro σ H5 ⟨⟨x3, x6, rfl⟩, f5, ⟨n5, G5, at5, hn5, hG5, hs5, hu5⟩, ⟨vs5, es5, ts5⟩, eu5⟩
      rw [Int.toNat_natCast] at at5 hn5 ts5 eu5
      walk_at "rd"
      refine ⟨by decide, fun o ho => ?_⟩
      have g6 : Fr F0 H5 (upd H5 o (.lst [.ref sl, .ref ul])) := Fr.new _ ho
      refine kk o sl ul vs5 n5 G5 _ upd_same (g6.keep _ _ es5 id) (ts5.up g6.tk) (g6.keep _ _ eu5 id) (S.up at5 g6 fun _ _ => id) ?_ (f5.trans g6.any) hG5 hsl0 hul0 (f5.dom _ ho)
      have : runM d (itB d r b many) (r.take 0) = 0 := rfl
      rw [this] at hn5
      omega
end
end K53
end
section
set_option Elab.async false
set_option linter.all false
set_option maxRecDepth 100000
set_option maxHeartbeats 4000000
set_option pp.maxSteps 2500
namespace K53
open PySem PySem.Spec PyProof.Rows L2
local macro_rules | `(tactic| walk_at "rd") => `(tactic| (
  try dsimp only [tSeq, tIfS, tOr, tAnd, tNot, tNotV, tAndV, tOrV, tB, tCB, tCons, tNil, tVar, tC, tTest, tChain, tRet, tRetN, tNext, tOp, rI0, rI, tAsg, gName, tDrop, tIf, tTup, tLst, tFld, tUn, rU, tCall, tMeth, tMake, tProp, iStr, iTup, iList, iRng1, iRng2, iEnumT,
    tPar, tPar3, gTup, gCons, gNil, gSub, gUnl, rSetL, rIxL, rIxT, rAppend, rExtend, tBM, tBM0, sFld, sFldAug, tSl, tPart, tNoPart, rSlL, rSlA, rSlT, tAug, ipI, t2I, rEq, rNe, scal, List.append_nil, List.cons_append, List.nil_append, List.getElem?_cons_zero, List.getElem?_cons_succ, List.set_cons_zero, List.set_cons_succ,
    List.map_cons, List.map_nil]
  try simp only [Option.some.injEq, exists_eq_left', exists_eq_left, exists_eq_right, exists_eq', V.int.injEq, V.str.injEq, V.bl.injEq, V.ref.injEq, List.cons.injEq, and_true, true_and, and_assoc, exists_and_left, exists_const, Bool.not_true, Bool.not_false, Bool.false_eq_true, if_true, if_false, ite_true, ite_false, decide_true, decide_false, reduceCtorEq, false_and, false_or, or_false, List.cons_ne_nil, exists_false, List.length_cons, List.length_nil, Nat.reduceAdd, Nat.zero_add, Int.cast_ofNat_Int, Int.reduceEq, Int.reduceLT, Int.reduceLE, Int.reduceAdd, Int.reduceSub, at0, at1, at2, eq_self, List.reverse_cons, List.reverse_nil]))

local macro_rules | `(tactic| walk_at "fd") => `(tactic| (
  repeat (first
    | (apply And.intro
       · first
         | assumption
         | exact sqT (by assumption)
         | exact sqL (by assumption)
         | exact .inl (sqL (by assumption))
         | exact .inr (sqT (by assumption))
         | exact atI_nat (by assumption)
         | exact at0
         | exact at1
         | exact at2
         | exact bxF_rows _ _ _ _
         | exact bxF_stages _ _ _ _
         | exact bxF_pols _ _ _ _
         | exact bxF_mode _ _ _ _
         | exact bxF_told _ _ _ _
         | exact bxF_holds _ _ _ _
         | exact bxF_touch _ _ _ _
         | exact bxF_fill _ _ _ _
         | exact bxF_ask _ _ _ _
         | exact bxF_go_down _ _ _ _
         | exact bxF_moment _ _ _ _
         | exact BK.c (by assumption)
         | exact BK.rows (by assumption)
         | exact BK.stages (by assumption)
         | exact BK.policies (by assumption)
         | exact BK.mode (by assumption)
         | rfl)
    | with_reducible apply Exists.intro)))

section
variable {P : Program} {w : World} {K : PySem.W.Frag} {mg : Str → Option Value} {base : Heap} {B C Vc : Addr}
theorem standK_fine {b : Bx Nm} (h : Only nameOk b) : Fine (standK b) := by
  have hn : ∀ l : List Nat, okK (.tup (nums l)) = true ∧ NestedKey.depth (.tup (nums l)) ≤ 3 := fun l => by
    refine ⟨okKs_all.mpr fun k hk => ?_, ?_⟩
    · obtain ⟨s, _, rfl⟩ := List.mem_map.mp hk; rfl
    · have : NestedKey.depthAll (nums l) ≤ 0 := depthAll_le fun k hk => by obtain ⟨s, _, rfl⟩ := List.mem_map.mp hk; simp [NestedKey.depth]
      simp only [NestedKey.depth]; omega
  have hr : ∀ row ∈ b.rw, okK (.tup (row.map optK)) = true ∧ NestedKey.depth (.tup (row.map optK)) ≤ 3 := fun row hrow => by
    refine ⟨okKs_all.mpr fun k hk => ?_, ?_⟩
    · obtain ⟨o, ho, rfl⟩ := List.mem_map.mp hk
      cases o with
      | none => rfl
      | some x => exact (h row hrow x ho).str
    · have : NestedKey.depthAll (row.map optK) ≤ 0 := depthAll_le fun k hk => by
        obtain ⟨o, _, rfl⟩ := List.mem_map.mp hk
        cases o <;> simp [optK, NestedKey.depth]
      simp only [NestedKey.depth]; omega
  have hlv : okK (lvK b) = true ∧ NestedKey.depth (lvK b) ≤ 10 := by
    refine ⟨okKs_all.mpr fun k hk => ?_, ?_⟩
    · obtain ⟨row, hrow, rfl⟩ := List.mem_map.mp hk; exact (hr row hrow).1
    · have : NestedKey.depthAll (b.rw.map fun r => NestedKey.tup (r.map optK)) ≤ 3 := depthAll_le fun k hk => by
        obtain ⟨row, hrow, rfl⟩ := List.mem_map.mp hk; exact (hr row hrow).2
      unfold lvK
      simp only [NestedKey.depth]; omega
  refine Fine.tup (n := 10) (fun k hk => ?_) (by decide)
  rcases List.mem_cons.mp hk with rfl | hk
  · exact ⟨(hn _).1, by have := (hn b.st).2; omega⟩
  · rw [List.mem_singleton.mp hk]; exact hlv
theorem len_rep {α : Type} (l : List α) : ∀ n : Nat, (List.replicate n l).flatten.length = n * l.length
  | 0 => by simp
  | n + 1 => by rw [List.replicate_succ, List.flatten_cons, List.length_append, len_rep l n, Nat.succ_mul]; omega
structure RtInv (H : Hp) (p a : Addr) (v : V) (i m : Nat) (gn : Int) (cq mq sl ul : Addr) (σ : L2.St) (H' : Hp) : Prop where
  s : ∃ x3 x12 x13, σ = [some (.ref p), some v, some (.ref a), x3, none, some (.int (i : Int)), some (.int ((m : Int) - (i : Int))), some (.int gn), some (.ref cq), some (.ref mq), some (.ref sl), some (.ref ul), x12, x13, none]
  hp : PoolAt H' p
  f : Fr (· = p) H H'
def rRepF : R2 := fun x y H Q => ∃ (l : Addr) (n : Nat) (xs : List V), x = .ref l ∧ y = .int (n : Int) ∧ H l = some (.tup xs) ∧ xs ≠ [] ∧ n ≤ 1000 ∧ xs.length ≤ 1000 ∧ ∀ q H', Fr F0 H H' → H' q = some (.tup (List.replicate n xs).flatten) → Q (.ref q) H'
theorem op_repF {X : Cx} : OpR X (binaryOp .Mult) rRepF := by
  intro pins s σ H x y v u Q I rx ry h
  obtain ⟨l, n, xs, rfl, rfl, e, hne, hn, hl, k⟩ := h
  refine op_repN pins s σ H _ _ v u Q I rx ry ⟨l, n, xs, rfl, rfl, sqT e, hne, hn, hl, fun h0 p hp => ?_, fun h1 => ?_, fun h2 p hp => k p _ (Fr.new _ hp) upd_same⟩
  · subst h0; exact k p _ (Fr.new _ hp) upd_same
  · subst h1
    refine k l H (Fr.refl _ _) ?_
    rw [e]; simp
theorem cutV_to {xs : List V} {n : Nat} (h : n ≤ xs.length) : cutV xs none (some (n : Int)) = xs.take n := by
  unfold cutV
  rw [HT.sIx_nat, HT.sIx_none, show min n xs.length = n by omega]
  simp
theorem cutV_from {xs : List V} {n : Nat} (h : n ≤ xs.length) : cutV xs (some (n : Int)) none = xs.drop n := by
  unfold cutV
  rw [HT.sIx_nat, HT.sIx_none, show min n xs.length = n by omega]
  rw [List.take_of_length_le (by rw [List.length_drop]; exact Nat.le_refl _)]
theorem far_sum2 {d : Dev} {r : List Nm} {b : Bx Nm} {i m t : Nat} (hi : i < m) (he : itB d r b i = itB d r b m) :
    ((itM d r b (i + t % (m - i)) : Nat) : Int) + ((t : Int) / ((m : Int) - (i : Int))) * (((itM d r b m : Nat) : Int) - ((itM d r b i : Nat) : Int)) = ((itM d r b (i + t) : Nat) : Int) := by
  have h0 : itB d r b (i + (m - i)) = itB d r b i := by rw [Nat.add_sub_cancel' (Nat.le_of_lt hi)]; exact he.symm
  have h1 := loop_M h0 (t / (m - i)) (t % (m - i))
  have h2 : t / (m - i) * (m - i) + t % (m - i) = t := by rw [Nat.mul_comm]; exact Nat.div_add_mod t (m - i)
  rw [h2, Nat.add_sub_cancel' (Nat.le_of_lt hi)] at h1
  have h3 := itM_mono d r b (Nat.le_of_lt hi)
  rw [h1, show (m : Int) - (i : Int) = ((m - i : Nat) : Int) by omega, show ((itM d r b m : Nat) : Int) - ((itM d r b i : Nat) : Int) = ((itM d r b m - itM d r b i : Nat) : Int) by omega, ← Int.natCast_ediv, ← Int.natCast_mul, ← Int.natCast_add]
theorem sums_tn (H : Hp) (f : Nat → Int) : ∀ n : List Nat, TNs H (n.map fun i => V.int (f i)) (n.map fun i => .num (f i))
  | [] => .nil
  | i :: n => .cons (.num _) (sums_tn H f n)
theorem ne_LL {K : PySem.W.Frag} {H : Hp} {o1 s1 u1 o2 s2 u2 : Addr} {vs1 vs2 us : List V} {A U : List NestedKey} {Q : VK} (e1 : H o1 = some (.lst [.ref s1, .ref u1])) (e2 : H o2 = some (.lst [.ref s2, .ref u2]))
    (es1 : H s1 = some (.lst vs1)) (t1 : TNs H vs1 A) (eu1 : H u1 = some (.lst us)) (tu : TNs H us U) (es2 : H s2 = some (.lst vs2)) (t2 : TNs H vs2 A) (eu2 : H u2 = some (.lst us)) (hA : ∀ k ∈ A, Fine k) (hU : ∀ k ∈ U, Fine k) (q : Q (.bl false) H) : rNeD K (.ref o1) (.ref o2) H Q := by
  have sh : SeqAt.shaped (.list [.list (NestedKey.datas A), .list (NestedKey.datas U)]) = true := by
    have h1 := depthAll_le fun k hk => (hA k hk).2
    have h2 := depthAll_le fun k hk => (hU k hk).2
    show (PyData.canLay0 _ && decide (PyData.depth _ ≤ 64)) = true
    rw [Bool.and_eq_true]
    refine ⟨?_, decide_eq_true ?_⟩
    · simp only [PyData.canLay0, PyData.canLayAll0]
      rw [okKs_lay, okKs_lay, okKs_all.mpr fun k hk => (hA k hk).1, okKs_all.mpr fun k hk => (hU k hk).1]; rfl
    · simp only [PyData.depth, PyData.depthAll]
      rw [depth_datas, depth_datas]
      omega
  refine ⟨_, _, .lst (sqL e1) (.cons (.lst (sqL es1) (TNs.dp A vs1 t1)) (.cons (.lst (sqL eu1) (TNs.dp U us tu)) .nil)), .lst (sqL e2) (.cons (.lst (sqL es2) (TNs.dp A vs2 t2)) (.cons (.lst (sqL eu2) (TNs.dp U us tu)) .nil)), sh, sh, ?_⟩
  have : PyData.eqv (.list [.list (NestedKey.datas A), .list (NestedKey.datas U)]) (.list [.list (NestedKey.datas A), .list (NestedKey.datas U)]) = true := by
    simp only [PyData.eqv, PyData.eqvAll, eqv_datas, NestedKey.beqAll_self, Bool.and_self]
  rw [this]; exact q
abbrev sRight : Stmt := (top 54)
abbrev sRightN : List Str := ["_law_pool_here", "_law_rig", "_law_ring", "_law_often", "_law_again", "_law_first", "_law_many", "_law_gone", "_law_cache", "_law_mate", "_law_stands", "_law_sums", "_law_whole", "_law_rest", "_law_at"]
theorem sRightS : FnScope sRightN ["_law_pool_here", "_law_rig", "_law_ring"] (defScope sRight) := ⟨rfl, rfl, rfl, by decide +kernel, rfl, by decide +kernel, by decide +kernel⟩
def spRight : Sp := fun vs H Q _ => ∃ (p a : Addr) (v : V) (d : Dev) (r names : List Nm), vs = [.ref p, v, .ref a] ∧ PoolAt H p ∧ TN H v (devK d) ∧ DevOk d ∧ H a = some (.tup (r.map V.str)) ∧ 1 ≤ r.length ∧ r.length ≤ 8 ∧ (∀ x ∈ r, nameOk x) ∧ names.length ≤ 6 ∧ (∀ x ∈ r, x ∈ names) ∧
  ∀ H', PoolAt H' p → Fr (· = p) H H' → Q (.bl true) H'
theorem ok_right {f : Addr} {fd : FuncData} (F : Fun K "_law_right" "_law_right" sRight f fd) (Bb : Bi mg) (cC : Cls K C) (D_long_run : Def P w K mg base "long_run" ["device", "circle"] 7 spLong) (D_Cache : CDef P w K mg base C "Cache" ["self", "device"] 7 (spCInit B C))
    (D_ValueCache : CDef P w K mg base Vc "ValueCache" ["self", "device", "load", "store"] 8 (spVInit K B Vc)) (D__law_give : Def P w K mg base "_law_give" ["_law_who"] 1 spGive) {kf : Addr} (mKeep : mg "_law_keep" = some (.ref kf))
    (hgF : PySem.W.typeIn K (.ref D__law_give.f) = some (.type "function")) (hkF : PySem.W.typeIn K (.ref kf) = some (.type "function"))
    (D_rC : Def P w K mg base "_law_rounds" ["_law_cache", "_law_ring", "_law_many"] 7 (spRounds (AtC B C))) (D_rV : Def P w K mg base "_law_rounds" ["_law_cache", "_law_ring", "_law_many"] 7 (spRounds (AtV B Vc D__law_give.f)))
    (D_count_misses : Def P w K mg base "count_misses" ["device", "names"] 8 spCnt) (D__law_draw : Def P w K mg base "_law_draw" ["_law_pool_here", "_law_most"] 1 spDraw) (D_far_misses : Def P w K mg base "far_misses" ["device", "ahead", "circle", "times"] 7 spFar)
    (D_twin : MDef P w K mg base C "twin" ["self"] 9 (spTwin B C)) : FnOk P w K mg base CX0 10 f fd ["_law_pool_here", "_law_rig", "_law_ring"] spRight := by
  refine F.ok sRightS (fun vs H Q E h => ?_) (fun cdv A outer s H vs Q E hr h => ?_)
  · obtain ⟨p, a, v, d, r, names, rfl, _⟩ := h
    rfl
  · obtain ⟨p, a, v, d, r, names, rfl, hp, tv, dok, ha, hr1, hr8, hrn, h6, hsub, kk⟩ := h
    have UU := hr.u65
    refine ⟨_, (pss_cons (ps_asg (pe_def D_long_run (hr.mono (by decide)) (by rfl) (pa_cons (pv 1) (pa_cons (pv 2) pa_nil))) (pg_tup rfl (pgs_cons (pg_name (i := 5) sRightS.nd rfl (Or.inl rfl)) (pgs_cons (pg_name (i := 6) sRightS.nd rfl (Or.inl rfl)) (pgs_cons (pg_name (i := 7) sRightS.nd rfl (Or.inl rfl)) pgs_nil)))))
      (pss_cons (ps_if (pt_cmpR op_gt (pe_op op_add (pv 5) (pv 6)) pe_int (nomark _)) (pss_one (ps_ret pe_bl)) pss_nil)
      (pss_cons (ps_par (i := 8) (j := 9) (by rfl) sRightS.nd rfl rfl (by decide) rfl rfl (pa_cons (pe_cdef D_Cache (hr.mono (by decide)) (by rfl) (pa_cons (pv 1) pa_nil)) (pa_cons (pe_cdef D_ValueCache (hr.mono (by decide)) (by rfl) (pa_cons (pv 1) (pa_cons (pe_glob (v := .ref D__law_give.f) (by rfl) D__law_give.m rfl) (pa_cons (pe_glob (v := .ref kf) (by rfl) mKeep rfl) pa_nil)))) pa_nil)) (by rfl))
      (pss_cons (ps_asg (pe_def D_rC (hr.mono (by decide)) (by rfl) (pa_cons (pv 8) (pa_cons (pv 2) (pa_cons (pe_op op_add (pv 5) (pv 6)) pa_nil)))) (pg_unl rfl (pgs_cons (pg_name (i := 10) sRightS.nd rfl (Or.inr rfl)) (pgs_cons (pg_name (i := 11) sRightS.nd rfl (Or.inl rfl)) pgs_nil))))
      (pss_cons (ps_if (PW.pt (pw_or (pt_cmpR (op_neD hr.units) (pe_ix ix_list (pv 10) (pv 5) (fun _ _ => rfl)) (pe_ix ix_list (pv 10) (pe_op op_add (pv 5) (pv 6)) (fun _ _ => rfl)) (nomark _)) (pw_or (pt_cmpR op_ne (pe_op op_sub (pe_ix ix_list (pv 11) (pe_op op_add (pv 5) (pv 6)) (fun _ _ => rfl)) (pe_ix ix_list (pv 11) (pv 5) (fun _ _ => rfl))) (pv 7) (nomark _)) (pw_or1 (pt_cmpR op_lt (pv 6) pe_int (nomark _)))))) (pss_one (ps_ret pe_bl)) pss_nil)
      (pss_cons (ps_if (pt_cmpR op_in_seq pe_bl (pe_lc (own := [("_law_at", 14)]) (g := gName 14) (tt := tYes) rfl sRightS.nd (pi_range1 (by rfl) Bb.range (pa_cons (pe_op op_add (pv 5) (pv 6)) pa_nil)) (blkOk_by (N := sRightN) (sc := (defScope sRight)) (by decide +kernel)) (fun _ _ _ _ _ => pg_name (i := 14) sRightS.nd rfl (Or.inl rfl)) (fun _ _ _ _ _ => pts_nil) (fun _ _ _ _ _ => (pe_cmpR (k_inD (K := K) rfl UU) (pe_ix (k_ixl (K := K) rfl) (pv 10) (pv 14) (fun _ _ => rfl)) (pe_slice (k_sll (K := K) rfl) (pv 10) po_none (po_some (pv 14))) rfl))) rfl) (pss_one (ps_ret pe_bl)) pss_nil)
      (pss_cons (ps_if (PW.pt (pw_or (pt_cmpR (op_neD hr.units) (pe_def D_rV (hr.mono (by decide)) (by rfl) (pa_cons (pv 9) (pa_cons (pv 2) (pa_cons (pe_op op_add (pv 5) (pv 6)) pa_nil)))) (pe_lst (pa_cons (pv 10) (pa_cons (pv 11) pa_nil))) (nomark _)) (pw_or1 (pt_cmpR op_ne (pe_def D_count_misses (hr.mono (by decide)) (by rfl) (pa_cons (pv 1) (pa_cons (pe_op op_repF (pv 2) (pv 5)) pa_nil))) (pe_ix ix_list (pv 11) (pv 5) (fun _ _ => rfl)) (nomark _))))) (pss_one (ps_ret pe_bl)) pss_nil)
      (pss_cons (ps_for PassesOwn.never rfl (pi_list (pe_lst (pa_cons (pe_def D__law_draw (hr.mono (by decide)) (by rfl) (pa_cons (pv 0) (pa_cons pe_int pa_nil))) (pa_cons (pe_op op_add (pe_op op_pow pe_int pe_int) (pe_def D__law_draw (hr.mono (by decide)) (by rfl) (pa_cons (pv 0) (pa_cons (pe_op op_pow pe_int pe_int) pa_nil)))) (pa_cons (pe_op op_sub (pe_op op_sub (pe_op op_pow pe_int pe_int) (pv 5)) (pe_def D__law_draw (hr.mono (by decide)) (by rfl) (pa_cons (pv 0) (pa_cons pe_int pa_nil)))) pa_nil))))) (pg_name (i := 3) sRightS.nd rfl (Or.inl rfl)) (pss_cons (ps_asg (pe_callB (id := "divmod") call_divmod (by rfl) Bb.divmod (by decide +kernel) (pa_cons (pv 3) (pa_cons (pv 6) pa_nil))) (pg_tup rfl (pgs_cons (pg_name (i := 12) sRightS.nd rfl (Or.inl rfl)) (pgs_cons (pg_name (i := 13) sRightS.nd rfl (Or.inl rfl)) pgs_nil))))
      (pss_one (ps_if (pt_cmpR op_ne (pe_def D_far_misses (hr.mono (by decide)) (by rfl) (pa_cons (pv 1) (pa_cons (pe_tup pa_nil) (pa_cons (pv 2) (pa_cons (pe_op op_add (pv 5) (pv 3)) pa_nil))))) (pe_op op_add (pe_ix ix_list (pv 11) (pe_op op_add (pv 5) (pv 13)) (fun _ _ => rfl)) (pe_op op_mulW (pv 12) (pv 7))) (nomark _)) (pss_one (ps_ret pe_bl)) pss_nil))))
      (pss_cons (ps_set (i := 4) sRightS.nd rfl (Or.inl rfl) (pe_def D_rC (hr.mono (by decide)) (by rfl) (pa_cons (pe_mdef0 (pv 8) cC D_twin (hr.mono (by decide))) (pa_cons (pv 2) (pa_cons (pv 6) pa_nil)))))
      (pss_one (ps_ret (pe_and (pe_cmpR (op_eqD hr.units) (pe_ix ix_list (pv 4) pe_int (fun _ _ => rfl)) (pe_slice sl_list (pv 10) (po_some (pv 5)) po_none) (nomark _)) (pe_one (pe_cmpR op_eq (pe_op op_sub (pe_ix ix_list (pe_ix ix_list (pv 4) pe_int (fun _ _ => rfl)) (pe_un un_neg pe_int) (fun _ _ => rfl)) (pe_ix ix_list (pe_ix ix_list (pv 4) pe_int (fun _ _ => rfl)) pe_int (fun _ _ => rfl))) (pv 7) (nomark _))))))))))))))), ?_⟩
    rw [show L2.start sRightN [.ref p, v, .ref a] = [some (.ref p), some v, some (.ref a), none, none, none, none, none, none, none, none, none, none, none, none] from rfl]
    walk_at "rd"
    refine ⟨v, a, d, r, names, rfl, tv, dok, ha, by omega, hrn, h6, hsub, fun q i m H1 eq him hm4 heq hdis f1 => ?_⟩
    walk_at "rd"
    refine ⟨_, sqT eq, rfl, ?_⟩
    walk_at "rd"
    rw [show (i : Int) + ((m : Int) - (i : Int)) = (m : Int) by omega]
    by_cases h150 : (150 : Int) < (m : Int)
    · rw [decide_eq_true h150, if_pos rfl]
      exact kk H1 (hp.up f1 id) f1.any
    rw [decide_eq_false h150, if_neg (by decide)]
    have hm150 : m ≤ 150 := by omega
    intro cq cdx hcq hcdx cne
    have f2 := fr_make (o1 := .own cq) (o2 := .ins C cdx []) hcq hcdx cne
    refine ⟨cq, cdx, v, d, rfl, upd_same, tv.up (f1.trans f2).tk, dok, fun H3 p1 ls lr ll ca f3 g1 g2 g3 g4 => ⟨rfl, fun mq mdx hmq hmdx mne => ?_⟩⟩
    have f13 : Fr F0 H1 H3 := f2.after f3 fun c z => by rw [z]; exact hcq
    have F03 := f1.trans f13
    have hOwn : ∀ c, OwnG cq p1 ls lr ll c → H c = none := by
      rintro c (z | z | z | z | z)
      · rw [z]; exact f1.dom _ hcq
      · rw [z]; exact f1.dom _ (f2.dom _ g1)
      · rw [z]; exact f1.dom _ (f2.dom _ g2)
      · rw [z]; exact f1.dom _ (f2.dom _ g3)
      · exact f1.dom _ (f2.dom _ (g4 c z))
    have f4 := fr_make (o1 := .own mq) (o2 := .ins Vc mdx []) hmq hmdx mne
    refine ⟨mq, mdx, v, d, D__law_give.f, kf, rfl, upd_same, tv.up (F03.trans f4).tk, dok, hgF, hkF, fun H5 p2 ls2 lr2 ll2 wd fd va f5 hfr => ⟨rfl, ?_⟩⟩
    have f35 : Fr F0 H3 H5 := f4.after f5 fun c z => by rw [z]; exact hmq
    have F05 := F03.trans f35
    have ca5 := ca.up0 f35
    refine ⟨cq, a, m, d, empty d, 0, 0, _, r, rfl, ⟨v, p1, ls, lr, ll, ca5, rfl⟩, F05.tk _ _ ha, hr8, hrn, hm150, by decide, fun o sl ul vs n6 G6 H6 eo esl ts eul at6 hn6 f6 hG6 hsl hul ho => ?_⟩
    have F06 : Fr F0 H H6 := F05.after f6 hOwn
    have hmateN : ∀ c, OwnV mq p2 ls2 lr2 ll2 wd fd c → H3 c = none := fun c z => by
      rcases hfr c z with h | h
      · rw [h]; exact hmq
      · exact f4.dom _ h
    have va6 := va.up f6 fun c z1 z2 => ca.dom (hmateN c z1) z2
    have only : ∀ j, Only nameOk (itB d r (empty d) j) := fun j => itB_only hrn (only_empty _ _) j
    have fineS : ∀ j, Fine (standK (itB d r (empty d) j)) := fun j => standK_fine (only j)
    have gS : ∀ j, j ≤ m → ((List.range (m + 1)).map fun i => standK (itB d r (empty d) i))[j]? = some (standK (itB d r (empty d) j)) := fun j hj => by
      rw [List.getElem?_map, List.getElem?_range (by omega)]; rfl
    have gU : ∀ j, j ≤ m → ((List.range (m + 1)).map fun i => V.int ((0 + itM d r (empty d) i : Nat) : Int))[j]? = some (V.int ((itM d r (empty d) j : Nat) : Int)) := fun j hj => by
      rw [List.getElem?_map, List.getElem?_range (by omega)]
      show some (V.int ((0 + itM d r (empty d) j : Nat) : Int)) = _
      rw [Nat.zero_add]
    obtain ⟨z1, hz1, tz1⟩ := ts.get (gS i (Nat.le_of_lt him))
    obtain ⟨z2, hz2, tz2⟩ := ts.get (gS m (Nat.le_refl m))
    refine ⟨o, rfl, _, sqL eo, rfl, _, _, rfl, _, _, rfl, rfl, sl, rfl, _, sqL esl, z1, atI_nat hz1, sl, rfl, _, sqL esl, z2, atI_nat hz2, ?_⟩
    refine ne_K tz1 tz2 (fineS i) (fineS m) ?_
    rw [heq, show (!decide (standK (itB d r (empty d) m) = standK (itB d r (empty d) m))) = false by simp]
    walk_at "rd"
    refine ⟨_, sqL eul, _, atI_nat (gU m (Nat.le_refl m)), _, sqL eul, _, atI_nat (gU i (Nat.le_of_lt him)), _, rfl, _, rfl, ?_⟩
    rw [show (!decide (((itM d r (empty d) m : Nat) : Int) - ((itM d r (empty d) i : Nat) : Int) = ((itM d r (empty d) m : Nat) : Int) - ((itM d r (empty d) i : Nat) : Int))) = false by simp, if_neg (by decide), decide_eq_false (show ¬ (m : Int) - (i : Int) < 1 by omega), if_neg (by decide)]
    refine tlc rfl ?_
    walk_at "rd"
    rw [show (i : Int) + ((m : Int) - (i : Int)) = (m : Int) by omega]
    refine ⟨by omega, by omega, ?_⟩
    have hvl : vs.length = m + 1 := by rw [ts.length, List.length_map, List.length_range]
    have finesA : ∀ (l : List Nat), ∀ k ∈ l.map (fun i => standK (itB d r (empty d) i)), Fine k := fun l k hk => by obtain ⟨j, _, rfl⟩ := List.mem_map.mp hk; exact fineS j
    refine lc_fr (walk_range (lo := 0) (n := (m : Int).toNat)) F0 (fun D j acc H' => acc = (List.replicate j false).map V.bl) (fun _ _ _ _ _ _ => trivial) (fun _ _ => rfl) ?_ ?_
    · rintro D j y H7 H8 acc hD hj el fr rfl e ⟨rfl, rfl⟩
      have hj' : j < m := by omega
      rw [show (fun i : Nat => V.int (0 + (i : Int))) = fun i : Nat => V.int (i : Int) from funext fun i => by rw [Int.zero_add]]
      walk_at "rd"
      obtain ⟨zj, hzj, tzj⟩ := ts.get (gS j (Nat.le_of_lt hj'))
      have esl8 := fr.keep _ _ esl id
      refine ⟨_, sqL esl8, _, atI_nat hzj, _, sqL esl8, fun c hc => ?_⟩
      rw [cutV_to (by rw [hvl]; omega)]
      have g : Fr F0 H8 (upd H8 c (.lst (vs.take j))) := Fr.new _ hc
      have tt := ((ts.take j).up fr.tk).up g.tk
      rw [← List.map_take, List.take_range, show min j (m + 1) = j by omega] at tt
      refine in_K ((tzj.up fr.tk).up g.tk) upd_same tt (fineS j) (finesA _) ?_
      rw [decide_eq_false]
      · refine LcQ.mk hD (g.keep _ _ e id) el (Nat.lt_of_lt_of_le (show j < 151 by omega) (by decide)) (fr.trans g) ?_
        rw [List.replicate_succ', List.map_append]; rfl
      · intro hmem
        obtain ⟨l, hl, he⟩ := List.mem_map.mp hmem
        exact hdis l j (List.mem_range.mp hl) hj' (standK_inj he)
    rintro D acc H7 hD el fr rfl e
    refine ⟨D, _, rfl, .inl (sqL e), rfl, ?_, false, ?_, ?_⟩
    · rw [List.all_eq_true]; intro x hx
      obtain ⟨b0, _, rfl⟩ := List.mem_map.mp hx; rfl
    · rw [if_neg (by decide)]
      congr 1
      unfold inV
      rw [List.any_eq_false]
      intro x hx
      obtain ⟨b0, hb, rfl⟩ := List.mem_map.mp hx
      rw [List.eq_of_mem_replicate hb]
      decide
    rw [if_neg (by decide)]
    have va7 := va6.up fr fun _ _ => id
    have F07 := F06.trans fr
    refine ⟨mq, a, m, d, empty d, 0, 0, _, r, rfl, ⟨v, p2, ls2, lr2, ll2, kf, wd, fd, [], va7, rfl⟩, F07.tk _ _ ha, hr8, hrn, hm150, by decide, fun o2 sl2 ul2 vs2 n7 G7 H8 eo2 esl2 ts2 eul2 at7 hn7 f8 hG7 hsl2 hul2 ho2 => ⟨by decide, fun pl hpl => ?_⟩⟩
    have vdom : ∀ c, H5 c = none → ¬ OwnV mq p2 ls2 lr2 ll2 wd fd c := fun c h => (sysV (B := B) (C := Vc) (g := D__law_give.f)).dom ⟨v, p2, ls2, lr2, ll2, kf, wd, fd, [], va, rfl⟩ h
    have F08 : Fr F0 H H8 := F07.after f8 fun c z => F03.dom _ (hmateN c z)
    have g9 : Fr F0 H8 (upd H8 pl (.lst [.ref sl, .ref ul])) := Fr.new _ hpl
    have epl : upd H8 pl (.lst [.ref sl, .ref ul]) pl = _ := upd_same
    generalize upd H8 pl (.lst [.ref sl, .ref ul]) = H9 at g9 epl ⊢
    have keep79 : ∀ c u, H7 c = some u → ¬ OwnV mq p2 ls2 lr2 ll2 wd fd c → H9 c = some u := fun c u h n => g9.keep _ _ (f8.keep _ _ h n) id
    have esl9 := keep79 sl _ (fr.keep _ _ esl id) (vdom _ hsl)
    have eul9 := keep79 ul _ (fr.keep _ _ eul id) (vdom _ hul)
    have T69 : Tk H6 H9 := fr.tk.trans (f8.tk.trans g9.tk)
    refine ne_LL (g9.keep _ _ eo2 id) epl (g9.keep _ _ esl2 id) (ts2.up g9.tk) (g9.keep _ _ eul2 id) (sums_tn H9 (fun i => ((0 + itM d r (empty d) i : Nat) : Int)) (List.range (m + 1))) esl9 (ts.up T69) eul9 (finesA _) (fun k hk => ?_) ⟨false, rfl, ?_⟩
    · obtain ⟨j, _, rfl⟩ := List.mem_map.mp hk
      exact ⟨rfl, by simp [NestedKey.depth]⟩
    rw [if_neg (by decide)]
    have F09 := F08.trans g9
    have hrl : (r.map V.str).length ≤ 1000 := by rw [List.length_map]; omega
    refine ⟨a, i, r.map V.str, rfl, rfl, F09.tk _ _ ha, ?_, by omega, hrl, fun T H10 f10 eT => ?_⟩
    · intro z; rw [List.map_eq_nil_iff] at z; rw [z] at hr1; simp at hr1
    have F010 := F09.trans f10
    refine ⟨v, T, d, (List.replicate i r).flatten, rfl, tv.up F010.tk, dok, ?_, ?_, fun x hx => ?_, fun H11 f11 => ?_⟩
    · rw [eT, List.map_flatten, List.map_replicate]
    · rw [len_rep]
      exact Nat.le_trans (Nat.mul_le_mul (show i ≤ 150 by omega) hr8) (by decide)
    · obtain ⟨l, hl, hx'⟩ := List.mem_flatten.mp hx
      rw [List.eq_of_mem_replicate hl] at hx'
      exact hrn x hx'
    have f911 := f10.trans f11
    have eul11 := f911.keep _ _ eul9 id
    have esl11 := f911.keep _ _ esl9 id
    walk_at "rd"
    refine ⟨_, sqL eul11, _, atI_nat (gU i (Nat.le_of_lt him)), rfl, ?_⟩
    rw [(run_rep d r (empty d) i).2, show (!decide (V.int ((itM d r (empty d) i : Nat) : Int) = V.int ((itM d r (empty d) i : Nat) : Int))) = false by simp, if_neg (by decide)]
    have F011 := F010.trans f11
    have hp11 := hp.up F011 id
    refine ⟨.ref p, rfl, p, 40, rfl, hp11, by decide, by decide, fun w1 H12 hw1 hp12 f12 => ?_⟩
    refine ⟨10, 18, rfl, rfl, ⟨by decide, by decide, by decide⟩, .ref p, rfl, 10, 6, rfl, rfl, ⟨by decide, by decide, by decide⟩, p, 1000000, rfl, hp12, by decide, by decide, fun w2 H13 hw2 hp13 f13 => ?_⟩
    refine ⟨10 ^ (18 : Int).toNat, (w2 : Int), rfl, rfl, ?_⟩
    refine ⟨10, 30, rfl, rfl, ⟨by decide, by decide, by decide⟩, .int (i : Int), rfl, _, _, rfl, rfl, .ref p, rfl, p, 100, rfl, hp13, by decide, by decide, fun w3 H14 hw3 hp14 f14 => ?_⟩
    refine ⟨_, _, rfl, rfl, by show (3 : Nat) ≤ sizeLine; decide, fun la hla => ?_⟩
    have F1114 : Fr (· = p) H11 H14 := (f12.trans f13).trans f14
    have np : ∀ c o, H11 c = some o → (∀ xs, o ≠ .lst xs) → c ≠ p := fun c o h1 h2 z => by
      obtain ⟨_, _, _, e, _⟩ := hp11; rw [z, e] at h1; exact h2 _ (Option.some.inj h1).symm
    have g15 : Fr F0 H14 (upd H14 la (.lst [.int (w1 : Int), .int (10 ^ (18 : Int).toNat + (w2 : Int)), .int (10 ^ (30 : Int).toNat - (i : Int) - (w3 : Int))])) := Fr.new _ hla
    have e15 : upd H14 la (.lst [.int (w1 : Int), .int (10 ^ (18 : Int).toNat + (w2 : Int)), .int (10 ^ (30 : Int).toNat - (i : Int) - (w3 : Int))]) la = _ := upd_same
    have nla : la ≠ p := fun z => by obtain ⟨_, _, _, e, _⟩ := hp14; rw [z, e] at hla; cases hla
    refine ⟨la, rfl, ⟨_, sqL e15⟩, ?_⟩
    have hp15 := hp14.up g15 id
    generalize upd H14 la (.lst [.int (w1 : Int), .int (10 ^ (18 : Int).toNat + (w2 : Int)), .int (10 ^ (30 : Int).toNat - (i : Int) - (w3 : Int))]) = H15 at g15 e15 hp15 ⊢
    have F1115 : Fr (· = p) H11 H15 := F1114.trans g15.any
    have nulp : ul ≠ p := fun z => by obtain ⟨_, _, _, e, _⟩ := hp; rw [← z, F05.dom _ hul] at e; cases e
    have nslp : sl ≠ p := fun z => by obtain ⟨_, _, _, e, _⟩ := hp; rw [← z, F05.dom _ hsl] at e; cases e
    refine for_list (K := K) (xs := [.int (w1 : Int), .int (10 ^ (18 : Int).toNat + (w2 : Int)), .int (10 ^ (30 : Int).toNat - (i : Int) - (w3 : Int))]) (fun k σ H' => RtInv H15 p a v i m (((itM d r (empty d) m : Nat) : Int) - ((itM d r (empty d) i : Nat) : Int)) cq mq sl ul σ H') ⟨⟨_, _, _, rfl⟩, hp15, Fr.refl _ _⟩ (fun k σ H' _ hh => sqL (hh.f.keep _ _ e15 nla)) ?_ ?_
    · rintro k x σ H16 hx ⟨⟨x3, x12, x13, rfl⟩, hp16, f16⟩
      have e18 : (10 : Int) ^ (18 : Int).toNat = 1000000000000000000 := by decide
      have e30 : (10 : Int) ^ (30 : Int).toNat = 1000000000000000000000000000000 := by decide
      rw [e18, e30] at hx
      obtain ⟨t, rfl, ht⟩ : ∃ t : Nat, x = .int (t : Int) ∧ i + t ≤ 1000000000000000000000000000000 := by
        match k, hx with
        | 0, hx => cases hx; exact ⟨w1, rfl, by omega⟩
        | 1, hx => cases hx; exact ⟨1000000000000000000 + w2, by congr 1 <;> omega, by omega⟩
        | 2, hx => cases hx; exact ⟨1000000000000000000000000000000 - i - w3, by congr 1 <;> omega, by omega⟩
      walk_at "rd"
      refine ⟨⟨by omega, by omega⟩, fun T hT => ?_⟩
      have g17 : Fr F0 H16 (upd H16 T (.tup [.int ((t : Int) / ((m : Int) - (i : Int))), .int ((t : Int) % ((m : Int) - (i : Int)))])) := Fr.new _ hT
      have eT17 : upd H16 T (.tup [.int ((t : Int) / ((m : Int) - (i : Int))), .int ((t : Int) % ((m : Int) - (i : Int)))]) T = _ := upd_same
      generalize upd H16 T (.tup [.int ((t : Int) / ((m : Int) - (i : Int))), .int ((t : Int) % ((m : Int) - (i : Int)))]) = H17 at g17 eT17 ⊢
      refine ⟨_, sqT eT17, rfl, _, _, rfl, _, _, rfl, rfl, by decide, fun ee hee => ?_⟩
      have g18 : Fr F0 H17 (upd H17 ee (.tup [])) := Fr.new _ hee
      have e18' : upd H17 ee (.tup []) ee = _ := upd_same
      generalize upd H17 ee (.tup []) = H18 at g18 e18' ⊢
      have F1118 : Fr (· = p) H11 H18 := ((F1115.trans f16).trans g17.any).trans g18.any
      have F018 : Tk H H18 := F011.tk.trans F1118.tk
      refine ⟨v, ee, a, i + t, d, r, names, by rw [Int.natCast_add], tv.up F018, dok, e18', F018 _ _ ha, by omega, hrn, h6, hsub, ht, fun H19 f19 => ?_⟩
      have eul19 := f19.keep _ _ (F1118.keep _ _ eul11 nulp) id
      have hlt : t % (m - i) < m - i := Nat.mod_lt _ (by omega)
      have eir : (i : Int) + (t : Int) % ((m : Int) - (i : Int)) = ((i + t % (m - i) : Nat) : Int) := by
        rw [show (m : Int) - (i : Int) = ((m - i : Nat) : Int) by omega, ← Int.natCast_emod]; omega
      have air := atI_nat (gU (i + t % (m - i)) (by omega))
      rw [← eir] at air
      have hmi := itM_mono d r (empty d) (Nat.le_of_lt him)
      have hle : itM d r (empty d) m ≤ 1200 := Nat.le_trans (itM_le d r (empty d) m) (Nat.le_trans (Nat.mul_le_mul hm150 hr8) (by decide))
      have hq0 : 0 ≤ (t : Int) / ((m : Int) - (i : Int)) := Int.ediv_nonneg (by omega) (by omega)
      have hq1 : (t : Int) / ((m : Int) - (i : Int)) ≤ (t : Int) := Int.ediv_le_self _ (by omega)
      refine ⟨_, rfl, _, sqL eul19, _, air, _, rfl, wide_mul (a := 100) (b := 40) (lt_two _ _ hq0 ?_) (lt_two _ _ (by omega) ?_) (by decide) (by decide) (by decide), _, rfl, rfl, ?_⟩
      · exact Int.lt_of_le_of_lt (b := 1000000000000000000000000000000) (by omega) (by decide)
      · exact Int.lt_of_le_of_lt (b := 1200) (by omega) (by decide)
      rw [far_sum2 him heq, show ∀ z : Int, (!decide (V.int z = V.int z)) = false from fun z => by simp, if_neg (by decide)]
      have f1619 : Fr (· = p) H16 H19 := (g17.any.trans g18.any).trans f19.any
      exact ⟨⟨_, _, _, rfl⟩, hp16.up ((g17.trans g18).trans f19) id, f16.trans f1619⟩
    · rintro σ H16 ⟨⟨x3, x12, x13, rfl⟩, hp16, f16⟩
      walk_at "rd"
      have F1116 : Fr (· = p) H11 H16 := F1115.trans f16
      have hp0 : ∀ c, H c = none → c ≠ p := fun c h z => by obtain ⟨_, _, _, e, _⟩ := hp; rw [z, e] at h; cases h
      have hG6n : ∀ c, G6 c → H c = none := fun c z => (hG6 c z).elim (hOwn c) (F05.dom c)
      have hG6v : ∀ c, G6 c → ¬ OwnV mq p2 ls2 lr2 ll2 wd fd c := fun c z z2 => (hG6 c z).elim (fun h => ca.dom (hmateN c z2) h) fun h => vdom c h z2
      have at16 := sysC.up (sysC.up (sysC.up (sysC.up at6 fr fun _ _ => id) f8 hG6v) (g9.trans f911) fun _ _ => id) F1116 fun c z => hp0 c (hG6n c z)
      obtain ⟨v', p', ls', lr', ll', ca16, hGe⟩ := at16
      obtain ⟨dx16, ob16⟩ := ca16.ob
      have esl16 := F1116.keep _ _ esl11 nslp
      refine ⟨_, _, ob16, caF_twin _ _ _ _, cq, d, _, n6, _, v', p', ls', lr', ll', rfl, ca16, fun H17 q' p'' ls'' lr'' ll'' ca17 f17 hfr17 => ?_⟩
      have F1117 : Fr (· = p) H11 H17 := F1116.trans f17.any
      have F017 : Tk H H17 := F011.tk.trans F1117.tk
      refine ⟨q', a, m - i, d, _, n6, _, _, r, by rw [show (m : Int) - (i : Int) = ((m - i : Nat) : Int) by omega], ⟨v', p'', ls'', lr'', ll'', ca17, rfl⟩, F017 _ _ ha, hr8, hrn, by omega, ?_, fun o3 sl3 ul3 vs3 n3 G3 H18 eo3 esl3 ts3 eul3 at3 hn3 f18 hG3 hsl3 hul3 ho3 => ?_⟩
      · have : m * r.length ≤ 150 * 8 := Nat.mul_le_mul hm150 hr8
        omega
      have esl17 := f17.keep _ _ esl16 id
      have esl18 := f18.keep _ _ esl17 fun z => by rw [hfr17 _ z] at esl16; cases esl16
      refine ⟨o3, rfl, _, sqL eo3, _, at0, _, sqL esl18, fun c hc => ?_⟩
      rw [cutV_from (show i ≤ vs.length by rw [hvl]; omega)]
      have g19 : Fr F0 H18 (upd H18 c (.lst (vs.drop i))) := Fr.new _ hc
      have ec : upd H18 c (.lst (vs.drop i)) c = _ := upd_same
      generalize upd H18 c (.lst (vs.drop i)) = H19 at g19 ec ⊢
      have T619 : Tk H6 H19 := T69.trans ((f911.tk.trans F1117.tk).trans (f18.tk.trans g19.tk))
      have hkeys : ((List.range (m + 1)).map fun i => standK (itB d r (empty d) i)).drop i = (List.range (m - i + 1)).map fun j => standK (itB d r (itB d r (empty d) m) j) := by
        refine List.ext_getElem? fun j => ?_
        rw [List.getElem?_drop, List.getElem?_map, List.getElem?_map]
        rcases Nat.lt_or_ge j (m - i + 1) with h | h
        · rw [List.getElem?_range (by omega), List.getElem?_range h]
          show some (standK (itB d r (empty d) (i + j))) = some (standK (itB d r (itB d r (empty d) m) j))
          rw [itB_add, heq]
        · rw [List.getElem?_eq_none (by rw [List.length_range]; omega), List.getElem?_eq_none (by rw [List.length_range]; omega)]; rfl
      have tdrop := (ts.up T619).drop i
      rw [hkeys] at tdrop
      have fines3 : ∀ k ∈ (List.range (m - i + 1)).map (fun j => standK (itB d r (itB d r (empty d) m) j)), Fine k := fun k hk => by
        obtain ⟨j, _, rfl⟩ := List.mem_map.mp hk
        exact standK_fine (itB_only hrn (only m) j)
      refine eqL_K (g19.keep _ _ esl3 id) (ts3.up g19.tk) ec tdrop fines3 fines3 ⟨true, by simp, ?_⟩
      walk_at "rd"
      have eo19 := g19.keep _ _ eo3 id
      have eul19 := g19.keep _ _ eul3 id
      have hlast : atI ((List.range (m - i + 1)).map fun j => V.int ((0 + itM d r (empty d) m + itM d r (itB d r (empty d) m) j : Nat) : Int)) (-1) = some (V.int ((0 + itM d r (empty d) m + itM d r (itB d r (empty d) m) (m - i) : Nat) : Int)) := by
        rw [List.range_succ, List.map_append]
        exact atI_last
      have hfirst : atI ((List.range (m - i + 1)).map fun j => V.int ((0 + itM d r (empty d) m + itM d r (itB d r (empty d) m) j : Nat) : Int)) 0 = some (V.int ((0 + itM d r (empty d) m + itM d r (itB d r (empty d) m) 0 : Nat) : Int)) := by
        refine atI_nat (j := 0) ?_
        rw [List.getElem?_map, List.getElem?_range (by omega)]; rfl
      refine ⟨_, sqL eo19, _, at1, _, rfl, _, sqL eul19, _, hlast, _, sqL eo19, _, at1, _, rfl, _, sqL eul19, _, hfirst, _, rfl, _, rfl, ?_⟩
      have hsum := itM_add d r (empty d) i (m - i)
      rw [Nat.add_sub_cancel' (Nat.le_of_lt him), heq] at hsum
      have h00 : itM d r (itB d r (empty d) m) 0 = 0 := rfl
      rw [decide_eq_true (show ((0 + itM d r (empty d) m + itM d r (itB d r (empty d) m) (m - i) : Nat) : Int) - ((0 + itM d r (empty d) m + itM d r (itB d r (empty d) m) 0 : Nat) : Int) = ((itM d r (empty d) m : Nat) : Int) - ((itM d r (empty d) i : Nat) : Int) by rw [h00]; omega)]
      have F016 : Fr (· = p) H H16 := F011.any.trans F1116
      have hp16' : ∀ c, H16 c = none → c ≠ p := fun c h z => by obtain ⟨_, _, _, e, _⟩ := hp16; rw [z, e] at h; cases h
      refine kk H19 (((hp16.up f17 id).up f18 fun z => hp16' _ (hfr17 _ z) rfl).up g19 id) (((F016.trans f17.any).after' f18 fun c z => F016.dom _ (hfr17 c z)).trans g19.any)
end
end K53
end
section
set_option Elab.async false
set_option linter.all false
set_option maxRecDepth 100000
set_option maxHeartbeats 4000000
set_option pp.maxSteps 2500
namespace K53
open PySem PySem.Spec PyProof.Rows L2
local macro_rules | `(tactic| walk_at "rd") => `(tactic| (
  try dsimp only [tSeq, tIfS, tOr, tAnd, tNot, tNotV, tAndV, tOrV, tB, tCB, tCons, tNil, tVar, tC, tTest, tChain, tRet, tRetN, tNext, tOp, rI0, rI, tAsg, gName, tDrop, tIf, tTup, tLst, tFld, tUn, rU, tCall, tMeth, tMake, tProp, iStr, iTup, iList, iRng1, iRng2, iEnumT,
    tPar, tPar3, gTup, gCons, gNil, gSub, gUnl, rSetL, rIxL, rIxT, rAppend, rExtend, tBM, tBM0, sFld, sFldAug, tSl, tPart, tNoPart, rSlL, rSlA, rSlT, tAug, ipI, t2I, rEq, rNe, scal, List.append_nil, List.cons_append, List.nil_append, List.getElem?_cons_zero, List.getElem?_cons_succ, List.set_cons_zero, List.set_cons_succ,
    List.map_cons, List.map_nil]
  try simp only [Option.some.injEq, exists_eq_left', exists_eq_left, exists_eq_right, exists_eq', V.int.injEq, V.str.injEq, V.bl.injEq, V.ref.injEq, List.cons.injEq, and_true, true_and, and_assoc, exists_and_left, exists_const, Bool.not_true, Bool.not_false, Bool.false_eq_true, if_true, if_false, ite_true, ite_false, decide_true, decide_false, reduceCtorEq, false_and, false_or, or_false, List.cons_ne_nil, exists_false, List.length_cons, List.length_nil, Nat.reduceAdd, Nat.zero_add, Int.cast_ofNat_Int, Int.reduceEq, Int.reduceLT, Int.reduceLE, Int.reduceAdd, Int.reduceSub, at0, at1, at2, eq_self, List.reverse_cons, List.reverse_nil]))

local macro_rules | `(tactic| walk_at "fd") => `(tactic| (
  repeat (first
    | (apply And.intro
       · first
         | assumption
         | exact sqT (by assumption)
         | exact sqL (by assumption)
         | exact .inl (sqL (by assumption))
         | exact .inr (sqT (by assumption))
         | exact atI_nat (by assumption)
         | exact at0
         | exact at1
         | exact at2
         | exact bxF_rows _ _ _ _
         | exact bxF_stages _ _ _ _
         | exact bxF_pols _ _ _ _
         | exact bxF_mode _ _ _ _
         | exact bxF_told _ _ _ _
         | exact bxF_holds _ _ _ _
         | exact bxF_touch _ _ _ _
         | exact bxF_fill _ _ _ _
         | exact bxF_ask _ _ _ _
         | exact bxF_go_down _ _ _ _
         | exact bxF_moment _ _ _ _
         | exact BK.c (by assumption)
         | exact BK.rows (by assumption)
         | exact BK.stages (by assumption)
         | exact BK.policies (by assumption)
         | exact BK.mode (by assumption)
         | rfl)
    | with_reducible apply Exists.intro)))

section
variable {P : Program} {w : World} {K : PySem.W.Frag} {mg : Str → Option Value} {base : Heap}
abbrev sLaw : Stmt := (top 55)
abbrev sLawN : List Str := ["_law_script", "_law_k", "_law_pool_here", "_law_turn", "_law_rig", "_law_words_here"]
theorem sLawS : FnScope sLawN ["_law_script"] (defScope sLaw) := ⟨rfl, rfl, rfl, by decide +kernel, rfl, by decide +kernel, by decide +kernel⟩
def spLaw (K : PySem.W.Frag) : Sp := fun vs H Q _ => ∃ (a : Addr) (ns : List Int), vs = [.ref a] ∧ SqL K H a (ns.map V.int) ∧ ns.length ≤ 63 ∧ ∀ H', Q (.bl true) H'
theorem SqL.frp {K : PySem.W.Frag} {H0 H H' : Hp} {a p : Addr} {xs : List V} (h0 : SqL K H0 a xs) (hp : H0 p = none) (h : SqL K H a xs) (f : Fr (· = p) H H') : SqL K H' a xs := by
  rcases h0 with h0 | h0
  · have ne : a ≠ p := fun z => by
      rcases h0 with h0 | ⟨o, h0⟩
      · rw [z, hp] at h0; cases h0
      · rw [z, hp] at h0; cases h0
    rcases h with (h | ⟨o, h⟩) | h
    · exact .inl (.inl (f.keep _ _ h ne))
    · exact .inl (.inr ⟨o, f.keep _ _ h ne⟩)
    · exact .inr h
  · exact .inr h0
structure LwInv (K : PySem.W.Frag) (a : Addr) (ns : List Int) (σ : L2.St) (H' : Hp) : Prop where
  s : ∃ x1 x2 x3 x4 x5, σ = [some (.ref a), x1, x2, x3, x4, x5]
  h : SqL K H' a (ns.map V.int)
structure LwIn (K : PySem.W.Frag) (a p : Addr) (ns : List Int) (σ : L2.St) (H' : Hp) : Prop where
  s : ∃ x1 x3 x4 x5, σ = [some (.ref a), x1, some (.ref p), x3, x4, x5]
  h : SqL K H' a (ns.map V.int)
  hp : PoolAt H' p
theorem ok_law {f : Addr} {fd : FuncData} (F : Fun K "law" "law" sLaw f fd) (Bb : Bi mg) (D__law_cell : Def P w K mg base "_law_cell" ["_law_script", "_law_k"] 1 (spCell_ K)) (D__law_pool : Def P w K mg base "_law_pool" ["_law_figure"] 1 spPool)
    (D__law_device : Def P w K mg base "_law_device" ["_law_pool_here", "_law_most", "_law_states"] 3 spDevice) (D__law_words : Def P w K mg base "_law_words" ["_law_pool_here"] 2 spWords) (D__law_right : Def P w K mg base "_law_right" ["_law_pool_here", "_law_rig", "_law_ring"] 10 spRight)
    (D__law_drawn : Def P w K mg base "_law_drawn" ["_law_pool_here", "_law_words_here", "_law_size", "_law_most"] 2 spDrawn) (D__law_draw : Def P w K mg base "_law_draw" ["_law_pool_here", "_law_most"] 1 spDraw) : FnOk P w K mg base CX0 20 f fd ["_law_script"] (spLaw K) := by
  refine FnOk.mono (j := 11) ?_ (by decide)
  refine F.ok sLawS (fun vs H Q E h => ?_) (fun cdv A outer s H vs Q E hr h => ?_)
  · obtain ⟨a, ns, rfl, _⟩ := h
    rfl
  · obtain ⟨a, ns, rfl, hs, hl, kk⟩ := h
    refine ⟨_, (pss_cons (ps_for PassesOwn.never rfl (pi_range1 (by rfl) Bb.range (pa_cons (pe_callB (id := "max") (call_max2 rfl) (by rfl) Bb.max (by decide +kernel) (pa_cons pe_int (pa_cons (pe_callB (id := "min") (call_min2 rfl) (by rfl) Bb.min (by decide +kernel) (pa_cons (pe_callB (id := "len") call_len_seq (by rfl) Bb.len (by decide +kernel) (pa_cons (pv 0) pa_nil)) (pa_cons pe_int pa_nil))) pa_nil))) pa_nil)) (pg_name (i := 1) sLawS.nd rfl (Or.inl rfl)) (pss_cons (ps_set (i := 2) sLawS.nd rfl (Or.inl rfl) (pe_def D__law_pool (hr.mono (by decide)) (by rfl) (pa_cons (pe_def D__law_cell (hr.mono (by decide)) (by rfl) (pa_cons (pv 0) (pa_cons (pv 1) pa_nil))) pa_nil)))
      (pss_one (ps_for PassesOwn.never rfl (pi_range1 (by rfl) Bb.range (pa_cons pe_int pa_nil)) (pg_name (i := 3) sLawS.nd rfl (Or.inl rfl)) (pss_cons (ps_par (i := 4) (j := 5) (by rfl) sLawS.nd rfl rfl (by decide) rfl rfl (pa_cons (pe_def D__law_device (hr.mono (by decide)) (by rfl) (pa_cons (pv 2) (pa_cons pe_int (pa_cons pe_int pa_nil)))) (pa_cons (pe_def D__law_words (hr.mono (by decide)) (by rfl) (pa_cons (pv 2) pa_nil)) pa_nil)) (by rfl))
      (pss_one (ps_if (pt_not (pt_val (pe_def D__law_right (hr.mono (by decide)) (by rfl) (pa_cons (pv 2) (pa_cons (pv 4) (pa_cons (pe_def D__law_drawn (hr.mono (by decide)) (by rfl) (pa_cons (pv 2) (pa_cons (pv 5) (pa_cons (pe_op op_add pe_int (pe_def D__law_draw (hr.mono (by decide)) (by rfl) (pa_cons (pv 2) (pa_cons pe_int pa_nil)))) (pa_cons (pe_op op_add pe_int (pe_def D__law_draw (hr.mono (by decide)) (by rfl) (pa_cons (pv 2) (pa_cons pe_int pa_nil)))) pa_nil))))) pa_nil)))))) (pss_one (ps_ret pe_bl)) pss_nil)))))))
      (pss_one (ps_ret pe_bl))), ?_⟩
    rw [show L2.start sLawN [.ref a] = [some (.ref a), none, none, none, none, none] from rfl]
    walk_at "rd"
    refine ⟨.ref a, rfl, a, rfl, _, .inl hs, _, _, rfl, _, _, rfl, _, rfl, ?_⟩
    have hN : ∀ n : Nat, 0 ≤ (if (if (5 : Int) < (n : Int) then (5 : Int) else (n : Int)) > 2 then (if (5 : Int) < (n : Int) then (5 : Int) else (n : Int)) else 2) ∧ (if (if (5 : Int) < (n : Int) then (5 : Int) else (n : Int)) > 2 then (if (5 : Int) < (n : Int) then (5 : Int) else (n : Int)) else 2) ≤ 5 := fun n => by
      split <;> split <;> omega
    obtain ⟨hN1, hN2⟩ := hN (ns.map V.int).length
    generalize (if (if (5 : Int) < ((ns.map V.int).length : Int) then (5 : Int) else ((ns.map V.int).length : Int)) > 2 then (if (5 : Int) < ((ns.map V.int).length : Int) then (5 : Int) else ((ns.map V.int).length : Int)) else 2) = N at hN1 hN2 ⊢
    refine ⟨by omega, by omega, ?_⟩
    refine for_range (lo := 0) (n := N.toNat) (fun i σ H' => LwInv K a ns σ H') ⟨⟨_, _, _, _, _, rfl⟩, hs⟩ ?_ ?_
    · rintro i σ H5 hi ⟨⟨x1, x2, x3, x4, x5, rfl⟩, h5⟩
      walk_at "rd"
      refine ⟨a, ns, i, by rw [Int.zero_add], h5, hl, by omega, fun z H6 f6 => ?_⟩
      refine ⟨z, rfl, fun p H7 hp7 f7 hpn => ?_⟩
      have h6 := SqL.fr h5 f6
      have h7 := SqL.fr h6 f7
      refine ⟨3, rfl, by decide, by decide, ?_⟩
      refine for_range (lo := 0) (n := 3) (fun j σ H' => LwIn K a p ns σ H') ⟨⟨_, _, _, _, rfl⟩, h7, hp7⟩ ?_ ?_
      · rintro j σ H8 hj ⟨⟨y1, y3, y4, y5, rfl⟩, h8, hp8⟩
        walk_at "rd"
        refine ⟨p, rfl, hp8, fun v d H9 tv dok hp9 f9 => ?_⟩
        refine ⟨p, rfl, hp9, fun wa ws H10 ew wok hp10 f10 nwa => ?_⟩
        refine ⟨p, 8, rfl, hp10, by decide, by decide, fun r1 H11 hr1 hp11 f11 => ⟨_, rfl, p, 6, rfl, hp11, by decide, by decide, fun r2 H12 hr2 hp12 f12 => ⟨_, rfl, ?_⟩⟩⟩
        have f1012 := f11.trans f12
        refine ⟨p, wa, ws, 1 + r1, 1 + r2, ?_, hp12, f1012.keep _ _ ew nwa, wok, nwa, by omega, by omega, by omega, by omega, fun q r H13 eq hrl hrw hp13 f13 => ?_⟩
        · rw [Int.natCast_add, Int.natCast_add]; rfl
        have T913 := f10.tk.trans (f1012.tk.trans f13.tk)
        refine ⟨p, q, v, d, r, ws.take (1 + r2), rfl, hp13, tv.up T913, dok, eq, by omega, by omega, fun x hx => wok.2 x (List.mem_of_mem_take (hrw x hx)), by rw [List.length_take]; omega, hrw, fun H14 hp14 f14 => ?_⟩
        have F : Fr (· = p) H8 H14 := (((f9.trans f10).trans f1012).trans f13).trans f14
        exact ⟨_, rfl, ⟨_, _, _, _, rfl⟩, SqL.frp h6 hpn h8 F, hp14⟩
      · rintro σ H8 ⟨⟨y1, y3, y4, y5, rfl⟩, h8, hp8⟩
        exact ⟨⟨_, _, _, _, _, rfl⟩, h8⟩
    · rintro σ H5 _
      exact kk H5
end
end K53
end
section
set_option Elab.async false
set_option linter.all false
set_option maxRecDepth 100000
set_option maxHeartbeats 4000000
set_option pp.maxSteps 2500
namespace K53
open PySem PySem.Spec PyProof.Rows L2
local macro_rules | `(tactic| walk_at "rd") => `(tactic| (
  try dsimp only [tSeq, tIfS, tOr, tAnd, tNot, tNotV, tAndV, tOrV, tB, tCB, tCons, tNil, tVar, tC, tTest, tChain, tRet, tRetN, tNext, tOp, rI0, rI, tAsg, gName, tDrop, tIf, tTup, tLst, tFld, tUn, rU, tCall, tMeth, tMake, tProp, iStr, iTup, iList, iRng1, iRng2, iEnumT,
    tPar, tPar3, gTup, gCons, gNil, gSub, gUnl, rSetL, rIxL, rIxT, rAppend, rExtend, tBM, tBM0, sFld, sFldAug, tSl, tPart, tNoPart, rSlL, rSlA, rSlT, tAug, ipI, t2I, rEq, rNe, scal, List.append_nil, List.cons_append, List.nil_append, List.getElem?_cons_zero, List.getElem?_cons_succ, List.set_cons_zero, List.set_cons_succ,
    List.map_cons, List.map_nil]
  try simp only [Option.some.injEq, exists_eq_left', exists_eq_left, exists_eq_right, exists_eq', V.int.injEq, V.str.injEq, V.bl.injEq, V.ref.injEq, List.cons.injEq, and_true, true_and, and_assoc, exists_and_left, exists_const, Bool.not_true, Bool.not_false, Bool.false_eq_true, if_true, if_false, ite_true, ite_false, decide_true, decide_false, reduceCtorEq, false_and, false_or, or_false, List.cons_ne_nil, exists_false, List.length_cons, List.length_nil, Nat.reduceAdd, Nat.zero_add, Int.cast_ofNat_Int, Int.reduceEq, Int.reduceLT, Int.reduceLE, Int.reduceAdd, Int.reduceSub, at0, at1, at2, eq_self, List.reverse_cons, List.reverse_nil]))

theorem all_mk {l : PySem.W.OpenLaw} {w : World} {K : PySem.W.Frag} {h : Heap} {mg : Str → Option Value} {fa : Addr} (X : K.In h) (G : h.Ns mainGlobals mg) (hfa : mg "law" = some (.ref fa))
    {B C V f_is_name f_check_name f_check_history f_is_integer f_is_between f_is_row f_is_policy f_is_device f_check_device f_Box f_holds f_told f_touch f_fill f_go_down f_ask f_moment f_box_at f_answers f_count_misses f_misses_of f_rounds_of f_far_misses f_long_run f_Cache f_note_answer f_crequest f_box_twin f_take_over f_twin p_states f_states p_levels f_levels p_misses f_misses f_check_function f__law_give f_check_idle f_serve f_vrequest f__law_cell f__law_pool f__law_draw f__law_policy f__law_recent f__law_queue f__law_device f__law_words f__law_drawn f__law_rounds f__law_right f_law fV ccV cdaV kf al : Addr} {oc_is_name kV_is_name dc_is_name pm_is_name cd_is_name ct_is_name oc_check_name kV_check_name dc_check_name pm_check_name cd_check_name ct_check_name oc_check_history kV_check_history dc_check_history pm_check_history cd_check_history ct_check_history oc_is_integer kV_is_integer dc_is_integer pm_is_integer cd_is_integer ct_is_integer oc_is_between kV_is_between dc_is_between pm_is_between cd_is_between ct_is_between oc_is_row kV_is_row dc_is_row pm_is_row cd_is_row ct_is_row oc_is_policy kV_is_policy dc_is_policy pm_is_policy cd_is_policy ct_is_policy oc_is_device kV_is_device dc_is_device pm_is_device cd_is_device ct_is_device oc_check_device kV_check_device dc_check_device pm_check_device cd_check_device ct_check_device oc_Box kV_Box dc_Box pm_Box cd_Box ct_Box oc_holds kV_holds dc_holds pm_holds cd_holds ct_holds oc_told kV_told dc_told pm_told cd_told ct_told oc_touch kV_touch dc_touch pm_touch cd_touch ct_touch oc_fill kV_fill dc_fill pm_fill cd_fill ct_fill oc_go_down kV_go_down dc_go_down pm_go_down cd_go_down ct_go_down oc_ask kV_ask dc_ask pm_ask cd_ask ct_ask oc_moment kV_moment dc_moment pm_moment cd_moment ct_moment oc_box_at kV_box_at dc_box_at pm_box_at cd_box_at ct_box_at oc_answers kV_answers dc_answers pm_answers cd_answers ct_answers oc_count_misses kV_count_misses dc_count_misses pm_count_misses cd_count_misses ct_count_misses oc_misses_of kV_misses_of dc_misses_of pm_misses_of cd_misses_of ct_misses_of oc_rounds_of kV_rounds_of dc_rounds_of pm_rounds_of cd_rounds_of ct_rounds_of oc_far_misses kV_far_misses dc_far_misses pm_far_misses cd_far_misses ct_far_misses oc_long_run kV_long_run dc_long_run pm_long_run cd_long_run ct_long_run oc_Cache kV_Cache dc_Cache pm_Cache cd_Cache ct_Cache oc_note_answer kV_note_answer dc_note_answer pm_note_answer cd_note_answer ct_note_answer oc_crequest kV_crequest dc_crequest pm_crequest cd_crequest ct_crequest oc_box_twin kV_box_twin dc_box_twin pm_box_twin cd_box_twin ct_box_twin oc_take_over kV_take_over dc_take_over pm_take_over cd_take_over ct_take_over oc_twin kV_twin dc_twin pm_twin cd_twin ct_twin oc_states kV_states dc_states pm_states cd_states ct_states oc_levels kV_levels dc_levels pm_levels cd_levels ct_levels oc_misses kV_misses dc_misses pm_misses cd_misses ct_misses oc_check_function kV_check_function dc_check_function pm_check_function cd_check_function ct_check_function oc__law_give kV__law_give dc__law_give pm__law_give cd__law_give ct__law_give oc_check_idle kV_check_idle dc_check_idle pm_check_idle cd_check_idle ct_check_idle oc_serve kV_serve dc_serve pm_serve cd_serve ct_serve oc_vrequest kV_vrequest dc_vrequest pm_vrequest cd_vrequest ct_vrequest oc__law_cell kV__law_cell dc__law_cell pm__law_cell cd__law_cell ct__law_cell oc__law_pool kV__law_pool dc__law_pool pm__law_pool cd__law_pool ct__law_pool oc__law_draw kV__law_draw dc__law_draw pm__law_draw cd__law_draw ct__law_draw oc__law_policy kV__law_policy dc__law_policy pm__law_policy cd__law_policy ct__law_policy oc__law_recent kV__law_recent dc__law_recent pm__law_recent cd__law_recent ct__law_recent oc__law_queue kV__law_queue dc__law_queue pm__law_queue cd__law_queue ct__law_queue oc__law_device kV__law_device dc__law_device pm__law_device cd__law_device ct__law_device oc__law_words kV__law_words dc__law_words pm__law_words cd__law_words ct__law_words oc__law_drawn kV__law_drawn dc__law_drawn pm__law_drawn cd__law_drawn ct__law_drawn oc__law_rounds kV__law_rounds dc__law_rounds pm__law_rounds cd__law_rounds ct__law_rounds oc__law_right kV__law_right dc__law_right pm__law_right cd__law_right ct__law_right oc_law kV_law dc_law pm_law cd_law ct_law oc_V kV_V dc_V pm_V ct_V u1_cl u3_cl : Value} {od_is_name an_is_name od_check_name an_check_name od_check_history an_check_history od_is_integer an_is_integer od_is_between an_is_between od_is_row an_is_row od_is_policy an_is_policy od_is_device an_is_device od_check_device an_check_device od_Box an_Box od_holds an_holds od_told an_told od_touch an_touch od_fill an_fill od_go_down an_go_down od_ask an_ask od_moment an_moment od_box_at an_box_at od_answers an_answers od_count_misses an_count_misses od_misses_of an_misses_of od_rounds_of an_rounds_of od_far_misses an_far_misses od_long_run an_long_run od_Cache an_Cache od_note_answer an_note_answer od_crequest an_crequest od_box_twin an_box_twin od_take_over an_take_over od_twin an_twin od_states an_states od_levels an_levels od_misses an_misses od_check_function an_check_function od__law_give an__law_give od_check_idle an_check_idle od_serve an_serve od_vrequest an_vrequest od__law_cell an__law_cell od__law_pool an__law_pool od__law_draw an__law_draw od__law_policy an__law_policy od__law_recent an__law_recent od__law_queue an__law_queue od__law_device an__law_device od__law_words an__law_words od__law_drawn an__law_drawn od__law_rounds an__law_rounds od__law_right an__law_right od_law an_law od_V an_V u2_cld u5_cdd od_lv : Option Addr} {sl_is_name sl_check_name sl_check_history sl_is_integer sl_is_between sl_is_row sl_is_policy sl_is_device sl_check_device sl_Box sl_holds sl_told sl_touch sl_fill sl_go_down sl_ask sl_moment sl_box_at sl_answers sl_count_misses sl_misses_of sl_rounds_of sl_far_misses sl_long_run sl_Cache sl_note_answer sl_crequest sl_box_twin sl_take_over sl_twin sl_states sl_levels sl_misses sl_check_function sl__law_give sl_check_idle sl_serve sl_vrequest sl__law_cell sl__law_pool sl__law_draw sl__law_policy sl__law_recent sl__law_queue sl__law_device sl__law_words sl__law_drawn sl__law_rounds sl__law_right sl_law sl_V u6_csl u7_ccs sl_lv : Array (Option Value)} {tk_LONGEST tk_MOST_LINES tk_MOST_STATES tk_MOST_REQUESTS tk_MOST_TIMES tk_LETTERS tl1 tl2 tl3 tfV : Tok} {rs_states rs_levels rs_misses : List Value} {vsV : Array Value} {fileV : Str} {n_lv : Nat} {cdD : ClassData}
    (aB : PySem.W.nsIn K mainGlobals "Box" = some (some (.ref B)))
    (pgB : PySem.W.plainGet K B Str.empty = true)
    (hdB : PySem.W.hasDictIn K B = true)
    (poB : PySem.W.plainOver K B = true)
    (saB : PySem.W.findIn K (.ref B) "__setattr__" = some (some (.builtin "object.__setattr__")))
    (mkB : PySem.W.makesIn K B = true)
    (kcB : PySem.W.keepIn K (.ref B) = true)
    (aC : PySem.W.nsIn K mainGlobals "Cache" = some (some (.ref C)))
    (pgC : PySem.W.plainGet K C Str.empty = true)
    (hdC : PySem.W.hasDictIn K C = true)
    (poC : PySem.W.plainOver K C = true)
    (saC : PySem.W.findIn K (.ref C) "__setattr__" = some (some (.builtin "object.__setattr__")))
    (mkC : PySem.W.makesIn K C = true)
    (kcC : PySem.W.keepIn K (.ref C) = true)
    (aV : PySem.W.nsIn K mainGlobals "ValueCache" = some (some (.ref V)))
    (pgV : PySem.W.plainGet K V Str.empty = true)
    (hdV : PySem.W.hasDictIn K V = true)
    (poV : PySem.W.plainOver K V = true)
    (saV : PySem.W.findIn K (.ref V) "__setattr__" = some (some (.builtin "object.__setattr__")))
    (mkV : PySem.W.makesIn K V = true)
    (kcV : PySem.W.keepIn K (.ref V) = true)
    (nB_mode : PySem.W.findIn K (.ref B) "mode" = some none)
    (nB_policies : PySem.W.findIn K (.ref B) "policies" = some none)
    (nB_stages : PySem.W.findIn K (.ref B) "stages" = some none)
    (nB_rows : PySem.W.findIn K (.ref B) "rows" = some none)
    (nC_pattern : PySem.W.findIn K (.ref C) "pattern" = some none)
    (nC_box : PySem.W.findIn K (.ref C) "box" = some none)
    (nC_hit_number : PySem.W.findIn K (.ref C) "hit_number" = some none)
    (nC_miss_number : PySem.W.findIn K (.ref C) "miss_number" = some none)
    (nV_pattern : PySem.W.findIn K (.ref V) "pattern" = some none)
    (nV_box : PySem.W.findIn K (.ref V) "box" = some none)
    (nV_hit_number : PySem.W.findIn K (.ref V) "hit_number" = some none)
    (nV_miss_number : PySem.W.findIn K (.ref V) "miss_number" = some none)
    (nV_load : PySem.W.findIn K (.ref V) "load" = some none)
    (nV_store : PySem.W.findIn K (.ref V) "store" = some none)
    (nV_worths : PySem.W.findIn K (.ref V) "worths" = some none)
    (nV_fresh : PySem.W.findIn K (.ref V) "fresh" = some none)
    (nV_working : PySem.W.findIn K (.ref V) "working" = some none)
    (a_is_name : PySem.W.nsIn K mainGlobals "is_name" = some (some (.ref f_is_name)))
    (l_is_name : K.lookup f_is_name = some ⟨oc_is_name, od_is_name, .func (PySem.W.fnOf "is_name" "is_name" (defArgs sIsName) (defBody sIsName) (defScope sIsName) .none kV_is_name dc_is_name pm_is_name an_is_name cd_is_name ct_is_name), sl_is_name⟩)
    (c_is_name : PySem.W.codeIn K cd_is_name "is_name" = true)
    (k_is_name : PySem.W.keepIn K (.ref f_is_name) = true)
    (a_check_name : PySem.W.nsIn K mainGlobals "check_name" = some (some (.ref f_check_name)))
    (l_check_name : K.lookup f_check_name = some ⟨oc_check_name, od_check_name, .func (PySem.W.fnOf "check_name" "check_name" (defArgs sChkName) (defBody sChkName) (defScope sChkName) .none kV_check_name dc_check_name pm_check_name an_check_name cd_check_name ct_check_name), sl_check_name⟩)
    (c_check_name : PySem.W.codeIn K cd_check_name "check_name" = true)
    (k_check_name : PySem.W.keepIn K (.ref f_check_name) = true)
    (a_check_history : PySem.W.nsIn K mainGlobals "check_history" = some (some (.ref f_check_history)))
    (l_check_history : K.lookup f_check_history = some ⟨oc_check_history, od_check_history, .func (PySem.W.fnOf "check_history" "check_history" (defArgs sChkHist) (defBody sChkHist) (defScope sChkHist) .none kV_check_history dc_check_history pm_check_history an_check_history cd_check_history ct_check_history), sl_check_history⟩)
    (c_check_history : PySem.W.codeIn K cd_check_history "check_history" = true)
    (k_check_history : PySem.W.keepIn K (.ref f_check_history) = true)
    (a_is_integer : PySem.W.nsIn K mainGlobals "is_integer" = some (some (.ref f_is_integer)))
    (l_is_integer : K.lookup f_is_integer = some ⟨oc_is_integer, od_is_integer, .func (PySem.W.fnOf "is_integer" "is_integer" (defArgs sIsInt) (defBody sIsInt) (defScope sIsInt) .none kV_is_integer dc_is_integer pm_is_integer an_is_integer cd_is_integer ct_is_integer), sl_is_integer⟩)
    (c_is_integer : PySem.W.codeIn K cd_is_integer "is_integer" = true)
    (k_is_integer : PySem.W.keepIn K (.ref f_is_integer) = true)
    (a_is_between : PySem.W.nsIn K mainGlobals "is_between" = some (some (.ref f_is_between)))
    (l_is_between : K.lookup f_is_between = some ⟨oc_is_between, od_is_between, .func (PySem.W.fnOf "is_between" "is_between" (defArgs sIsBet) (defBody sIsBet) (defScope sIsBet) .none kV_is_between dc_is_between pm_is_between an_is_between cd_is_between ct_is_between), sl_is_between⟩)
    (c_is_between : PySem.W.codeIn K cd_is_between "is_between" = true)
    (k_is_between : PySem.W.keepIn K (.ref f_is_between) = true)
    (a_is_row : PySem.W.nsIn K mainGlobals "is_row" = some (some (.ref f_is_row)))
    (l_is_row : K.lookup f_is_row = some ⟨oc_is_row, od_is_row, .func (PySem.W.fnOf "is_row" "is_row" (defArgs sIsRow) (defBody sIsRow) (defScope sIsRow) .none kV_is_row dc_is_row pm_is_row an_is_row cd_is_row ct_is_row), sl_is_row⟩)
    (c_is_row : PySem.W.codeIn K cd_is_row "is_row" = true)
    (k_is_row : PySem.W.keepIn K (.ref f_is_row) = true)
    (a_is_policy : PySem.W.nsIn K mainGlobals "is_policy" = some (some (.ref f_is_policy)))
    (l_is_policy : K.lookup f_is_policy = some ⟨oc_is_policy, od_is_policy, .func (PySem.W.fnOf "is_policy" "is_policy" (defArgs sIsPol) (defBody sIsPol) (defScope sIsPol) .none kV_is_policy dc_is_policy pm_is_policy an_is_policy cd_is_policy ct_is_policy), sl_is_policy⟩)
    (c_is_policy : PySem.W.codeIn K cd_is_policy "is_policy" = true)
    (k_is_policy : PySem.W.keepIn K (.ref f_is_policy) = true)
    (a_is_device : PySem.W.nsIn K mainGlobals "is_device" = some (some (.ref f_is_device)))
    (l_is_device : K.lookup f_is_device = some ⟨oc_is_device, od_is_device, .func (PySem.W.fnOf "is_device" "is_device" (defArgs sIsDev) (defBody sIsDev) (defScope sIsDev) .none kV_is_device dc_is_device pm_is_device an_is_device cd_is_device ct_is_device), sl_is_device⟩)
    (c_is_device : PySem.W.codeIn K cd_is_device "is_device" = true)
    (k_is_device : PySem.W.keepIn K (.ref f_is_device) = true)
    (a_check_device : PySem.W.nsIn K mainGlobals "check_device" = some (some (.ref f_check_device)))
    (l_check_device : K.lookup f_check_device = some ⟨oc_check_device, od_check_device, .func (PySem.W.fnOf "check_device" "check_device" (defArgs sChkDev) (defBody sChkDev) (defScope sChkDev) .none kV_check_device dc_check_device pm_check_device an_check_device cd_check_device ct_check_device), sl_check_device⟩)
    (c_check_device : PySem.W.codeIn K cd_check_device "check_device" = true)
    (k_check_device : PySem.W.keepIn K (.ref f_check_device) = true)
    (a_Box : PySem.W.findIn K (.ref B) "__init__" = some (some (.ref f_Box)))
    (l_Box : K.lookup f_Box = some ⟨oc_Box, od_Box, .func (PySem.W.fnOf "__init__" "Box.__init__" (defArgs sBInit) (defBody sBInit) (defScope sBInit) .none kV_Box dc_Box pm_Box an_Box cd_Box ct_Box), sl_Box⟩)
    (c_Box : PySem.W.codeIn K cd_Box "Box.__init__" = true)
    (k_Box : PySem.W.keepIn K (.ref f_Box) = true)
    (i_Box : PySem.W.isFn K (.ref f_Box) = true)
    (a_holds : PySem.W.findIn K (.ref B) "holds" = some (some (.ref f_holds)))
    (l_holds : K.lookup f_holds = some ⟨oc_holds, od_holds, .func (PySem.W.fnOf "holds" "Box.holds" (defArgs sHolds) (defBody sHolds) (defScope sHolds) .none kV_holds dc_holds pm_holds an_holds cd_holds ct_holds), sl_holds⟩)
    (c_holds : PySem.W.codeIn K cd_holds "Box.holds" = true)
    (k_holds : PySem.W.keepIn K (.ref f_holds) = true)
    (i_holds : PySem.W.isFn K (.ref f_holds) = true)
    (a_told : PySem.W.findIn K (.ref B) "told" = some (some (.ref f_told)))
    (l_told : K.lookup f_told = some ⟨oc_told, od_told, .func (PySem.W.fnOf "told" "Box.told" (defArgs sTold) (defBody sTold) (defScope sTold) .none kV_told dc_told pm_told an_told cd_told ct_told), sl_told⟩)
    (c_told : PySem.W.codeIn K cd_told "Box.told" = true)
    (k_told : PySem.W.keepIn K (.ref f_told) = true)
    (i_told : PySem.W.isFn K (.ref f_told) = true)
    (a_touch : PySem.W.findIn K (.ref B) "touch" = some (some (.ref f_touch)))
    (l_touch : K.lookup f_touch = some ⟨oc_touch, od_touch, .func (PySem.W.fnOf "touch" "Box.touch" (defArgs sTouch) (defBody sTouch) (defScope sTouch) .none kV_touch dc_touch pm_touch an_touch cd_touch ct_touch), sl_touch⟩)
    (c_touch : PySem.W.codeIn K cd_touch "Box.touch" = true)
    (k_touch : PySem.W.keepIn K (.ref f_touch) = true)
    (i_touch : PySem.W.isFn K (.ref f_touch) = true)
    (a_fill : PySem.W.findIn K (.ref B) "fill" = some (some (.ref f_fill)))
    (l_fill : K.lookup f_fill = some ⟨oc_fill, od_fill, .func (PySem.W.fnOf "fill" "Box.fill" (defArgs sFill) (defBody sFill) (defScope sFill) .none kV_fill dc_fill pm_fill an_fill cd_fill ct_fill), sl_fill⟩)
    (c_fill : PySem.W.codeIn K cd_fill "Box.fill" = true)
    (k_fill : PySem.W.keepIn K (.ref f_fill) = true)
    (i_fill : PySem.W.isFn K (.ref f_fill) = true)
    (a_go_down : PySem.W.findIn K (.ref B) "go_down" = some (some (.ref f_go_down)))
    (l_go_down : K.lookup f_go_down = some ⟨oc_go_down, od_go_down, .func (PySem.W.fnOf "go_down" "Box.go_down" (defArgs sDown) (defBody sDown) (defScope sDown) .none kV_go_down dc_go_down pm_go_down an_go_down cd_go_down ct_go_down), sl_go_down⟩)
    (c_go_down : PySem.W.codeIn K cd_go_down "Box.go_down" = true)
    (k_go_down : PySem.W.keepIn K (.ref f_go_down) = true)
    (i_go_down : PySem.W.isFn K (.ref f_go_down) = true)
    (a_ask : PySem.W.findIn K (.ref B) "ask" = some (some (.ref f_ask)))
    (l_ask : K.lookup f_ask = some ⟨oc_ask, od_ask, .func (PySem.W.fnOf "ask" "Box.ask" (defArgs sAsk) (defBody sAsk) (defScope sAsk) .none kV_ask dc_ask pm_ask an_ask cd_ask ct_ask), sl_ask⟩)
    (c_ask : PySem.W.codeIn K cd_ask "Box.ask" = true)
    (k_ask : PySem.W.keepIn K (.ref f_ask) = true)
    (i_ask : PySem.W.isFn K (.ref f_ask) = true)
    (a_moment : PySem.W.findIn K (.ref B) "moment" = some (some (.ref f_moment)))
    (l_moment : K.lookup f_moment = some ⟨oc_moment, od_moment, .func (PySem.W.fnOf "moment" "Box.moment" (defArgs sMom) (defBody sMom) (defScope sMom) .none kV_moment dc_moment pm_moment an_moment cd_moment ct_moment), sl_moment⟩)
    (c_moment : PySem.W.codeIn K cd_moment "Box.moment" = true)
    (k_moment : PySem.W.keepIn K (.ref f_moment) = true)
    (i_moment : PySem.W.isFn K (.ref f_moment) = true)
    (a_box_at : PySem.W.nsIn K mainGlobals "box_at" = some (some (.ref f_box_at)))
    (l_box_at : K.lookup f_box_at = some ⟨oc_box_at, od_box_at, .func (PySem.W.fnOf "box_at" "box_at" (defArgs sBoxAt) (defBody sBoxAt) (defScope sBoxAt) .none kV_box_at dc_box_at pm_box_at an_box_at cd_box_at ct_box_at), sl_box_at⟩)
    (c_box_at : PySem.W.codeIn K cd_box_at "box_at" = true)
    (k_box_at : PySem.W.keepIn K (.ref f_box_at) = true)
    (a_answers : PySem.W.nsIn K mainGlobals "answers" = some (some (.ref f_answers)))
    (l_answers : K.lookup f_answers = some ⟨oc_answers, od_answers, .func (PySem.W.fnOf "answers" "answers" (defArgs sAns) (defBody sAns) (defScope sAns) .none kV_answers dc_answers pm_answers an_answers cd_answers ct_answers), sl_answers⟩)
    (c_answers : PySem.W.codeIn K cd_answers "answers" = true)
    (k_answers : PySem.W.keepIn K (.ref f_answers) = true)
    (a_count_misses : PySem.W.nsIn K mainGlobals "count_misses" = some (some (.ref f_count_misses)))
    (l_count_misses : K.lookup f_count_misses = some ⟨oc_count_misses, od_count_misses, .func (PySem.W.fnOf "count_misses" "count_misses" (defArgs sCnt) (defBody sCnt) (defScope sCnt) .none kV_count_misses dc_count_misses pm_count_misses an_count_misses cd_count_misses ct_count_misses), sl_count_misses⟩)
    (c_count_misses : PySem.W.codeIn K cd_count_misses "count_misses" = true)
    (k_count_misses : PySem.W.keepIn K (.ref f_count_misses) = true)
    (a_misses_of : PySem.W.nsIn K mainGlobals "misses_of" = some (some (.ref f_misses_of)))
    (l_misses_of : K.lookup f_misses_of = some ⟨oc_misses_of, od_misses_of, .func (PySem.W.fnOf "misses_of" "misses_of" (defArgs sMiss) (defBody sMiss) (defScope sMiss) .none kV_misses_of dc_misses_of pm_misses_of an_misses_of cd_misses_of ct_misses_of), sl_misses_of⟩)
    (c_misses_of : PySem.W.codeIn K cd_misses_of "misses_of" = true)
    (k_misses_of : PySem.W.keepIn K (.ref f_misses_of) = true)
    (a_rounds_of : PySem.W.nsIn K mainGlobals "rounds_of" = some (some (.ref f_rounds_of)))
    (l_rounds_of : K.lookup f_rounds_of = some ⟨oc_rounds_of, od_rounds_of, .func (PySem.W.fnOf "rounds_of" "rounds_of" (defArgs sRnd) (defBody sRnd) (defScope sRnd) .none kV_rounds_of dc_rounds_of pm_rounds_of an_rounds_of cd_rounds_of ct_rounds_of), sl_rounds_of⟩)
    (c_rounds_of : PySem.W.codeIn K cd_rounds_of "rounds_of" = true)
    (k_rounds_of : PySem.W.keepIn K (.ref f_rounds_of) = true)
    (a_far_misses : PySem.W.nsIn K mainGlobals "far_misses" = some (some (.ref f_far_misses)))
    (l_far_misses : K.lookup f_far_misses = some ⟨oc_far_misses, od_far_misses, .func (PySem.W.fnOf "far_misses" "far_misses" (defArgs sFar) (defBody sFar) (defScope sFar) .none kV_far_misses dc_far_misses pm_far_misses an_far_misses cd_far_misses ct_far_misses), sl_far_misses⟩)
    (c_far_misses : PySem.W.codeIn K cd_far_misses "far_misses" = true)
    (k_far_misses : PySem.W.keepIn K (.ref f_far_misses) = true)
    (a_long_run : PySem.W.nsIn K mainGlobals "long_run" = some (some (.ref f_long_run)))
    (l_long_run : K.lookup f_long_run = some ⟨oc_long_run, od_long_run, .func (PySem.W.fnOf "long_run" "long_run" (defArgs sLong) (defBody sLong) (defScope sLong) .none kV_long_run dc_long_run pm_long_run an_long_run cd_long_run ct_long_run), sl_long_run⟩)
    (c_long_run : PySem.W.codeIn K cd_long_run "long_run" = true)
    (k_long_run : PySem.W.keepIn K (.ref f_long_run) = true)
    (a_Cache : PySem.W.findIn K (.ref C) "__init__" = some (some (.ref f_Cache)))
    (l_Cache : K.lookup f_Cache = some ⟨oc_Cache, od_Cache, .func (PySem.W.fnOf "__init__" "Cache.__init__" (defArgs sCInit) (defBody sCInit) (defScope sCInit) .none kV_Cache dc_Cache pm_Cache an_Cache cd_Cache ct_Cache), sl_Cache⟩)
    (c_Cache : PySem.W.codeIn K cd_Cache "Cache.__init__" = true)
    (k_Cache : PySem.W.keepIn K (.ref f_Cache) = true)
    (i_Cache : PySem.W.isFn K (.ref f_Cache) = true)
    (a_note_answer : PySem.W.findIn K (.ref C) "note_answer" = some (some (.ref f_note_answer)))
    (l_note_answer : K.lookup f_note_answer = some ⟨oc_note_answer, od_note_answer, .func (PySem.W.fnOf "note_answer" "Cache.note_answer" (defArgs sNote) (defBody sNote) (defScope sNote) .none kV_note_answer dc_note_answer pm_note_answer an_note_answer cd_note_answer ct_note_answer), sl_note_answer⟩)
    (c_note_answer : PySem.W.codeIn K cd_note_answer "Cache.note_answer" = true)
    (k_note_answer : PySem.W.keepIn K (.ref f_note_answer) = true)
    (i_note_answer : PySem.W.isFn K (.ref f_note_answer) = true)
    (a_crequest : PySem.W.findIn K (.ref C) "request" = some (some (.ref f_crequest)))
    (l_crequest : K.lookup f_crequest = some ⟨oc_crequest, od_crequest, .func (PySem.W.fnOf "request" "Cache.request" (defArgs sCReq) (defBody sCReq) (defScope sCReq) .none kV_crequest dc_crequest pm_crequest an_crequest cd_crequest ct_crequest), sl_crequest⟩)
    (c_crequest : PySem.W.codeIn K cd_crequest "Cache.request" = true)
    (k_crequest : PySem.W.keepIn K (.ref f_crequest) = true)
    (i_crequest : PySem.W.isFn K (.ref f_crequest) = true)
    (a_box_twin : PySem.W.findIn K (.ref C) "box_twin" = some (some (.ref f_box_twin)))
    (l_box_twin : K.lookup f_box_twin = some ⟨oc_box_twin, od_box_twin, .func (PySem.W.fnOf "box_twin" "Cache.box_twin" (defArgs sBTw) (defBody sBTw) (defScope sBTw) .none kV_box_twin dc_box_twin pm_box_twin an_box_twin cd_box_twin ct_box_twin), sl_box_twin⟩)
    (c_box_twin : PySem.W.codeIn K cd_box_twin "Cache.box_twin" = true)
    (k_box_twin : PySem.W.keepIn K (.ref f_box_twin) = true)
    (i_box_twin : PySem.W.isFn K (.ref f_box_twin) = true)
    (a_take_over : PySem.W.findIn K (.ref C) "take_over" = some (some (.ref f_take_over)))
    (l_take_over : K.lookup f_take_over = some ⟨oc_take_over, od_take_over, .func (PySem.W.fnOf "take_over" "Cache.take_over" (defArgs sOver) (defBody sOver) (defScope sOver) .none kV_take_over dc_take_over pm_take_over an_take_over cd_take_over ct_take_over), sl_take_over⟩)
    (c_take_over : PySem.W.codeIn K cd_take_over "Cache.take_over" = true)
    (k_take_over : PySem.W.keepIn K (.ref f_take_over) = true)
    (i_take_over : PySem.W.isFn K (.ref f_take_over) = true)
    (a_twin : PySem.W.findIn K (.ref C) "twin" = some (some (.ref f_twin)))
    (l_twin : K.lookup f_twin = some ⟨oc_twin, od_twin, .func (PySem.W.fnOf "twin" "Cache.twin" (defArgs sTwin) (defBody sTwin) (defScope sTwin) .none kV_twin dc_twin pm_twin an_twin cd_twin ct_twin), sl_twin⟩)
    (c_twin : PySem.W.codeIn K cd_twin "Cache.twin" = true)
    (k_twin : PySem.W.keepIn K (.ref f_twin) = true)
    (i_twin : PySem.W.isFn K (.ref f_twin) = true)
    (a_states : PySem.W.findIn K (.ref C) "states" = some (some (.ref p_states)))
    (v_states : PySem.W.findIn K (.ref V) "states" = some (some (.ref p_states)))
    (g_states : PySem.W.specialIn K (.ref p_states) "__get__" = some (some (.builtin "property.__get__")))
    (t_states : PySem.W.takesIn K (.ref p_states) = some true)
    (r_states : PySem.W.recIn K p_states "property" = some (.ref f_states :: rs_states))
    (l_states : K.lookup f_states = some ⟨oc_states, od_states, .func (PySem.W.fnOf "states" "Cache.states" (defArgs sCSt) (defBody sCSt) (defScope sCSt) .none kV_states dc_states pm_states an_states cd_states ct_states), sl_states⟩)
    (c_states : PySem.W.codeIn K cd_states "Cache.states" = true)
    (k_states : PySem.W.keepIn K (.ref f_states) = true)
    (a_levels : PySem.W.findIn K (.ref C) "levels" = some (some (.ref p_levels)))
    (v_levels : PySem.W.findIn K (.ref V) "levels" = some (some (.ref p_levels)))
    (g_levels : PySem.W.specialIn K (.ref p_levels) "__get__" = some (some (.builtin "property.__get__")))
    (t_levels : PySem.W.takesIn K (.ref p_levels) = some true)
    (r_levels : PySem.W.recIn K p_levels "property" = some (.ref f_levels :: rs_levels))
    (l_levels : K.lookup f_levels = some ⟨oc_levels, od_levels, .func (PySem.W.fnOf "levels" "Cache.levels" (defArgs sCLv) (defBody sCLv) (defScope sCLv) .none kV_levels dc_levels pm_levels an_levels cd_levels ct_levels), sl_levels⟩)
    (c_levels : PySem.W.codeIn K cd_levels "Cache.levels" = true)
    (k_levels : PySem.W.keepIn K (.ref f_levels) = true)
    (a_misses : PySem.W.findIn K (.ref C) "misses" = some (some (.ref p_misses)))
    (v_misses : PySem.W.findIn K (.ref V) "misses" = some (some (.ref p_misses)))
    (g_misses : PySem.W.specialIn K (.ref p_misses) "__get__" = some (some (.builtin "property.__get__")))
    (t_misses : PySem.W.takesIn K (.ref p_misses) = some true)
    (r_misses : PySem.W.recIn K p_misses "property" = some (.ref f_misses :: rs_misses))
    (l_misses : K.lookup f_misses = some ⟨oc_misses, od_misses, .func (PySem.W.fnOf "misses" "Cache.misses" (defArgs sCMs) (defBody sCMs) (defScope sCMs) .none kV_misses dc_misses pm_misses an_misses cd_misses ct_misses), sl_misses⟩)
    (c_misses : PySem.W.codeIn K cd_misses "Cache.misses" = true)
    (k_misses : PySem.W.keepIn K (.ref f_misses) = true)
    (a_check_function : PySem.W.nsIn K mainGlobals "check_function" = some (some (.ref f_check_function)))
    (l_check_function : K.lookup f_check_function = some ⟨oc_check_function, od_check_function, .func (PySem.W.fnOf "check_function" "check_function" (defArgs sChkF) (defBody sChkF) (defScope sChkF) .none kV_check_function dc_check_function pm_check_function an_check_function cd_check_function ct_check_function), sl_check_function⟩)
    (c_check_function : PySem.W.codeIn K cd_check_function "check_function" = true)
    (k_check_function : PySem.W.keepIn K (.ref f_check_function) = true)
    (a__law_give : PySem.W.nsIn K mainGlobals "_law_give" = some (some (.ref f__law_give)))
    (l__law_give : K.lookup f__law_give = some ⟨oc__law_give, od__law_give, .func (PySem.W.fnOf "_law_give" "_law_give" (defArgs sGive) (defBody sGive) (defScope sGive) .none kV__law_give dc__law_give pm__law_give an__law_give cd__law_give ct__law_give), sl__law_give⟩)
    (c__law_give : PySem.W.codeIn K cd__law_give "_law_give" = true)
    (k__law_give : PySem.W.keepIn K (.ref f__law_give) = true)
    (a_check_idle : PySem.W.findIn K (.ref V) "check_idle" = some (some (.ref f_check_idle)))
    (l_check_idle : K.lookup f_check_idle = some ⟨oc_check_idle, od_check_idle, .func (PySem.W.fnOf "check_idle" "ValueCache.check_idle" (defArgs sIdle) (defBody sIdle) (defScope sIdle) .none kV_check_idle dc_check_idle pm_check_idle an_check_idle cd_check_idle ct_check_idle), sl_check_idle⟩)
    (c_check_idle : PySem.W.codeIn K cd_check_idle "ValueCache.check_idle" = true)
    (k_check_idle : PySem.W.keepIn K (.ref f_check_idle) = true)
    (i_check_idle : PySem.W.isFn K (.ref f_check_idle) = true)
    (a_serve : PySem.W.findIn K (.ref V) "serve" = some (some (.ref f_serve)))
    (l_serve : K.lookup f_serve = some ⟨oc_serve, od_serve, .func (PySem.W.fnOf "serve" "ValueCache.serve" (defArgs sServe) (defBody sServe) (defScope sServe) .none kV_serve dc_serve pm_serve an_serve cd_serve ct_serve), sl_serve⟩)
    (c_serve : PySem.W.codeIn K cd_serve "ValueCache.serve" = true)
    (k_serve : PySem.W.keepIn K (.ref f_serve) = true)
    (i_serve : PySem.W.isFn K (.ref f_serve) = true)
    (a_vrequest : PySem.W.findIn K (.ref V) "request" = some (some (.ref f_vrequest)))
    (l_vrequest : K.lookup f_vrequest = some ⟨oc_vrequest, od_vrequest, .func (PySem.W.fnOf "request" "ValueCache.request" (defArgs sVReq) (defBody sVReq) (defScope sVReq) .none kV_vrequest dc_vrequest pm_vrequest an_vrequest cd_vrequest ct_vrequest), sl_vrequest⟩)
    (c_vrequest : PySem.W.codeIn K cd_vrequest "ValueCache.request" = true)
    (k_vrequest : PySem.W.keepIn K (.ref f_vrequest) = true)
    (i_vrequest : PySem.W.isFn K (.ref f_vrequest) = true)
    (a__law_cell : PySem.W.nsIn K mainGlobals "_law_cell" = some (some (.ref f__law_cell)))
    (l__law_cell : K.lookup f__law_cell = some ⟨oc__law_cell, od__law_cell, .func (PySem.W.fnOf "_law_cell" "_law_cell" (defArgs sCell) (defBody sCell) (defScope sCell) .none kV__law_cell dc__law_cell pm__law_cell an__law_cell cd__law_cell ct__law_cell), sl__law_cell⟩)
    (c__law_cell : PySem.W.codeIn K cd__law_cell "_law_cell" = true)
    (k__law_cell : PySem.W.keepIn K (.ref f__law_cell) = true)
    (a__law_pool : PySem.W.nsIn K mainGlobals "_law_pool" = some (some (.ref f__law_pool)))
    (l__law_pool : K.lookup f__law_pool = some ⟨oc__law_pool, od__law_pool, .func (PySem.W.fnOf "_law_pool" "_law_pool" (defArgs sPool) (defBody sPool) (defScope sPool) .none kV__law_pool dc__law_pool pm__law_pool an__law_pool cd__law_pool ct__law_pool), sl__law_pool⟩)
    (c__law_pool : PySem.W.codeIn K cd__law_pool "_law_pool" = true)
    (k__law_pool : PySem.W.keepIn K (.ref f__law_pool) = true)
    (a__law_draw : PySem.W.nsIn K mainGlobals "_law_draw" = some (some (.ref f__law_draw)))
    (l__law_draw : K.lookup f__law_draw = some ⟨oc__law_draw, od__law_draw, .func (PySem.W.fnOf "_law_draw" "_law_draw" (defArgs sDraw) (defBody sDraw) (defScope sDraw) .none kV__law_draw dc__law_draw pm__law_draw an__law_draw cd__law_draw ct__law_draw), sl__law_draw⟩)
    (c__law_draw : PySem.W.codeIn K cd__law_draw "_law_draw" = true)
    (k__law_draw : PySem.W.keepIn K (.ref f__law_draw) = true)
    (a__law_policy : PySem.W.nsIn K mainGlobals "_law_policy" = some (some (.ref f__law_policy)))
    (l__law_policy : K.lookup f__law_policy = some ⟨oc__law_policy, od__law_policy, .func (PySem.W.fnOf "_law_policy" "_law_policy" (defArgs sPolicy) (defBody sPolicy) (defScope sPolicy) .none kV__law_policy dc__law_policy pm__law_policy an__law_policy cd__law_policy ct__law_policy), sl__law_policy⟩)
    (c__law_policy : PySem.W.codeIn K cd__law_policy "_law_policy" = true)
    (k__law_policy : PySem.W.keepIn K (.ref f__law_policy) = true)
    (a__law_recent : PySem.W.nsIn K mainGlobals "_law_recent" = some (some (.ref f__law_recent)))
    (l__law_recent : K.lookup f__law_recent = some ⟨oc__law_recent, od__law_recent, .func (PySem.W.fnOf "_law_recent" "_law_recent" (defArgs sRecent) (defBody sRecent) (defScope sRecent) .none kV__law_recent dc__law_recent pm__law_recent an__law_recent cd__law_recent ct__law_recent), sl__law_recent⟩)
    (c__law_recent : PySem.W.codeIn K cd__law_recent "_law_recent" = true)
    (k__law_recent : PySem.W.keepIn K (.ref f__law_recent) = true)
    (a__law_queue : PySem.W.nsIn K mainGlobals "_law_queue" = some (some (.ref f__law_queue)))
    (l__law_queue : K.lookup f__law_queue = some ⟨oc__law_queue, od__law_queue, .func (PySem.W.fnOf "_law_queue" "_law_queue" (defArgs sQueue) (defBody sQueue) (defScope sQueue) .none kV__law_queue dc__law_queue pm__law_queue an__law_queue cd__law_queue ct__law_queue), sl__law_queue⟩)
    (c__law_queue : PySem.W.codeIn K cd__law_queue "_law_queue" = true)
    (k__law_queue : PySem.W.keepIn K (.ref f__law_queue) = true)
    (a__law_device : PySem.W.nsIn K mainGlobals "_law_device" = some (some (.ref f__law_device)))
    (l__law_device : K.lookup f__law_device = some ⟨oc__law_device, od__law_device, .func (PySem.W.fnOf "_law_device" "_law_device" (defArgs sDevice) (defBody sDevice) (defScope sDevice) .none kV__law_device dc__law_device pm__law_device an__law_device cd__law_device ct__law_device), sl__law_device⟩)
    (c__law_device : PySem.W.codeIn K cd__law_device "_law_device" = true)
    (k__law_device : PySem.W.keepIn K (.ref f__law_device) = true)
    (a__law_words : PySem.W.nsIn K mainGlobals "_law_words" = some (some (.ref f__law_words)))
    (l__law_words : K.lookup f__law_words = some ⟨oc__law_words, od__law_words, .func (PySem.W.fnOf "_law_words" "_law_words" (defArgs sWords) (defBody sWords) (defScope sWords) .none kV__law_words dc__law_words pm__law_words an__law_words cd__law_words ct__law_words), sl__law_words⟩)
    (c__law_words : PySem.W.codeIn K cd__law_words "_law_words" = true)
    (k__law_words : PySem.W.keepIn K (.ref f__law_words) = true)
    (a__law_drawn : PySem.W.nsIn K mainGlobals "_law_drawn" = some (some (.ref f__law_drawn)))
    (l__law_drawn : K.lookup f__law_drawn = some ⟨oc__law_drawn, od__law_drawn, .func (PySem.W.fnOf "_law_drawn" "_law_drawn" (defArgs sDrawn) (defBody sDrawn) (defScope sDrawn) .none kV__law_drawn dc__law_drawn pm__law_drawn an__law_drawn cd__law_drawn ct__law_drawn), sl__law_drawn⟩)
    (c__law_drawn : PySem.W.codeIn K cd__law_drawn "_law_drawn" = true)
    (k__law_drawn : PySem.W.keepIn K (.ref f__law_drawn) = true)
    (a__law_rounds : PySem.W.nsIn K mainGlobals "_law_rounds" = some (some (.ref f__law_rounds)))
    (l__law_rounds : K.lookup f__law_rounds = some ⟨oc__law_rounds, od__law_rounds, .func (PySem.W.fnOf "_law_rounds" "_law_rounds" (defArgs sRounds) (defBody sRounds) (defScope sRounds) .none kV__law_rounds dc__law_rounds pm__law_rounds an__law_rounds cd__law_rounds ct__law_rounds), sl__law_rounds⟩)
    (c__law_rounds : PySem.W.codeIn K cd__law_rounds "_law_rounds" = true)
    (k__law_rounds : PySem.W.keepIn K (.ref f__law_rounds) = true)
    (a__law_right : PySem.W.nsIn K mainGlobals "_law_right" = some (some (.ref f__law_right)))
    (l__law_right : K.lookup f__law_right = some ⟨oc__law_right, od__law_right, .func (PySem.W.fnOf "_law_right" "_law_right" (defArgs sRight) (defBody sRight) (defScope sRight) .none kV__law_right dc__law_right pm__law_right an__law_right cd__law_right ct__law_right), sl__law_right⟩)
    (c__law_right : PySem.W.codeIn K cd__law_right "_law_right" = true)
    (k__law_right : PySem.W.keepIn K (.ref f__law_right) = true)
    (a_law : PySem.W.nsIn K mainGlobals "law" = some (some (.ref f_law)))
    (l_law : K.lookup f_law = some ⟨oc_law, od_law, .func (PySem.W.fnOf "law" "law" (defArgs sLaw) (defBody sLaw) (defScope sLaw) .none kV_law dc_law pm_law an_law cd_law ct_law), sl_law⟩)
    (c_law : PySem.W.codeIn K cd_law "law" = true)
    (k_law : PySem.W.keepIn K (.ref f_law) = true)
    (w_note_answer : PySem.W.findIn K (.ref V) "note_answer" = some (some (.ref f_note_answer)))
    (w_box_twin : PySem.W.findIn K (.ref V) "box_twin" = some (some (.ref f_box_twin)))
    (a_V : PySem.W.findIn K (.ref V) "__init__" = some (some (.ref fV)))
    (i_V : PySem.W.isFn K (.ref fV) = true)
    (l_V : K.lookup fV = some ⟨oc_V, od_V, .func (PySem.W.ksFn "__init__" "ValueCache.__init__" (defArgs sVInit) (defBody sVInit) (defScope sVInit) .none kV_V dc_V pm_V an_V (.ref cdaV) ct_V ccV), sl_V⟩)
    (c_V : PySem.W.codeIn K (.ref cdaV) "ValueCache.__init__" = true)
    (u_cell : K.lookup ccV = some ⟨u1_cl, u2_cld, .cell (some (.ref V)), u6_csl⟩)
    (u_code : K.lookup cdaV = some ⟨u3_cl, u5_cdd, .fields vsV, u7_ccs⟩)
    (u_file : vsV[2]? = some (.str fileV tfV))
    (u_same : ((l.prog.main.file : Str) == fileV) = true)
    (u_cls : PySem.W.clsIn K V = some cdD)
    (u_sub : PySem.W.mroIn K V (.ref V) = some true)
    (u_sup : PySem.W.nsIn K mainGlobals "super" = some none)
    (u_tp : PySem.W.nsIn K PySem.cStatics "thirdparty.any" = some none)
    (u_at : PySem.W.ks_superIn K V V "__init__" = some (some (.ref f_Cache)))
    (u_ty : PySem.W.typeIn K (.ref f_Cache) = some (.type "function"))
    (u_fi : PySem.W.fnIn K f_Cache = true)
    (u_top : (l.prog.main.scope.names.lookup ("super" : Str)).isSome = false)
    (a_keep : PySem.W.nsIn K mainGlobals "_law_keep" = some (some (.ref kf)))
    (hg : PySem.W.typeIn K (.ref f__law_give) = some (.type "function"))
    (hk : PySem.W.typeIn K (.ref kf) = some (.type "function"))
    (z_len : PySem.W.nsIn K mainGlobals "len" = some none)
    (z_isinstance : PySem.W.nsIn K mainGlobals "isinstance" = some none)
    (z_int : PySem.W.nsIn K mainGlobals "int" = some none)
    (z_bool : PySem.W.nsIn K mainGlobals "bool" = some none)
    (z_str : PySem.W.nsIn K mainGlobals "str" = some none)
    (z_tuple : PySem.W.nsIn K mainGlobals "tuple" = some none)
    (z_list : PySem.W.nsIn K mainGlobals "list" = some none)
    (z_dict : PySem.W.nsIn K mainGlobals "dict" = some none)
    (z_all : PySem.W.nsIn K mainGlobals "all" = some none)
    (z_any : PySem.W.nsIn K mainGlobals "any" = some none)
    (z_enumerate : PySem.W.nsIn K mainGlobals "enumerate" = some none)
    (z_range : PySem.W.nsIn K mainGlobals "range" = some none)
    (z_max : PySem.W.nsIn K mainGlobals "max" = some none)
    (z_min : PySem.W.nsIn K mainGlobals "min" = some none)
    (z_abs : PySem.W.nsIn K mainGlobals "abs" = some none)
    (z_divmod : PySem.W.nsIn K mainGlobals "divmod" = some none)
    (z_sorted : PySem.W.nsIn K mainGlobals "sorted" = some none)
    (q_LONGEST : PySem.W.nsIn K mainGlobals "LONGEST" = some (some (.int 6 tk_LONGEST)))
    (q_MOST_LINES : PySem.W.nsIn K mainGlobals "MOST_LINES" = some (some (.int 4 tk_MOST_LINES)))
    (q_MOST_STATES : PySem.W.nsIn K mainGlobals "MOST_STATES" = some (some (.int 64 tk_MOST_STATES)))
    (q_MOST_REQUESTS : PySem.W.nsIn K mainGlobals "MOST_REQUESTS" = some (some (.int 2000 tk_MOST_REQUESTS)))
    (q_MOST_TIMES : PySem.W.nsIn K mainGlobals "MOST_TIMES" = some (some (.int 1000000000000000000000000000000 tk_MOST_TIMES)))
    (q_LETTERS : PySem.W.nsIn K mainGlobals "LETTERS" = some (some (.str "abcdefghijklmnopqrstuvwxyz" tk_LETTERS)))
    (q_LEVELS : PySem.W.nsIn K mainGlobals "LEVELS" = some (some (.ref al)))
    (q_lv : K.lookup al = some ⟨.type "tuple", od_lv, .seq #[.str "plain" tl1, .str "inclusive" tl2, .str "victim" tl3] n_lv, sl_lv⟩)
    : ∃ fd : FuncData, (∀ (s : Shared) (v : Value), BindsTo s fd ⟨[v], []⟩ [("_law_script", v)]) ∧ ∀ base : Heap, K.In base → base.Ns mainGlobals mg → FnOk l.prog w K mg base CX0 20 fa fd ["_law_script"] (spLaw K) := by
  have e := hfa.symm.trans (PySem.W.mg_of X G a_law)
  cases e
  have Bb : Bi mg := ⟨PySem.W.mg_none_of X G z_len, PySem.W.mg_none_of X G z_isinstance, PySem.W.mg_none_of X G z_int, PySem.W.mg_none_of X G z_bool, PySem.W.mg_none_of X G z_str, PySem.W.mg_none_of X G z_tuple, PySem.W.mg_none_of X G z_list, PySem.W.mg_none_of X G z_dict, PySem.W.mg_none_of X G z_all, PySem.W.mg_none_of X G z_any, PySem.W.mg_none_of X G z_enumerate, PySem.W.mg_none_of X G z_range, PySem.W.mg_none_of X G z_max, PySem.W.mg_none_of X G z_min, PySem.W.mg_none_of X G z_abs, PySem.W.mg_none_of X G z_divmod, PySem.W.mg_none_of X G z_sorted⟩
  have Cc : Cn K mg := ⟨⟨_, PySem.W.mg_of X G q_LETTERS⟩, ⟨_, PySem.W.mg_of X G q_LONGEST⟩, ⟨_, PySem.W.mg_of X G q_MOST_LINES⟩, ⟨_, PySem.W.mg_of X G q_MOST_STATES⟩, ⟨_, PySem.W.mg_of X G q_MOST_REQUESTS⟩, ⟨_, PySem.W.mg_of X G q_MOST_TIMES⟩, ⟨al, PySem.W.mg_of X G q_LEVELS, fun H => .inr ⟨_, _, _, q_lv, rfl, rfl, by show (3 : Nat) ≤ sizeLine; decide, .cons ⟨_, rfl⟩ (.cons ⟨_, rfl⟩ (.cons ⟨_, rfl⟩ .nil))⟩⟩⟩
  have cB : Cls K B := ⟨pgB, hdB, poB, saB⟩
  have cC : Cls K C := ⟨pgC, hdC, poC, saC⟩
  have cV : Cls K V := ⟨pgV, hdV, poV, saV⟩
  have bk : BK K B := ⟨cB, nB_mode, nB_policies, nB_stages, nB_rows⟩
  have ckC : CK K C := ⟨cC, nC_pattern, nC_box, nC_hit_number, nC_miss_number⟩
  have ckV : CK K V := ⟨cV, nV_pattern, nV_box, nV_hit_number, nV_miss_number⟩
  have vkV : VK_ K V := ⟨nV_load, nV_store, nV_worths, nV_fresh, nV_working⟩
  have F_is_name := fun_mk (st := sIsName) l_is_name c_is_name k_is_name
  have b_is_name := F_is_name.binds (ps := ["value"]) fun _ _ _ _ _ _ us hl => match us, hl with | [_], _ => rfl
  have F_check_name := fun_mk (st := sChkName) l_check_name c_check_name k_check_name
  have b_check_name := F_check_name.binds (ps := ["name"]) fun _ _ _ _ _ _ us hl => match us, hl with | [_], _ => rfl
  have F_check_history := fun_mk (st := sChkHist) l_check_history c_check_history k_check_history
  have b_check_history := F_check_history.binds (ps := ["names"]) fun _ _ _ _ _ _ us hl => match us, hl with | [_], _ => rfl
  have F_is_integer := fun_mk (st := sIsInt) l_is_integer c_is_integer k_is_integer
  have b_is_integer := F_is_integer.binds (ps := ["value"]) fun _ _ _ _ _ _ us hl => match us, hl with | [_], _ => rfl
  have F_is_between := fun_mk (st := sIsBet) l_is_between c_is_between k_is_between
  have b_is_between := F_is_between.binds (ps := ["value", "least", "greatest"]) fun _ _ _ _ _ _ us hl => match us, hl with | [_, _, _], _ => rfl
  have F_is_row := fun_mk (st := sIsRow) l_is_row c_is_row k_is_row
  have b_is_row := F_is_row.binds (ps := ["value", "lines", "states"]) fun _ _ _ _ _ _ us hl => match us, hl with | [_, _, _], _ => rfl
  have F_is_policy := fun_mk (st := sIsPol) l_is_policy c_is_policy k_is_policy
  have b_is_policy := F_is_policy.binds (ps := ["value"]) fun _ _ _ _ _ _ us hl => match us, hl with | [_], _ => rfl
  have F_is_device := fun_mk (st := sIsDev) l_is_device c_is_device k_is_device
  have b_is_device := F_is_device.binds (ps := ["value"]) fun _ _ _ _ _ _ us hl => match us, hl with | [_], _ => rfl
  have F_check_device := fun_mk (st := sChkDev) l_check_device c_check_device k_check_device
  have b_check_device := F_check_device.binds (ps := ["device"]) fun _ _ _ _ _ _ us hl => match us, hl with | [_], _ => rfl
  have F_Box := fun_mk (st := sBInit) l_Box c_Box k_Box
  have b_Box := F_Box.binds (ps := ["self", "device"]) fun _ _ _ _ _ _ us hl => match us, hl with | [_, _], _ => rfl
  have F_holds := fun_mk (st := sHolds) l_holds c_holds k_holds
  have b_holds := F_holds.binds (ps := ["self", "name"]) fun _ _ _ _ _ _ us hl => match us, hl with | [_, _], _ => rfl
  have F_told := fun_mk (st := sTold) l_told c_told k_told
  have b_told := F_told.binds (ps := ["self", "level"]) fun _ _ _ _ _ _ us hl => match us, hl with | [_, _], _ => rfl
  have F_touch := fun_mk (st := sTouch) l_touch c_touch k_touch
  have b_touch := F_touch.binds (ps := ["self", "level", "line"]) fun _ _ _ _ _ _ us hl => match us, hl with | [_, _, _], _ => rfl
  have F_fill := fun_mk (st := sFill) l_fill c_fill k_fill
  have b_fill := F_fill.binds (ps := ["self", "level", "name"]) fun _ _ _ _ _ _ us hl => match us, hl with | [_, _, _], _ => rfl
  have F_go_down := fun_mk (st := sDown) l_go_down c_go_down k_go_down
  have b_go_down := F_go_down.binds (ps := ["self", "name", "gone"]) fun _ _ _ _ _ _ us hl => match us, hl with | [_, _, _], _ => rfl
  have F_ask := fun_mk (st := sAsk) l_ask c_ask k_ask
  have b_ask := F_ask.binds (ps := ["self", "name"]) fun _ _ _ _ _ _ us hl => match us, hl with | [_, _], _ => rfl
  have F_moment := fun_mk (st := sMom) l_moment c_moment k_moment
  have b_moment := F_moment.binds (ps := ["self"]) fun _ _ _ _ _ _ us hl => match us, hl with | [_], _ => rfl
  have F_box_at := fun_mk (st := sBoxAt) l_box_at c_box_at k_box_at
  have b_box_at := F_box_at.binds (ps := ["device", "states", "contents"]) fun _ _ _ _ _ _ us hl => match us, hl with | [_, _, _], _ => rfl
  have F_answers := fun_mk (st := sAns) l_answers c_answers k_answers
  have b_answers := F_answers.binds (ps := ["device", "names"]) fun _ _ _ _ _ _ us hl => match us, hl with | [_, _], _ => rfl
  have F_count_misses := fun_mk (st := sCnt) l_count_misses c_count_misses k_count_misses
  have b_count_misses := F_count_misses.binds (ps := ["device", "names"]) fun _ _ _ _ _ _ us hl => match us, hl with | [_, _], _ => rfl
  have F_misses_of := fun_mk (st := sMiss) l_misses_of c_misses_of k_misses_of
  have b_misses_of := F_misses_of.binds (ps := ["box", "names"]) fun _ _ _ _ _ _ us hl => match us, hl with | [_, _], _ => rfl
  have F_rounds_of := fun_mk (st := sRnd) l_rounds_of c_rounds_of k_rounds_of
  have b_rounds_of := F_rounds_of.binds (ps := ["box", "circle", "most"]) fun _ _ _ _ _ _ us hl => match us, hl with | [_, _, _], _ => rfl
  have F_far_misses := fun_mk (st := sFar) l_far_misses c_far_misses k_far_misses
  have b_far_misses := F_far_misses.binds (ps := ["device", "ahead", "circle", "times"]) fun _ _ _ _ _ _ us hl => match us, hl with | [_, _, _, _], _ => rfl
  have F_long_run := fun_mk (st := sLong) l_long_run c_long_run k_long_run
  have b_long_run := F_long_run.binds (ps := ["device", "circle"]) fun _ _ _ _ _ _ us hl => match us, hl with | [_, _], _ => rfl
  have F_Cache := fun_mk (st := sCInit) l_Cache c_Cache k_Cache
  have b_Cache := F_Cache.binds (ps := ["self", "device"]) fun _ _ _ _ _ _ us hl => match us, hl with | [_, _], _ => rfl
  have F_note_answer := fun_mk (st := sNote) l_note_answer c_note_answer k_note_answer
  have b_note_answer := F_note_answer.binds (ps := ["self", "answer"]) fun _ _ _ _ _ _ us hl => match us, hl with | [_, _], _ => rfl
  have F_crequest := fun_mk (st := sCReq) l_crequest c_crequest k_crequest
  have b_crequest := F_crequest.binds (ps := ["self", "name"]) fun _ _ _ _ _ _ us hl => match us, hl with | [_, _], _ => rfl
  have F_box_twin := fun_mk (st := sBTw) l_box_twin c_box_twin k_box_twin
  have b_box_twin := F_box_twin.binds (ps := ["self"]) fun _ _ _ _ _ _ us hl => match us, hl with | [_], _ => rfl
  have F_take_over := fun_mk (st := sOver) l_take_over c_take_over k_take_over
  have b_take_over := F_take_over.binds (ps := ["self", "other"]) fun _ _ _ _ _ _ us hl => match us, hl with | [_, _], _ => rfl
  have F_twin := fun_mk (st := sTwin) l_twin c_twin k_twin
  have b_twin := F_twin.binds (ps := ["self"]) fun _ _ _ _ _ _ us hl => match us, hl with | [_], _ => rfl
  have F_states := fun_mk (st := sCSt) l_states c_states k_states
  have b_states := F_states.binds (ps := ["self"]) fun _ _ _ _ _ _ us hl => match us, hl with | [_], _ => rfl
  have F_levels := fun_mk (st := sCLv) l_levels c_levels k_levels
  have b_levels := F_levels.binds (ps := ["self"]) fun _ _ _ _ _ _ us hl => match us, hl with | [_], _ => rfl
  have F_misses := fun_mk (st := sCMs) l_misses c_misses k_misses
  have b_misses := F_misses.binds (ps := ["self"]) fun _ _ _ _ _ _ us hl => match us, hl with | [_], _ => rfl
  have F_check_function := fun_mk (st := sChkF) l_check_function c_check_function k_check_function
  have b_check_function := F_check_function.binds (ps := ["value"]) fun _ _ _ _ _ _ us hl => match us, hl with | [_], _ => rfl
  have F__law_give := fun_mk (st := sGive) l__law_give c__law_give k__law_give
  have b__law_give := F__law_give.binds (ps := ["_law_who"]) fun _ _ _ _ _ _ us hl => match us, hl with | [_], _ => rfl
  have F_check_idle := fun_mk (st := sIdle) l_check_idle c_check_idle k_check_idle
  have b_check_idle := F_check_idle.binds (ps := ["self"]) fun _ _ _ _ _ _ us hl => match us, hl with | [_], _ => rfl
  have F_serve := fun_mk (st := sServe) l_serve c_serve k_serve
  have b_serve := F_serve.binds (ps := ["self", "name", "is_put", "value"]) fun _ _ _ _ _ _ us hl => match us, hl with | [_, _, _, _], _ => rfl
  have F_vrequest := fun_mk (st := sVReq) l_vrequest c_vrequest k_vrequest
  have b_vrequest := F_vrequest.binds (ps := ["self", "name"]) fun _ _ _ _ _ _ us hl => match us, hl with | [_, _], _ => rfl
  have F__law_cell := fun_mk (st := sCell) l__law_cell c__law_cell k__law_cell
  have b__law_cell := F__law_cell.binds (ps := ["_law_script", "_law_k"]) fun _ _ _ _ _ _ us hl => match us, hl with | [_, _], _ => rfl
  have F__law_pool := fun_mk (st := sPool) l__law_pool c__law_pool k__law_pool
  have b__law_pool := F__law_pool.binds (ps := ["_law_figure"]) fun _ _ _ _ _ _ us hl => match us, hl with | [_], _ => rfl
  have F__law_draw := fun_mk (st := sDraw) l__law_draw c__law_draw k__law_draw
  have b__law_draw := F__law_draw.binds (ps := ["_law_pool_here", "_law_most"]) fun _ _ _ _ _ _ us hl => match us, hl with | [_, _], _ => rfl
  have F__law_policy := fun_mk (st := sPolicy) l__law_policy c__law_policy k__law_policy
  have b__law_policy := F__law_policy.binds (ps := ["_law_pool_here", "_law_lines", "_law_states"]) fun _ _ _ _ _ _ us hl => match us, hl with | [_, _, _], _ => rfl
  have F__law_recent := fun_mk (st := sRecent) l__law_recent c__law_recent k__law_recent
  have b__law_recent := F__law_recent.binds (ps := ["_law_lines"]) fun _ _ _ _ _ _ us hl => match us, hl with | [_], _ => rfl
  have F__law_queue := fun_mk (st := sQueue) l__law_queue c__law_queue k__law_queue
  have b__law_queue := F__law_queue.binds (ps := ["_law_lines"]) fun _ _ _ _ _ _ us hl => match us, hl with | [_], _ => rfl
  have F__law_device := fun_mk (st := sDevice) l__law_device c__law_device k__law_device
  have b__law_device := F__law_device.binds (ps := ["_law_pool_here", "_law_most", "_law_states"]) fun _ _ _ _ _ _ us hl => match us, hl with | [_, _, _], _ => rfl
  have F__law_words := fun_mk (st := sWords) l__law_words c__law_words k__law_words
  have b__law_words := F__law_words.binds (ps := ["_law_pool_here"]) fun _ _ _ _ _ _ us hl => match us, hl with | [_], _ => rfl
  have F__law_drawn := fun_mk (st := sDrawn) l__law_drawn c__law_drawn k__law_drawn
  have b__law_drawn := F__law_drawn.binds (ps := ["_law_pool_here", "_law_words_here", "_law_size", "_law_most"]) fun _ _ _ _ _ _ us hl => match us, hl with | [_, _, _, _], _ => rfl
  have F__law_rounds := fun_mk (st := sRounds) l__law_rounds c__law_rounds k__law_rounds
  have b__law_rounds := F__law_rounds.binds (ps := ["_law_cache", "_law_ring", "_law_many"]) fun _ _ _ _ _ _ us hl => match us, hl with | [_, _, _], _ => rfl
  have F__law_right := fun_mk (st := sRight) l__law_right c__law_right k__law_right
  have b__law_right := F__law_right.binds (ps := ["_law_pool_here", "_law_rig", "_law_ring"]) fun _ _ _ _ _ _ us hl => match us, hl with | [_, _, _], _ => rfl
  have F_law := fun_mk (st := sLaw) l_law c_law k_law
  have b_law := F_law.binds (ps := ["_law_script"]) fun _ _ _ _ _ _ us hl => match us, hl with | [_], _ => rfl
  refine ⟨PySem.W.fnOf "law" "law" (defArgs sLaw) (defBody sLaw) (defScope sLaw) .none kV_law dc_law pm_law an_law cd_law ct_law, fun s v => .of_eq rfl, fun base _ _ => ?_⟩
  have D_is_name : Def l.prog w K mg base "is_name" ["value"] 1 spIsName := ⟨f_is_name, _, PySem.W.mg_of X G a_is_name, k_is_name, b_is_name, ok_is_name F_is_name Bb Cc⟩
  have D_check_name : Def l.prog w K mg base "check_name" ["name"] 2 spChkName := ⟨f_check_name, _, PySem.W.mg_of X G a_check_name, k_check_name, b_check_name, ok_check_name F_check_name D_is_name⟩
  have D_check_history : Def l.prog w K mg base "check_history" ["names"] 2 spChkHist := ⟨f_check_history, _, PySem.W.mg_of X G a_check_history, k_check_history, b_check_history, ok_check_history F_check_history Bb Cc D_is_name⟩
  have D_is_integer : Def l.prog w K mg base "is_integer" ["value"] 1 spIsInt := ⟨f_is_integer, _, PySem.W.mg_of X G a_is_integer, k_is_integer, b_is_integer, ok_is_integer F_is_integer Bb⟩
  have D_is_between : Def l.prog w K mg base "is_between" ["value", "least", "greatest"] 2 spIsBet := ⟨f_is_between, _, PySem.W.mg_of X G a_is_between, k_is_between, b_is_between, ok_is_between F_is_between D_is_integer⟩
  have D_is_row : Def l.prog w K mg base "is_row" ["value", "lines", "states"] 3 spIsRow := ⟨f_is_row, _, PySem.W.mg_of X G a_is_row, k_is_row, b_is_row, ok_is_row F_is_row Bb D_is_between⟩
  have D_is_policy : Def l.prog w K mg base "is_policy" ["value"] 4 spIsPol := ⟨f_is_policy, _, PySem.W.mg_of X G a_is_policy, k_is_policy, b_is_policy, ok_is_policy F_is_policy Bb Cc D_is_between D_is_row⟩
  have D_is_device : Def l.prog w K mg base "is_device" ["value"] 5 spIsDev := ⟨f_is_device, _, PySem.W.mg_of X G a_is_device, k_is_device, b_is_device, ok_is_device F_is_device Bb Cc D_is_policy⟩
  have D_check_device : Def l.prog w K mg base "check_device" ["device"] 6 spChkDev := ⟨f_check_device, _, PySem.W.mg_of X G a_check_device, k_check_device, b_check_device, ok_check_device F_check_device D_is_device⟩
  have D_Box : CDef l.prog w K mg base B "Box" ["self", "device"] 1 (spBInit B) := ⟨f_Box, _, PySem.W.mg_of X G aB, ⟨mkB, a_Box, i_Box, kcB⟩, b_Box, ok_binit F_Box Bb bk⟩
  have D_holds : MDef l.prog w K mg base B "holds" ["self", "name"] 1 (spHolds B) := ⟨f_holds, _, ⟨a_holds, i_holds, k_holds⟩, b_holds, ok_holds F_holds Bb bk⟩
  have D_told : MDef l.prog w K mg base B "told" ["self", "level"] 1 (spTold B) := ⟨f_told, _, ⟨a_told, i_told, k_told⟩, b_told, ok_told F_told Bb bk⟩
  have D_touch : MDef l.prog w K mg base B "touch" ["self", "level", "line"] 2 (spTouch B) := ⟨f_touch, _, ⟨a_touch, i_touch, k_touch⟩, b_touch, ok_touch F_touch bk cB D_told⟩
  have D_fill : MDef l.prog w K mg base B "fill" ["self", "level", "name"] 2 (spFill B) := ⟨f_fill, _, ⟨a_fill, i_fill, k_fill⟩, b_fill, ok_fill F_fill bk cB D_told⟩
  have D_go_down : MDef l.prog w K mg base B "go_down" ["self", "name", "gone"] 3 (spDown B) := ⟨f_go_down, _, ⟨a_go_down, i_go_down, k_go_down⟩, b_go_down, ok_go_down F_go_down bk cB D_touch D_fill⟩
  have D_ask : MDef l.prog w K mg base B "ask" ["self", "name"] 4 (spAsk B) := ⟨f_ask, _, ⟨a_ask, i_ask, k_ask⟩, b_ask, ok_ask F_ask Bb bk cB D_holds D_touch D_fill D_go_down⟩
  have D_moment : MDef l.prog w K mg base B "moment" ["self"] 1 (spMom B) := ⟨f_moment, _, ⟨a_moment, i_moment, k_moment⟩, b_moment, ok_moment F_moment Bb bk⟩
  have D_box_at : Def l.prog w K mg base "box_at" ["device", "states", "contents"] 3 (spBoxAt B) := ⟨f_box_at, _, PySem.W.mg_of X G a_box_at, k_box_at, b_box_at, ok_box_at F_box_at Bb bk D_Box⟩
  have D_answers : Def l.prog w K mg base "answers" ["device", "names"] 7 spAns := ⟨f_answers, _, PySem.W.mg_of X G a_answers, k_answers, b_answers, ok_answers F_answers Bb cB D_check_device D_check_history D_Box D_ask⟩
  have D_count_misses : Def l.prog w K mg base "count_misses" ["device", "names"] 8 spCnt := ⟨f_count_misses, _, PySem.W.mg_of X G a_count_misses, k_count_misses, b_count_misses, ok_count_misses F_count_misses D_answers⟩
  have D_misses_of : Def l.prog w K mg base "misses_of" ["box", "names"] 5 (spMiss B) := ⟨f_misses_of, _, PySem.W.mg_of X G a_misses_of, k_misses_of, b_misses_of, ok_misses_of F_misses_of cB D_ask⟩
  have D_rounds_of : Def l.prog w K mg base "rounds_of" ["box", "circle", "most"] 6 (spRnd B) := ⟨f_rounds_of, _, PySem.W.mg_of X G a_rounds_of, k_rounds_of, b_rounds_of, ok_rounds_of F_rounds_of Bb cB D_moment D_misses_of⟩
  have D_far_misses : Def l.prog w K mg base "far_misses" ["device", "ahead", "circle", "times"] 7 spFar := ⟨f_far_misses, _, PySem.W.mg_of X G a_far_misses, k_far_misses, b_far_misses, ok_far_misses F_far_misses Bb Cc D_is_between D_check_device D_check_history D_Box D_misses_of D_rounds_of⟩
  have D_long_run : Def l.prog w K mg base "long_run" ["device", "circle"] 7 spLong := ⟨f_long_run, _, PySem.W.mg_of X G a_long_run, k_long_run, b_long_run, ok_long_run F_long_run Bb Cc D_check_device D_check_history D_Box D_rounds_of⟩
  have D_Cache : CDef l.prog w K mg base C "Cache" ["self", "device"] 7 (spCInit B C) := ⟨f_Cache, _, PySem.W.mg_of X G aC, ⟨mkC, a_Cache, i_Cache, kcC⟩, b_Cache, ok_cinit F_Cache ckC D_check_device D_Box⟩
  have D_note_answer : MDef l.prog w K mg base C "note_answer" ["self", "answer"] 1 (spNote C) := ⟨f_note_answer, _, ⟨a_note_answer, i_note_answer, k_note_answer⟩, b_note_answer, ok_note F_note_answer ckC⟩
  have D_note_answerV : MDef l.prog w K mg base V "note_answer" ["self", "answer"] 1 (spNote V) := ⟨f_note_answer, _, ⟨w_note_answer, i_note_answer, k_note_answer⟩, b_note_answer, ok_note F_note_answer ckV⟩
  have D_crequest : MDef l.prog w K mg base C "request" ["self", "name"] 6 (spReqA (AtC B C)) := ⟨f_crequest, _, ⟨a_crequest, i_crequest, k_crequest⟩, b_crequest, reqC (ok_crequest F_crequest bk ckC cB cC D_check_name D_ask D_note_answer) (by decide)⟩
  have D_box_twin : MDef l.prog w K mg base C "box_twin" ["self"] 4 (spBTw B C) := ⟨f_box_twin, _, ⟨a_box_twin, i_box_twin, k_box_twin⟩, b_box_twin, ok_box_twin F_box_twin bk ckC cB D_moment D_box_at⟩
  have D_box_twinV : MDef l.prog w K mg base V "box_twin" ["self"] 4 (spBTw B V) := ⟨f_box_twin, _, ⟨w_box_twin, i_box_twin, k_box_twin⟩, b_box_twin, ok_box_twin F_box_twin bk ckV cB D_moment D_box_at⟩
  have D_take_over : MDef l.prog w K mg base C "take_over" ["self", "other"] 5 (spOver B C) := ⟨f_take_over, _, ⟨a_take_over, i_take_over, k_take_over⟩, b_take_over, ok_take_over F_take_over ckC cC D_box_twin⟩
  have D_twin : MDef l.prog w K mg base C "twin" ["self"] 9 (spTwin B C) := ⟨f_twin, _, ⟨a_twin, i_twin, k_twin⟩, b_twin, ok_twin F_twin ckC cC D_Cache D_take_over⟩
  have D_states : PDef l.prog w K mg base C "states" 1 (spCSt B C) := ⟨p_states, f_states, _, ⟨a_states, g_states, t_states, ⟨_, r_states⟩⟩, b_states, ok_cstates F_states Bb bk ckC⟩
  have D_statesV : PDef l.prog w K mg base V "states" 1 (spCSt B V) := ⟨p_states, f_states, _, ⟨v_states, g_states, t_states, ⟨_, r_states⟩⟩, b_states, ok_cstates F_states Bb bk ckV⟩
  have D_levels : PDef l.prog w K mg base C "levels" 1 (spCLv B C) := ⟨p_levels, f_levels, _, ⟨a_levels, g_levels, t_levels, ⟨_, r_levels⟩⟩, b_levels, ok_clevels F_levels Bb bk ckC⟩
  have D_levelsV : PDef l.prog w K mg base V "levels" 1 (spCLv B V) := ⟨p_levels, f_levels, _, ⟨v_levels, g_levels, t_levels, ⟨_, r_levels⟩⟩, b_levels, ok_clevels F_levels Bb bk ckV⟩
  have D_misses : PDef l.prog w K mg base C "misses" 1 (spCMs B C) := ⟨p_misses, f_misses, _, ⟨a_misses, g_misses, t_misses, ⟨_, r_misses⟩⟩, b_misses, ok_cmisses F_misses ckC⟩
  have D_missesV : PDef l.prog w K mg base V "misses" 1 (spCMs B V) := ⟨p_misses, f_misses, _, ⟨v_misses, g_misses, t_misses, ⟨_, r_misses⟩⟩, b_misses, ok_cmisses F_misses ckV⟩
  have D_check_function : Def l.prog w K mg base "check_function" ["value"] 1 (spChkF K) := ⟨f_check_function, _, PySem.W.mg_of X G a_check_function, k_check_function, b_check_function, ok_check_function F_check_function Bb⟩
  obtain ⟨D__law_give, hDg⟩ : ∃ D : Def l.prog w K mg base "_law_give" ["_law_who"] 1 spGive, D.f = f__law_give := ⟨⟨f__law_give, _, PySem.W.mg_of X G a__law_give, k__law_give, b__law_give, ok_give F__law_give Bb⟩, rfl⟩
  have hgF : PySem.W.typeIn K (.ref D__law_give.f) = some (.type "function") := by rw [hDg]; exact hg
  have hkF := hk
  have mKeep := PySem.W.mg_of X G a_keep
  have D_check_idle : MDef l.prog w K mg base V "check_idle" ["self"] 1 (spIdle V) := ⟨f_check_idle, _, ⟨a_check_idle, i_check_idle, k_check_idle⟩, b_check_idle, ok_check_idle F_check_idle ckV vkV⟩
  have D_serve : MDef l.prog w K mg base V "serve" ["self", "name", "is_put", "value"] 5 (spServe B V D__law_give.f) := ⟨f_serve, _, ⟨a_serve, i_serve, k_serve⟩, b_serve, ok_serve F_serve Bb bk ckV vkV cB cV D_box_twinV D_ask D_holds D_note_answerV D__law_give⟩
  have D_vrequest : MDef l.prog w K mg base V "request" ["self", "name"] 6 (spReqA (AtV B V D__law_give.f)) := ⟨f_vrequest, _, ⟨a_vrequest, i_vrequest, k_vrequest⟩, b_vrequest, reqV (ok_vrequest F_vrequest cV D_check_idle D_check_name D_serve) (by decide)⟩
  have D__law_cell : Def l.prog w K mg base "_law_cell" ["_law_script", "_law_k"] 1 (spCell_ K) := ⟨f__law_cell, _, PySem.W.mg_of X G a__law_cell, k__law_cell, b__law_cell, ok_cell F__law_cell Bb⟩
  have D__law_pool : Def l.prog w K mg base "_law_pool" ["_law_figure"] 1 spPool := ⟨f__law_pool, _, PySem.W.mg_of X G a__law_pool, k__law_pool, b__law_pool, ok_pool F__law_pool Bb⟩
  have D__law_draw : Def l.prog w K mg base "_law_draw" ["_law_pool_here", "_law_most"] 1 spDraw := ⟨f__law_draw, _, PySem.W.mg_of X G a__law_draw, k__law_draw, b__law_draw, ok_draw F__law_draw Bb⟩
  have D__law_policy : Def l.prog w K mg base "_law_policy" ["_law_pool_here", "_law_lines", "_law_states"] 2 spPolicy := ⟨f__law_policy, _, PySem.W.mg_of X G a__law_policy, k__law_policy, b__law_policy, ok_policy F__law_policy Bb D__law_draw⟩
  have D__law_recent : Def l.prog w K mg base "_law_recent" ["_law_lines"] 2 spRecent := ⟨f__law_recent, _, PySem.W.mg_of X G a__law_recent, k__law_recent, b__law_recent, ok_recent F__law_recent Bb⟩
  have D__law_queue : Def l.prog w K mg base "_law_queue" ["_law_lines"] 1 spQueue := ⟨f__law_queue, _, PySem.W.mg_of X G a__law_queue, k__law_queue, b__law_queue, ok_queue F__law_queue Bb⟩
  have D__law_device : Def l.prog w K mg base "_law_device" ["_law_pool_here", "_law_most", "_law_states"] 3 spDevice := ⟨f__law_device, _, PySem.W.mg_of X G a__law_device, k__law_device, b__law_device, ok_device F__law_device Bb D__law_draw D__law_recent D__law_queue D__law_policy⟩
  have D__law_words : Def l.prog w K mg base "_law_words" ["_law_pool_here"] 2 spWords := ⟨f__law_words, _, PySem.W.mg_of X G a__law_words, k__law_words, b__law_words, ok_words F__law_words Bb D__law_draw⟩
  have D__law_drawn : Def l.prog w K mg base "_law_drawn" ["_law_pool_here", "_law_words_here", "_law_size", "_law_most"] 2 spDrawn := ⟨f__law_drawn, _, PySem.W.mg_of X G a__law_drawn, k__law_drawn, b__law_drawn, ok_drawn F__law_drawn Bb D__law_draw⟩
  have D__law_rounds : Def l.prog w K mg base "_law_rounds" ["_law_cache", "_law_ring", "_law_many"] 7 (spRounds (AtC B C)) := ⟨f__law_rounds, _, PySem.W.mg_of X G a__law_rounds, k__law_rounds, b__law_rounds, ok_rounds F__law_rounds Bb cC sysC D_states D_levels D_misses D_crequest⟩
  have D_rV : Def l.prog w K mg base "_law_rounds" ["_law_cache", "_law_ring", "_law_many"] 7 (spRounds (AtV B V D__law_give.f)) := ⟨f__law_rounds, _, PySem.W.mg_of X G a__law_rounds, k__law_rounds, b__law_rounds, ok_rounds F__law_rounds Bb cV sysV D_statesV D_levelsV D_missesV D_vrequest⟩
  have D_ValueCache : CDef l.prog w K mg base V "ValueCache" ["self", "device", "load", "store"] 8 (spVInit K B V) := ⟨fV, _, PySem.W.mg_of X G aV, ⟨mkV, a_V, i_V, kcV⟩, .all fun us hl => match us, hl with | [_, _, _, _], _ => rfl, ok_vinit ckV vkV cV l_V c_V ⟨⟨_, _, _, u_cell⟩, ⟨_, _, _, _, _, _, u_code, u_file, u_same⟩, ⟨_, u_cls⟩, u_sub, u_sup, u_tp, u_at, u_ty, u_fi, by decide, u_top⟩ (ok_cinit F_Cache ckV D_check_device D_Box) b_Cache D_check_function⟩
  have D__law_right : Def l.prog w K mg base "_law_right" ["_law_pool_here", "_law_rig", "_law_ring"] 10 spRight := ⟨f__law_right, _, PySem.W.mg_of X G a__law_right, k__law_right, b__law_right, ok_right F__law_right Bb cC D_long_run D_Cache D_ValueCache D__law_give mKeep hgF hkF D__law_rounds D_rV D_count_misses D__law_draw D_far_misses D_twin⟩
  exact ok_law F_law Bb D__law_cell D__law_pool D__law_device D__law_words D__law_right D__law_drawn D__law_draw
theorem walk {l : PySem.W.OpenLaw} {q : Program} {loose : List Str} {XP : (Str → Option Value) → Heap → Prop} {YP : World → Heap → Prop} {d : DefRec} {K : Params → PySem.W.Frag} (hn : l.most = some 63) (hdf : d.params.defaults = [])
    (hY : ∀ (w : World) (h : Heap), YP w h → (K w.params).In h)
    (F : ∀ (w : World) (mg : Str → Option Value) (fa : Addr) (h : Heap), (K w.params).In h → h.Ns mainGlobals mg → mg d.name = some (.ref fa) →
      ∃ fd : FuncData, (∀ (s : Shared) (u : Value), BindsTo s fd ⟨[u], []⟩ [("_law_script", u)]) ∧ ∀ base : Heap, (K w.params).In base → base.Ns mainGlobals mg → FnOk l.prog w (K w.params) mg base CX0 20 fa fd ["_law_script"] (spLaw (K w.params))) :
    PySem.W.WalkO q loose XP YP l.row.toRowW d [] (fun f vs => PySem.call f vs) :=
  L2.walk_of (n := 63) (k := 20) (x := "_law_script") (CX := fun _ => CX0) (sp := fun w => spLaw (K w.params)) hn (by decide) hdf ⟨rfl, by decide, by decide⟩ hY F (fun _ _ a ns hl _ hS => ⟨a, ns, rfl, hS, hl, fun _ => rfl⟩) fun _ _ _ _ _ z => z
end K53
end
set_option Elab.async false
open PySem PySem.W PyProof.Rows
set_option maxRecDepth 100000
set_option maxHeartbeats 0
open_top k53head for PySem.Challenge.rw_missbounds_k53_whole_far_and_long_runs
set_option Elab.async false
set_option linter.all false
open PySem PySem.W PyProof.Rows
set_option maxRecDepth 100000 in
set_option maxHeartbeats 0 in
theorem PySem.Challenge.cw_missbounds_k53_whole_far_and_long_runs_holds : PySem.Challenge.rw_missbounds_k53_whole_far_and_long_runs.Holds := by
  exact k53head (by
  k_fill
  refine K53.walk (l := PySem.Challenge.rw_missbounds_k53_whole_far_and_long_runs) rfl rfl (fun w h Y => PySem.W.kIn_of Y) ?F
  case F =>
    intro w mg fa h KX G hmg
    refine' K53.all_mk KX G hmg ?aB ?pgB ?hdB ?poB ?saB ?mkB ?kcB ?aC ?pgC ?hdC ?poC ?saC ?mkC ?kcC ?aV ?pgV ?hdV ?poV ?saV ?mkV ?kcV ?nB_mode ?nB_policies ?nB_stages ?nB_rows ?nC_pattern ?nC_box ?nC_hit_number ?nC_miss_number ?nV_pattern ?nV_box ?nV_hit_number ?nV_miss_number ?nV_load ?nV_store ?nV_worths ?nV_fresh ?nV_working ?a_is_name ?l_is_name ?c_is_name ?k_is_name ?a_check_name ?l_check_name ?c_check_name ?k_check_name ?a_check_history ?l_check_history ?c_check_history ?k_check_history ?a_is_integer ?l_is_integer ?c_is_integer ?k_is_integer ?a_is_between ?l_is_between ?c_is_between ?k_is_between ?a_is_row ?l_is_row ?c_is_row ?k_is_row ?a_is_policy ?l_is_policy ?c_is_policy ?k_is_policy ?a_is_device ?l_is_device ?c_is_device ?k_is_device ?a_check_device ?l_check_device ?c_check_device ?k_check_device ?a_Box ?l_Box ?c_Box ?k_Box ?i_Box ?a_holds ?l_holds ?c_holds ?k_holds ?i_holds ?a_told ?l_told ?c_told ?k_told ?i_told ?a_touch ?l_touch ?c_touch ?k_touch ?i_touch ?a_fill ?l_fill ?c_fill ?k_fill ?i_fill ?a_go_down ?l_go_down ?c_go_down ?k_go_down ?i_go_down ?a_ask ?l_ask ?c_ask ?k_ask ?i_ask ?a_moment ?l_moment ?c_moment ?k_moment ?i_moment ?a_box_at ?l_box_at ?c_box_at ?k_box_at ?a_answers ?l_answers ?c_answers ?k_answers ?a_count_misses ?l_count_misses ?c_count_misses ?k_count_misses ?a_misses_of ?l_misses_of ?c_misses_of ?k_misses_of ?a_rounds_of ?l_rounds_of ?c_rounds_of ?k_rounds_of ?a_far_misses ?l_far_misses ?c_far_misses ?k_far_misses ?a_long_run ?l_long_run ?c_long_run ?k_long_run ?a_Cache ?l_Cache ?c_Cache ?k_Cache ?i_Cache ?a_note_answer ?l_note_answer ?c_note_answer ?k_note_answer ?i_note_answer ?a_crequest ?l_crequest ?c_crequest ?k_crequest ?i_crequest ?a_box_twin ?l_box_twin ?c_box_twin ?k_box_twin ?i_box_twin ?a_take_over ?l_take_over ?c_take_over ?k_take_over ?i_take_over ?a_twin ?l_twin ?c_twin ?k_twin ?i_twin ?a_states ?v_states ?g_states ?t_states ?r_states ?l_states ?c_states ?k_states ?a_levels ?v_levels ?g_levels ?t_levels ?r_levels ?l_levels ?c_levels ?k_levels ?a_misses ?v_misses ?g_misses ?t_misses ?r_misses ?l_misses ?c_misses ?k_misses ?a_check_function ?l_check_function ?c_check_function ?k_check_function ?a__law_give ?l__law_give ?c__law_give ?k__law_give ?a_check_idle ?l_check_idle ?c_check_idle ?k_check_idle ?i_check_idle ?a_serve ?l_serve ?c_serve ?k_serve ?i_serve ?a_vrequest ?l_vrequest ?c_vrequest ?k_vrequest ?i_vrequest ?a__law_cell ?l__law_cell ?c__law_cell ?k__law_cell ?a__law_pool ?l__law_pool ?c__law_pool ?k__law_pool ?a__law_draw ?l__law_draw ?c__law_draw ?k__law_draw ?a__law_policy ?l__law_policy ?c__law_policy ?k__law_policy ?a__law_recent ?l__law_recent ?c__law_recent ?k__law_recent ?a__law_queue ?l__law_queue ?c__law_queue ?k__law_queue ?a__law_device ?l__law_device ?c__law_device ?k__law_device ?a__law_words ?l__law_words ?c__law_words ?k__law_words ?a__law_drawn ?l__law_drawn ?c__law_drawn ?k__law_drawn ?a__law_rounds ?l__law_rounds ?c__law_rounds ?k__law_rounds ?a__law_right ?l__law_right ?c__law_right ?k__law_right ?a_law ?l_law ?c_law ?k_law ?w_note_answer ?w_box_twin ?a_V ?i_V ?l_V ?c_V ?u_cell ?u_code ?u_file ?u_same ?u_cls ?u_sub ?u_sup ?u_tp ?u_at ?u_ty ?u_fi ?u_top ?a_keep ?hg ?hk ?z_len ?z_isinstance ?z_int ?z_bool ?z_str ?z_tuple ?z_list ?z_dict ?z_all ?z_any ?z_enumerate ?z_range ?z_max ?z_min ?z_abs ?z_divmod ?z_sorted ?q_LONGEST ?q_MOST_LINES ?q_MOST_STATES ?q_MOST_REQUESTS ?q_MOST_TIMES ?q_LETTERS ?q_LEVELS ?q_lv
    (case aB => k_is)
    (case pgB => k_is)
    (case hdB => k_is)
    (case poB => k_is)
    (case saB => k_is)
    (case mkB => k_is)
    (case kcB => k_is)
    (case aC => k_is)
    (case pgC => k_is)
    (case hdC => k_is)
    (case poC => k_is)
    (case saC => k_is)
    (case mkC => k_is)
    (case kcC => k_is)
    (case aV => k_is)
    (case pgV => k_is)
    (case hdV => k_is)
    (case poV => k_is)
    (case saV => k_is)
    (case mkV => k_is)
    (case kcV => k_is)
    (case nB_mode => k_is)
    (case nB_policies => k_is)
    (case nB_stages => k_is)
    (case nB_rows => k_is)
    (case nC_pattern => k_is)
    (case nC_box => k_is)
    (case nC_hit_number => k_is)
    (case nC_miss_number => k_is)
    (case nV_pattern => k_is)
    (case nV_box => k_is)
    (case nV_hit_number => k_is)
    (case nV_miss_number => k_is)
    (case nV_load => k_is)
    (case nV_store => k_is)
    (case nV_worths => k_is)
    (case nV_fresh => k_is)
    (case nV_working => k_is)
    (case a_is_name => k_is)
    (case l_is_name => k_is)
    (case c_is_name => k_is)
    (case k_is_name => k_is)
    (case a_check_name => k_is)
    (case l_check_name => k_is)
    (case c_check_name => k_is)
    (case k_check_name => k_is)
    (case a_check_history => k_is)
    (case l_check_history => k_is)
    (case c_check_history => k_is)
    (case k_check_history => k_is)
    (case a_is_integer => k_is)
    (case l_is_integer => k_is)
    (case c_is_integer => k_is)
    (case k_is_integer => k_is)
    (case a_is_between => k_is)
    (case l_is_between => k_is)
    (case c_is_between => k_is)
    (case k_is_between => k_is)
    (case a_is_row => k_is)
    (case l_is_row => k_is)
    (case c_is_row => k_is)
    (case k_is_row => k_is)
    (case a_is_policy => k_is)
    (case l_is_policy => k_is)
    (case c_is_policy => k_is)
    (case k_is_policy => k_is)
    (case a_is_device => k_is)
    (case l_is_device => k_is)
    (case c_is_device => k_is)
    (case k_is_device => k_is)
    (case a_check_device => k_is)
    (case l_check_device => k_is)
    (case c_check_device => k_is)
    (case k_check_device => k_is)
    (case a_Box => k_is)
    (case l_Box => k_is)
    (case c_Box => k_is)
    (case k_Box => k_is)
    (case i_Box => k_is)
    (case a_holds => k_is)
    (case l_holds => k_is)
    (case c_holds => k_is)
    (case k_holds => k_is)
    (case i_holds => k_is)
    (case a_told => k_is)
    (case l_told => k_is)
    (case c_told => k_is)
    (case k_told => k_is)
    (case i_told => k_is)
    (case a_touch => k_is)
    (case l_touch => k_is)
    (case c_touch => k_is)
    (case k_touch => k_is)
    (case i_touch => k_is)
    (case a_fill => k_is)
    (case l_fill => k_is)
    (case c_fill => k_is)
    (case k_fill => k_is)
    (case i_fill => k_is)
    (case a_go_down => k_is)
    (case l_go_down => k_is)
    (case c_go_down => k_is)
    (case k_go_down => k_is)
    (case i_go_down => k_is)
    (case a_ask => k_is)
    (case l_ask => k_is)
    (case c_ask => k_is)
    (case k_ask => k_is)
    (case i_ask => k_is)
    (case a_moment => k_is)
    (case l_moment => k_is)
    (case c_moment => k_is)
    (case k_moment => k_is)
    (case i_moment => k_is)
    (case a_box_at => k_is)
    (case l_box_at => k_is)
    (case c_box_at => k_is)
    (case k_box_at => k_is)
    (case a_answers => k_is)
    (case l_answers => k_is)
    (case c_answers => k_is)
    (case k_answers => k_is)
    (case a_count_misses => k_is)
    (case l_count_misses => k_is)
    (case c_count_misses => k_is)
    (case k_count_misses => k_is)
    (case a_misses_of => k_is)
    (case l_misses_of => k_is)
    (case c_misses_of => k_is)
    (case k_misses_of => k_is)
    (case a_rounds_of => k_is)
    (case l_rounds_of => k_is)
    (case c_rounds_of => k_is)
    (case k_rounds_of => k_is)
    (case a_far_misses => k_is)
    (case l_far_misses => k_is)
    (case c_far_misses => k_is)
    (case k_far_misses => k_is)
    (case a_long_run => k_is)
    (case l_long_run => k_is)
    (case c_long_run => k_is)
    (case k_long_run => k_is)
    (case a_Cache => k_is)
    (case l_Cache => k_is)
    (case c_Cache => k_is)
    (case k_Cache => k_is)
    (case i_Cache => k_is)
    (case a_note_answer => k_is)
    (case l_note_answer => k_is)
    (case c_note_answer => k_is)
    (case k_note_answer => k_is)
    (case i_note_answer => k_is)
    (case a_crequest => k_is)
    (case l_crequest => k_is)
    (case c_crequest => k_is)
    (case k_crequest => k_is)
    (case i_crequest => k_is)
    (case a_box_twin => k_is)
    (case l_box_twin => k_is)
    (case c_box_twin => k_is)
    (case k_box_twin => k_is)
    (case i_box_twin => k_is)
    (case a_take_over => k_is)
    (case l_take_over => k_is)
    (case c_take_over => k_is)
    (case k_take_over => k_is)
    (case i_take_over => k_is)
    (case a_twin => k_is)
    (case l_twin => k_is)
    (case c_twin => k_is)
    (case k_twin => k_is)
    (case i_twin => k_is)
    (case a_states => k_is)
    (case v_states => k_is)
    (case g_states => k_is)
    (case t_states => k_is)
    (case r_states => k_is)
    (case l_states => k_is)
    (case c_states => k_is)
    (case k_states => k_is)
    (case a_levels => k_is)
    (case v_levels => k_is)
    (case g_levels => k_is)
    (case t_levels => k_is)
    (case r_levels => k_is)
    (case l_levels => k_is)
    (case c_levels => k_is)
    (case k_levels => k_is)
    (case a_misses => k_is)
    (case v_misses => k_is)
    (case g_misses => k_is)
    (case t_misses => k_is)
    (case r_misses => k_is)
    (case l_misses => k_is)
    (case c_misses => k_is)
    (case k_misses => k_is)
    (case a_check_function => k_is)
    (case l_check_function => k_is)
    (case c_check_function => k_is)
    (case k_check_function => k_is)
    (case a__law_give => k_is)
    (case l__law_give => k_is)
    (case c__law_give => k_is)
    (case k__law_give => k_is)
    (case a_check_idle => k_is)
    (case l_check_idle => k_is)
    (case c_check_idle => k_is)
    (case k_check_idle => k_is)
    (case i_check_idle => k_is)
    (case a_serve => k_is)
    (case l_serve => k_is)
    (case c_serve => k_is)
    (case k_serve => k_is)
    (case i_serve => k_is)
    (case a_vrequest => k_is)
    (case l_vrequest => k_is)
    (case c_vrequest => k_is)
    (case k_vrequest => k_is)
    (case i_vrequest => k_is)
    (case a__law_cell => k_is)
    (case l__law_cell => k_is)
    (case c__law_cell => k_is)
    (case k__law_cell => k_is)
    (case a__law_pool => k_is)
    (case l__law_pool => k_is)
    (case c__law_pool => k_is)
    (case k__law_pool => k_is)
    (case a__law_draw => k_is)
    (case l__law_draw => k_is)
    (case c__law_draw => k_is)
    (case k__law_draw => k_is)
    (case a__law_policy => k_is)
    (case l__law_policy => k_is)
    (case c__law_policy => k_is)
    (case k__law_policy => k_is)
    (case a__law_recent => k_is)
    (case l__law_recent => k_is)
    (case c__law_recent => k_is)
    (case k__law_recent => k_is)
    (case a__law_queue => k_is)
    (case l__law_queue => k_is)
    (case c__law_queue => k_is)
    (case k__law_queue => k_is)
    (case a__law_device => k_is)
    (case l__law_device => k_is)
    (case c__law_device => k_is)
    (case k__law_device => k_is)
    (case a__law_words => k_is)
    (case l__law_words => k_is)
    (case c__law_words => k_is)
    (case k__law_words => k_is)
    (case a__law_drawn => k_is)
    (case l__law_drawn => k_is)
    (case c__law_drawn => k_is)
    (case k__law_drawn => k_is)
    (case a__law_rounds => k_is)
    (case l__law_rounds => k_is)
    (case c__law_rounds => k_is)
    (case k__law_rounds => k_is)
    (case a__law_right => k_is)
    (case l__law_right => k_is)
    (case c__law_right => k_is)
    (case k__law_right => k_is)
    (case a_law => k_is)
    (case l_law => k_is)
    (case c_law => k_is)
    (case k_law => k_is)
    (case w_note_answer => k_is)
    (case w_box_twin => k_is)
    (case a_V => k_is)
    (case i_V => k_is)
    (case l_V => k_is)
    (case c_V => k_is)
    (case u_cell => k_is)
    (case u_code => k_is)
    (case u_file => (first | rfl | decide | decide +kernel))
    (case u_same => (first | rfl | decide | decide +kernel))
    (case u_cls => k_is)
    (case u_sub => k_is)
    (case u_sup => k_is)
    (case u_tp => k_is)
    (case u_at => (first | ks_is | k_is))
    (case u_ty => k_is)
    (case u_fi => k_is)
    (case u_top => (first | rfl | decide | decide +kernel))
    (case a_keep => k_is)
    (case hg => k_is)
    (case hk => k_is)
    (case z_len => k_is)
    (case z_isinstance => k_is)
    (case z_int => k_is)
    (case z_bool => k_is)
    (case z_str => k_is)
    (case z_tuple => k_is)
    (case z_list => k_is)
    (case z_dict => k_is)
    (case z_all => k_is)
    (case z_any => k_is)
    (case z_enumerate => k_is)
    (case z_range => k_is)
    (case z_max => k_is)
    (case z_min => k_is)
    (case z_abs => k_is)
    (case z_divmod => k_is)
    (case z_sorted => k_is)
    (case q_LONGEST => k_is)
    (case q_MOST_LINES => k_is)
    (case q_MOST_STATES => k_is)
    (case q_MOST_REQUESTS => k_is)
    (case q_MOST_TIMES => k_is)
    (case q_LETTERS => k_is)
    (case q_LEVELS => k_is)
    (case q_lv => k_is))
