import PyProof.Rows.All
import Wide.All
import OpenK.AllK
import Wide.FinOn
import HandS.ForMost
import HandS.Walk
import KE.GoesMore
import HandS.IsInst
import HandS.TupAny
import KE.SortData
import HandS.TupSets
import HandS.Star
import HandS.Style
import HandS.Conv
import PySem.Challenge.RW_chipfloor_k04_whole_curves
set_option Elab.async false
set_option linter.all false
set_option maxRecDepth 100000
/-! Law k04: the mathematics of curves of sizes, in plain Lean. -/
namespace K4

/-- a width and a height -/
abbrev Sz := Int × Int
/-- the tree of a slicing word; true for H -/
inductive T where
  | leaf (b : Nat)
  | node (h : Bool) (l r : T)
inductive Tok where
  | num (b : Nat)
  | op (h : Bool)

/-- the greater of two, as Python's max takes it -/
def mx (a b : Int) : Int := if b > a then b else a
theorem mx_le {a b c : Int} : mx a b ≤ c ↔ a ≤ c ∧ b ≤ c := by unfold mx; split <;> omega
theorem mx_mono {a b c d : Int} (h : a ≤ c) (k : b ≤ d) : mx a b ≤ mx c d := by unfold mx; split <;> split <;> omega
/-- one above the other, or side by side -/
def put (h : Bool) (p q : Sz) : Sz := if h = true then (mx p.1 q.1, p.2 + q.2) else (p.1 + q.1, mx p.2 q.2)
/-- within -/
def le (p q : Sz) : Prop := p.1 ≤ q.1 ∧ p.2 ≤ q.2
theorem le_refl (p : Sz) : le p p := ⟨Int.le_refl _, Int.le_refl _⟩
theorem le_trans {p q r : Sz} (a : le p q) (b : le q r) : le p r := ⟨Int.le_trans a.1 b.1, Int.le_trans a.2 b.2⟩
theorem le_anti {p q : Sz} (a : le p q) (b : le q p) : p = q := Prod.ext (Int.le_antisymm a.1 b.1) (Int.le_antisymm a.2 b.2)
theorem put_mono {h : Bool} {p q p' q' : Sz} (a : le p p') (b : le q q') : le (put h p q) (put h p' q') := by
  unfold put
  cases h with
  | true =>
    rw [if_pos rfl, if_pos rfl]
    exact ⟨mx_mono a.1 b.1, Int.add_le_add a.2 b.2⟩
  | false =>
    rw [if_neg Bool.false_ne_true, if_neg Bool.false_ne_true]
    exact ⟨Int.add_le_add a.1 b.1, mx_mono a.2 b.2⟩

/-! ### fronts -/
/-- ascending widths, falling heights -/
def Stair (l : List Sz) : Prop := l.Pairwise fun p q => p.1 < q.1 ∧ q.2 < p.2
/-- l is the front of S -/
structure Front (l : List Sz) (S : Sz → Prop) : Prop where
  stair : Stair l
  sub : ∀ p ∈ l, S p
  cover : ∀ s, S s → ∃ p ∈ l, le p s
/-- no other one of S is within p -/
def Least (S : Sz → Prop) (p : Sz) : Prop := S p ∧ ∀ q, S q → q ≠ p → ¬ le q p

theorem stair_flat : ∀ {l : List Sz}, Stair l → ∀ {p q : Sz}, p ∈ l → q ∈ l → le p q → p = q
  | [], _, _, _, hp, _, _ => by cases hp
  | x :: l, h, p, q, hp, hq, e => by
    obtain ⟨h1, h2⟩ := List.pairwise_cons.mp h
    rcases List.mem_cons.mp hp with a | a
    · rcases List.mem_cons.mp hq with b | b
      · rw [a, b]
      · have z := h1 q b
        rw [a] at e
        have e2 := e.2
        omega
    · rcases List.mem_cons.mp hq with b | b
      · have z := h1 p a
        rw [b] at e
        have e1 := e.1
        omega
      · exact stair_flat h2 a b e
theorem Front.mem {l : List Sz} {S : Sz → Prop} (F : Front l S) (p : Sz) : p ∈ l ↔ Least S p := by
  constructor
  · intro hp
    refine ⟨F.sub p hp, fun q hq hne e => ?_⟩
    obtain ⟨z, hz, ez⟩ := F.cover q hq
    have e1 : z = p := stair_flat F.stair hz hp (le_trans ez e)
    rw [e1] at ez
    exact hne (le_anti e ez)
  · intro ⟨hs, hm⟩
    obtain ⟨z, hz, ez⟩ := F.cover p hs
    by_cases e : z = p
    · rw [← e]; exact hz
    · exact absurd ez (hm z (F.sub z hz) e)

/-- the order of pairs -/
def lx (p q : Sz) : Prop := p.1 < q.1 ∨ (p.1 = q.1 ∧ p.2 < q.2)
def lxe (p q : Sz) : Prop := p.1 < q.1 ∨ (p.1 = q.1 ∧ p.2 ≤ q.2)
theorem lx_irrefl (p : Sz) : ¬ lx p p := by unfold lx; omega
theorem lx_trans {p q r : Sz} (a : lx p q) (b : lx q r) : lx p r := by unfold lx at *; omega
theorem Stair.lx {l : List Sz} (h : Stair l) : l.Pairwise lx := List.Pairwise.imp (fun z => Or.inl z.1) h
/-- two ascending lists with the same members are one -/
theorem asc_ext : ∀ {l m : List Sz}, l.Pairwise lx → m.Pairwise lx → (∀ p, p ∈ l ↔ p ∈ m) → l = m
  | [], [], _, _, _ => rfl
  | [], y :: m, _, _, h => by have z := (h y).2 List.mem_cons_self; cases z
  | x :: l, [], _, _, h => by have z := (h x).1 List.mem_cons_self; cases z
  | x :: l, y :: m, a, b, h => by
    obtain ⟨a1, a2⟩ := List.pairwise_cons.mp a
    obtain ⟨b1, b2⟩ := List.pairwise_cons.mp b
    have exy : x = y := by
      rcases List.mem_cons.mp ((h x).1 List.mem_cons_self) with e | e
      · exact e
      · rcases List.mem_cons.mp ((h y).2 List.mem_cons_self) with e' | e'
        · exact e'.symm
        · exact absurd (lx_trans (b1 x e) (a1 y e')) (lx_irrefl y)
    subst exy
    congr 1
    refine asc_ext a2 b2 fun p => ⟨fun hp => ?_, fun hp => ?_⟩
    · rcases List.mem_cons.mp ((h p).1 (List.mem_cons_of_mem _ hp)) with e | e
      · have z := a1 p hp
        rw [e] at z
        exact absurd z (lx_irrefl x)
      · exact e
    · rcases List.mem_cons.mp ((h p).2 (List.mem_cons_of_mem _ hp)) with e | e
      · have z := b1 p hp
        rw [e] at z
        exact absurd z (lx_irrefl x)
      · exact e
/-- a front that leans on another one -/
theorem Front.lean {l : List Sz} {A B : Sz → Prop} (F : Front l A) (hs : ∀ p, A p → B p) (hc : ∀ b, B b → ∃ a, A a ∧ le a b) : Front l B :=
  ⟨F.stair, fun p hp => hs p (F.sub p hp), fun b hb => by
    obtain ⟨a, ha, e⟩ := hc b hb
    obtain ⟨p, hp, e2⟩ := F.cover a ha
    exact ⟨p, hp, le_trans e2 e⟩⟩

/-! ### kept: the scan of sorted rows -/
section
variable {α : Type}
def step (found : List (Sz × α)) (row : Sz × α) : List (Sz × α) :=
  match found.getLast? with
  | none => found ++ [row]
  | some z => if row.1.2 < z.1.2 then found ++ [row] else found
def scan (l : List (Sz × α)) : List (Sz × α) := l.foldl step []
theorem scan_snoc (l : List (Sz × α)) (x : Sz × α) : scan (l ++ [x]) = step (scan l) x := by
  unfold scan
  rw [List.foldl_append]
  rfl
theorem scan_take {l : List (Sz × α)} {i : Nat} {x : Sz × α} (h : l[i]? = some x) : scan (l.take (i + 1)) = step (scan (l.take i)) x := by
  rw [← scan_snoc, List.take_succ, h]
  rfl
/-- what the scan has kept of the rows so far -/
structure Kept (l : List (Sz × α)) (f : List (Sz × α)) : Prop where
  stair : Stair (f.map Prod.fst)
  sub : ∀ x ∈ f, x ∈ l
  cover : ∀ x ∈ l, ∃ z ∈ f, le z.1 x.1
  none : l ≠ [] → f ≠ []
theorem stair_snoc {l : List Sz} {z x : Sz} (h : Stair (l ++ [z])) (e : z.1 < x.1 ∧ x.2 < z.2) : Stair ((l ++ [z]) ++ [x]) := by
  unfold Stair at *
  refine List.pairwise_append.mpr ⟨h, List.pairwise_singleton _ _, fun a ha b hb => ?_⟩
  rw [List.mem_singleton.mp hb]
  rcases List.mem_append.mp ha with k | k
  · have q := (List.pairwise_append.mp h).2.2 a k z (List.mem_singleton.mpr rfl)
    omega
  · rw [List.mem_singleton.mp k]
    exact e
theorem Kept.step {l f : List (Sz × α)} {x : Sz × α} (K : Kept l f) (hx : ∀ y ∈ l, lxe y.1 x.1) : Kept (l ++ [x]) (step f x) := by
  unfold K4.step
  rcases List.eq_nil_or_concat f with e | ⟨f', z, e⟩
  · subst e
    have hl : l = [] := by
      cases l with
      | nil => rfl
      | cons a l =>
        obtain ⟨z, hz, _⟩ := K.cover a List.mem_cons_self
        cases hz
    subst hl
    exact ⟨List.pairwise_singleton _ _, fun y hy => hy, fun y hy => ⟨y, hy, le_refl _⟩, fun _ => by simp⟩
  · have e' : f = f' ++ [z] := by simpa using e
    subst e'
    have hz : z ∈ l := K.sub z (by simp)
    have lz := hx z hz
    rw [List.getLast?_concat]
    show Kept (l ++ [x]) (if x.1.2 < z.1.2 then (f' ++ [z]) ++ [x] else f' ++ [z])
    by_cases h : x.1.2 < z.1.2
    · rw [if_pos h]
      refine ⟨?_, fun y hy => ?_, fun y hy => ?_, fun _ => by simp⟩
      · have q := K.stair
        rw [List.map_append] at q ⊢
        rw [List.map_append]
        refine stair_snoc q ⟨?_, h⟩
        unfold lxe at lz
        omega
      · rcases List.mem_append.mp hy with a | a
        · exact List.mem_append_left _ (K.sub y a)
        · exact List.mem_append_right _ a
      · rcases List.mem_append.mp hy with a | a
        · obtain ⟨w, hw, k⟩ := K.cover y a
          exact ⟨w, List.mem_append_left _ hw, k⟩
        · exact ⟨y, List.mem_append_right _ a, le_refl _⟩
    · rw [if_neg h]
      refine ⟨K.stair, fun y hy => List.mem_append_left _ (K.sub y hy), fun y hy => ?_, fun _ => by simp⟩
      rcases List.mem_append.mp hy with a | a
      · exact K.cover y a
      · rw [List.mem_singleton.mp a]
        refine ⟨z, by simp, ?_⟩
        unfold lxe at lz
        unfold le
        omega
theorem kept_scan : ∀ (n : Nat) (l : List (Sz × α)), l.length = n → (l.Pairwise fun a b => lxe a.1 b.1) → Kept l (scan l)
  | 0, l, hl, _ => by
    rw [List.eq_nil_of_length_eq_zero hl]
    exact ⟨List.Pairwise.nil, fun x hx => (by cases hx), fun x hx => (by cases hx), fun h => absurd rfl h⟩
  | n + 1, l, hl, hs => by
    rcases List.eq_nil_or_concat l with e | ⟨l', x, e⟩
    · rw [e] at hl; cases hl
    · have e' : l = l' ++ [x] := by simpa using e
      subst e'
      obtain ⟨h1, _, h3⟩ := List.pairwise_append.mp hs
      rw [scan_snoc]
      refine Kept.step (kept_scan n l' ?_ h1) fun y hy => h3 y hy x (List.mem_singleton.mpr rfl)
      rw [List.length_append] at hl
      exact Nat.succ.inj hl
/-- the rows of a sorted list that are kept make a front -/
theorem scan_front {l rows : List (Sz × α)} (hs : l.Pairwise fun a b => lxe a.1 b.1) (hp : l.Perm rows) : Front ((scan l).map Prod.fst) fun p => ∃ x ∈ rows, x.1 = p := by
  have K := kept_scan _ l rfl hs
  refine ⟨K.stair, fun p h => ?_, fun s ⟨x, hx, e⟩ => ?_⟩
  · obtain ⟨x, hx, e⟩ := List.mem_map.mp h
    exact ⟨x, hp.mem_iff.mp (K.sub x hx), e⟩
  · obtain ⟨z, hz, k⟩ := K.cover x (hp.mem_iff.mpr hx)
    exact ⟨z.1, List.mem_map.mpr ⟨z, hz, rfl⟩, by rw [← e]; exact k⟩
theorem step_len (f : List (Sz × α)) (x : Sz × α) : (step f x).length ≤ f.length + 1 := by
  unfold step
  split
  · simp
  · split <;> simp
theorem scan_len : ∀ (n : Nat) (l : List (Sz × α)), l.length = n → (scan l).length ≤ n
  | 0, l, hl => by rw [List.eq_nil_of_length_eq_zero hl]; exact Nat.le_refl _
  | n + 1, l, hl => by
    rcases List.eq_nil_or_concat l with e | ⟨l', x, e⟩
    · rw [e] at hl; cases hl
    · have e' : l = l' ++ [x] := by simpa using e
      subst e'
      rw [scan_snoc]
      have h := scan_len n l' (by rw [List.length_append] at hl; exact Nat.succ.inj hl)
      have k := step_len (scan l') x
      omega
end

/-! ### the sizes that a tree can have -/
def Has (blocks : List (List Sz)) : T → Sz → Prop
  | .leaf b, p => p ∈ blocks.getD b []
  | .node h l r, p => ∃ p1 p2, Has blocks l p1 ∧ Has blocks r p2 ∧ p = put h p1 p2
theorem front_node {blocks : List (List Sz)} {h : Bool} {l r : T} {f g m : List Sz} (F : Front f (Has blocks l)) (G : Front g (Has blocks r))
    (M : Front m fun p => ∃ a ∈ f, ∃ b ∈ g, p = put h a b) : Front m (Has blocks (.node h l r)) := by
  refine M.lean (fun p ⟨a, ha, b, hb, e⟩ => ⟨a, b, F.sub a ha, G.sub b hb, e⟩) fun p ⟨p1, p2, h1, h2, e⟩ => ?_
  obtain ⟨a, ha, ea⟩ := F.cover p1 h1
  obtain ⟨b, hb, eb⟩ := G.cover p2 h2
  refine ⟨put h a b, ⟨a, ha, b, hb, rfl⟩, ?_⟩
  rw [e]
  exact put_mono ea eb

/-! ### choices -/
/-- each one of the first ones longer by each index of one more block -/
def longer (found : List (List Nat)) (n : Nat) : List (List Nat) := found.flatMap fun one => (List.range n).map fun a => one ++ [a]
def choices (lens : List Nat) : List (List Nat) := lens.foldl longer [[]]
theorem choices_snoc (lens : List Nat) (n : Nat) : choices (lens ++ [n]) = longer (choices lens) n := by
  unfold choices
  rw [List.foldl_append]
  rfl
theorem mem_longer {found : List (List Nat)} {n : Nat} {c : List Nat} : c ∈ longer found n ↔ ∃ one ∈ found, ∃ a, a < n ∧ c = one ++ [a] := by
  unfold longer
  rw [List.mem_flatMap]
  constructor
  · rintro ⟨one, h1, h2⟩
    obtain ⟨a, ha, e⟩ := List.mem_map.mp h2
    exact ⟨one, h1, a, List.mem_range.mp ha, e.symm⟩
  · rintro ⟨one, h1, a, ha, e⟩
    exact ⟨one, h1, List.mem_map.mpr ⟨a, List.mem_range.mpr ha, e.symm⟩⟩
/-- a choice: an index below each length -/
def IsChoice (lens c : List Nat) : Prop := c.length = lens.length ∧ ∀ (i : Nat) (n : Nat), lens[i]? = some n → ∃ a, c[i]? = some a ∧ a < n
theorem mem_choices : ∀ (k : Nat) (lens : List Nat), lens.length = k → ∀ c, c ∈ choices lens ↔ IsChoice lens c
  | 0, lens, hl, c => by
    rw [List.eq_nil_of_length_eq_zero hl]
    constructor
    · intro h
      have e : c = [] := List.mem_singleton.mp h
      subst e
      exact ⟨rfl, fun i n h => by simp at h⟩
    · rintro ⟨h, _⟩
      rw [List.eq_nil_of_length_eq_zero h]
      exact List.mem_singleton.mpr rfl
  | k + 1, lens, hl, c => by
    rcases List.eq_nil_or_concat lens with e | ⟨ls, n, e⟩
    · rw [e] at hl; cases hl
    · have e' : lens = ls ++ [n] := by simpa using e
      subst e'
      have hk : ls.length = k := by rw [List.length_append] at hl; exact Nat.succ.inj hl
      rw [choices_snoc, mem_longer]
      constructor
      · rintro ⟨one, h1, a, ha, rfl⟩
        obtain ⟨q1, q2⟩ := (mem_choices k ls hk one).1 h1
        refine ⟨by rw [List.length_append, List.length_append, q1]; rfl, fun i m hi => ?_⟩
        by_cases c1 : i < ls.length
        · rw [List.getElem?_append_left c1] at hi
          obtain ⟨b, hb, hlt⟩ := q2 i m hi
          exact ⟨b, by rw [List.getElem?_append_left (by omega)]; exact hb, hlt⟩
        · rw [List.getElem?_append_right (by omega)] at hi
          by_cases c2 : i = ls.length
          · subst c2
            rw [Nat.sub_self] at hi
            have em : n = m := by simpa using hi
            subst em
            refine ⟨a, ?_, ha⟩
            rw [List.getElem?_append_right (by omega), q1, Nat.sub_self]
            rfl
          · rw [List.getElem?_eq_none (by simp; omega)] at hi
            cases hi
      · rintro ⟨q1, q2⟩
        rcases List.eq_nil_or_concat c with e | ⟨one, a, e⟩
        · rw [e] at q1; simp at q1
        · have e' : c = one ++ [a] := by simpa using e
          subst e'
          have h1 : one.length = ls.length := by simpa using q1
          refine ⟨one, (mem_choices k ls hk one).2 ⟨h1, fun i m hi => ?_⟩, a, ?_, rfl⟩
          · have hlt : i < ls.length := (List.getElem?_eq_some_iff.mp hi).1
            obtain ⟨b, hb, hb2⟩ := q2 i m (by rw [List.getElem?_append_left hlt]; exact hi)
            rw [List.getElem?_append_left (by omega)] at hb
            exact ⟨b, hb, hb2⟩
          · obtain ⟨b, hb, hb2⟩ := q2 ls.length n (by rw [List.getElem?_append_right (Nat.le_refl _), Nat.sub_self]; rfl)
            rw [List.getElem?_append_right (by omega), h1, Nat.sub_self] at hb
            have eb : a = b := by simpa using hb
            rw [eb]; exact hb2
theorem longer_len (found : List (List Nat)) (n : Nat) : (longer found n).length = found.length * n := by
  unfold longer
  induction found with
  | nil => simp
  | cons a l ih =>
    rw [List.flatMap_cons, List.length_append, ih, List.length_map, List.length_range, List.length_cons, Nat.succ_mul, Nat.add_comm]
theorem choices_len3 : ∀ (k : Nat) (lens : List Nat), lens.length = k → (∀ n ∈ lens, n ≤ 3) → (choices lens).length ≤ 3 ^ k
  | 0, lens, hl, _ => by
    rw [List.eq_nil_of_length_eq_zero hl]
    exact Nat.le_refl _
  | k + 1, lens, hl, h => by
    rcases List.eq_nil_or_concat lens with e | ⟨ls, n, e⟩
    · rw [e] at hl; cases hl
    · have e' : lens = ls ++ [n] := by simpa using e
      subst e'
      have hk : ls.length = k := by rw [List.length_append] at hl; exact Nat.succ.inj hl
      rw [choices_snoc, longer_len, Nat.pow_succ]
      exact Nat.mul_le_mul (choices_len3 k ls hk fun m hm => h m (List.mem_append_left _ hm)) (h n (List.mem_append_right _ (List.mem_singleton.mpr rfl)))

/-! ### the size of a tree with a choice -/
def sizeT (ss : List Sz) : T → Sz
  | .leaf b => ss.getD b (0, 0)
  | .node h l r => put h (sizeT ss l) (sizeT ss r)
def leaves : T → List Nat
  | .leaf b => [b]
  | .node _ l r => leaves l ++ leaves r
def pick (blocks : List (List Sz)) (c : List Nat) : List Sz := (List.range blocks.length).map fun i => (blocks.getD i []).getD (c.getD i 0) (0, 0)
def sizeF (blocks : List (List Sz)) (f : Nat → Nat) : T → Sz
  | .leaf b => (blocks.getD b []).getD (f b) (0, 0)
  | .node h l r => put h (sizeF blocks f l) (sizeF blocks f r)
theorem sizeF_congr {blocks : List (List Sz)} {f g : Nat → Nat} : ∀ {t : T}, (∀ b ∈ leaves t, f b = g b) → sizeF blocks f t = sizeF blocks g t
  | .leaf b, h => by
    show (blocks.getD b []).getD (f b) (0, 0) = (blocks.getD b []).getD (g b) (0, 0)
    rw [h b (List.mem_singleton.mpr rfl)]
  | .node o l r, h => by
    show put o _ _ = put o _ _
    rw [sizeF_congr (t := l) fun b hb => h b (List.mem_append_left _ hb), sizeF_congr (t := r) fun b hb => h b (List.mem_append_right _ hb)]
theorem sizeT_pick {blocks : List (List Sz)} {c : List Nat} : ∀ {t : T}, (∀ b ∈ leaves t, b < blocks.length) → sizeT (pick blocks c) t = sizeF blocks (fun b => c.getD b 0) t
  | .leaf b, h => by
    show (pick blocks c).getD b (0, 0) = (blocks.getD b []).getD (c.getD b 0) (0, 0)
    have hb := h b (List.mem_singleton.mpr rfl)
    unfold pick
    rw [List.getD_eq_getElem?_getD, List.getElem?_map, List.getElem?_range hb]
    rfl
  | .node o l r, h => by
    show put o _ _ = put o _ _
    rw [sizeT_pick (t := l) fun b hb => h b (List.mem_append_left _ hb), sizeT_pick (t := r) fun b hb => h b (List.mem_append_right _ hb)]
theorem getD_mem {α : Type} {l : List α} {i : Nat} {d : α} (h : i < l.length) : l.getD i d ∈ l := by
  rw [List.getD_eq_getElem?_getD, List.getElem?_eq_getElem h]
  exact List.getElem_mem h
theorem has_of_size {blocks : List (List Sz)} {f : Nat → Nat} : ∀ {t : T}, (∀ b ∈ leaves t, f b < (blocks.getD b []).length) → Has blocks t (sizeF blocks f t)
  | .leaf b, h => getD_mem (h b (List.mem_singleton.mpr rfl))
  | .node o l r, h => ⟨_, _, has_of_size fun b hb => h b (List.mem_append_left _ hb), has_of_size fun b hb => h b (List.mem_append_right _ hb), rfl⟩
theorem size_of_has {blocks : List (List Sz)} : ∀ {t : T} {p : Sz}, (leaves t).Nodup → Has blocks t p → ∃ f : Nat → Nat, (∀ b ∈ leaves t, f b < (blocks.getD b []).length) ∧ sizeF blocks f t = p
  | .leaf b, p, _, h => by
    have h' : p ∈ blocks.getD b [] := h
    obtain ⟨i, hi, e⟩ := List.getElem_of_mem h'
    refine ⟨fun _ => i, fun x hx => ?_, ?_⟩
    · rw [List.mem_singleton.mp hx]; exact hi
    · show (blocks.getD b []).getD i (0, 0) = p
      rw [List.getD_eq_getElem?_getD, List.getElem?_eq_getElem hi, ← e]
      rfl
  | .node o l r, p, hn, ⟨p1, p2, h1, h2, e⟩ => by
    have hn' : (leaves l ++ leaves r).Nodup := hn
    obtain ⟨n1, n2, n3⟩ := List.nodup_append.mp hn'
    obtain ⟨f1, a1, b1⟩ := size_of_has n1 h1
    obtain ⟨f2, a2, b2⟩ := size_of_has n2 h2
    refine ⟨fun b => if b ∈ leaves l then f1 b else f2 b, fun b hb => ?_, ?_⟩
    · show (if b ∈ leaves l then f1 b else f2 b) < _
      by_cases c : b ∈ leaves l
      · rw [if_pos c]; exact a1 b c
      · rw [if_neg c]
        rcases List.mem_append.mp hb with k | k
        · exact absurd k c
        · exact a2 b k
    · show put o (sizeF blocks _ l) (sizeF blocks _ r) = p
      rw [sizeF_congr (t := l) (g := f1) fun b hb => if_pos hb, sizeF_congr (t := r) (g := f2) fun b hb => if_neg fun k => n3 b k b hb rfl, b1, b2, e]
/-- all sizes by all choices -/
def allSizes (blocks : List (List Sz)) (t : T) : List Sz := (choices (blocks.map List.length)).map fun c => sizeT (pick blocks c) t
theorem mem_all {blocks : List (List Sz)} {t : T} (hn : (leaves t).Nodup) (hb : ∀ b ∈ leaves t, b < blocks.length) (h0 : ∀ ss ∈ blocks, ss ≠ []) (p : Sz) : p ∈ allSizes blocks t ↔ Has blocks t p := by
  have lens : ∀ b, b < blocks.length → (blocks.map List.length)[b]? = some (blocks.getD b []).length := fun b h => by
    rw [List.getElem?_map, List.getElem?_eq_getElem h, List.getD_eq_getElem?_getD, List.getElem?_eq_getElem h]
    rfl
  unfold allSizes
  rw [List.mem_map]
  constructor
  · rintro ⟨c, hc, e⟩
    obtain ⟨q1, q2⟩ := (mem_choices _ _ rfl c).1 hc
    rw [sizeT_pick hb] at e
    rw [← e]
    refine has_of_size fun b h => ?_
    obtain ⟨a, ha, hlt⟩ := q2 b _ (lens b (hb b h))
    show c.getD b 0 < _
    rw [List.getD_eq_getElem?_getD, ha]
    exact hlt
  · intro h
    obtain ⟨f, a, e⟩ := size_of_has hn h
    refine ⟨(List.range blocks.length).map fun b => if b ∈ leaves t then f b else 0, (mem_choices _ _ rfl _).2 ⟨by simp, fun i n hi => ?_⟩, ?_⟩
    · have hi2 : i < blocks.length := by
        have z := (List.getElem?_eq_some_iff.mp hi).1
        simpa using z
      rw [lens i hi2] at hi
      have en : (blocks.getD i []).length = n := Option.some.inj hi
      refine ⟨if i ∈ leaves t then f i else 0, by rw [List.getElem?_map, List.getElem?_range hi2]; rfl, ?_⟩
      rw [← en]
      by_cases c : i ∈ leaves t
      · rw [if_pos c]; exact a i c
      · rw [if_neg c]
        exact List.length_pos_iff.mpr (h0 _ (getD_mem hi2))
    · rw [sizeT_pick hb, ← e]
      refine sizeF_congr fun b h => ?_
      show ((List.range blocks.length).map fun b => if b ∈ leaves t then f b else 0).getD b 0 = f b
      rw [List.getD_eq_getElem?_getD, List.getElem?_map, List.getElem?_range (hb b h)]
      show (if b ∈ leaves t then f b else 0) = f b
      rw [if_pos h]

/-! ### the law's own kept -/
/-- those that other ones stand in the way of -/
def others (some : List Sz) (one : Sz) : List Sz := some.filter fun o => decide (o ≠ one) && (decide (o.1 ≤ one.1) && decide (o.2 ≤ one.2))
def lawKept (srt some : List Sz) : List Sz := srt.filter fun one => decide (others some one = [])
theorem others_nil {some : List Sz} {one : Sz} : others some one = [] ↔ ∀ q, q ∈ some → q ≠ one → ¬ le q one := by
  unfold others
  rw [List.filter_eq_nil_iff]
  constructor
  · intro h q hq hne e
    refine h q hq ?_
    rw [decide_eq_true hne, decide_eq_true e.1, decide_eq_true e.2]
    rfl
  · intro h q hq k
    rw [Bool.and_eq_true, Bool.and_eq_true, decide_eq_true_eq, decide_eq_true_eq, decide_eq_true_eq] at k
    exact h q hq k.1 ⟨k.2.1, k.2.2⟩
/-- THE LAW: the front is what the law keeps of all -/
theorem law_front {l srt some : List Sz} (F : Front l fun p => p ∈ some) (hs : srt.Pairwise lx) (hm : ∀ p, p ∈ srt ↔ p ∈ some) : lawKept srt some = l := by
  refine asc_ext (List.Pairwise.filter _ hs) F.stair.lx fun p => ?_
  rw [F.mem]
  unfold lawKept
  rw [List.mem_filter, hm, decide_eq_true_eq, others_nil]
  exact Iff.rfl

/-! ### words and trees -/
def nums : List Tok → List Nat
  | [] => []
  | .num b :: w => b :: nums w
  | .op _ :: w => nums w
theorem nums_append : ∀ (v w : List Tok), nums (v ++ w) = nums v ++ nums w
  | [], _ => rfl
  | .num b :: v, w => congrArg (b :: ·) (nums_append v w)
  | .op _ :: v, w => nums_append v w
/-- a stack (its top last) turns into another one by a word -/
inductive Run : List T → List Tok → List T → Prop
  | nil (st : List T) : Run st [] st
  | num {st st' : List T} {w : List Tok} (b : Nat) : Run (st ++ [.leaf b]) w st' → Run st (.num b :: w) st'
  | op {st st' : List T} {w : List Tok} (h : Bool) (l r : T) : Run (st ++ [.node h l r]) w st' → Run (st ++ [l, r]) (.op h :: w) st'
theorem Run.append {a b c : List T} {v w : List Tok} (h : Run a v b) (k : Run b w c) : Run a (v ++ w) c := by
  induction h with
  | nil => exact k
  | num b _ ih => exact .num b (ih k)
  | op h l r _ ih => exact .op h l r (ih k)
def leavesAll (st : List T) : List Nat := st.flatMap leaves
theorem leavesAll_append (a b : List T) : leavesAll (a ++ b) = leavesAll a ++ leavesAll b := by unfold leavesAll; rw [List.flatMap_append]
theorem Run.leaves {a b : List T} {w : List Tok} (h : Run a w b) : (leavesAll a ++ nums w).Perm (leavesAll b) := by
  induction h with
  | nil st => simp [nums]
  | @num st st' w b _ ih =>
    refine List.Perm.trans ?_ ih
    rw [leavesAll_append]
    simp [leavesAll, nums, K4.leaves]
  | @op st st' w h l r _ ih =>
    refine List.Perm.trans ?_ ih
    rw [leavesAll_append, leavesAll_append]
    simp [leavesAll, nums, K4.leaves]
def opsOf (w : List Tok) : Nat := w.length - (nums w).length
theorem nums_le : ∀ w : List Tok, (nums w).length ≤ w.length
  | [] => Nat.le_refl _
  | .num _ :: w => Nat.succ_le_succ (nums_le w)
  | .op _ :: w => Nat.le_succ_of_le (nums_le w)
/-- the stack's height, the word's numbers and letters -/
theorem Run.count {a b : List T} {w : List Tok} (h : Run a w b) : a.length + 2 * (nums w).length = b.length + w.length := by
  induction h with
  | nil => simp [nums]
  | @num st st' w b _ ih =>
    rw [List.length_append] at ih
    simp [nums] at ih ⊢
    omega
  | @op st st' w h l r _ ih =>
    rw [List.length_append] at ih
    simp [nums] at ih ⊢
    omega
/-- how deep a tree is -/
def depth : T → Nat
  | .leaf _ => 1
  | .node _ l r => max (depth l) (depth r) + 1
theorem leaves_pos : ∀ t : T, 1 ≤ (leaves t).length
  | .leaf _ => Nat.le_refl _
  | .node _ l r => by
    show 1 ≤ (leaves l ++ leaves r).length
    rw [List.length_append]
    have := leaves_pos l
    omega
theorem depth_le : ∀ t : T, depth t ≤ (leaves t).length
  | .leaf _ => Nat.le_refl _
  | .node _ l r => by
    show max (depth l) (depth r) + 1 ≤ (leaves l ++ leaves r).length
    rw [List.length_append]
    have a := depth_le l
    have b := depth_le r
    have c := leaves_pos l
    have d := leaves_pos r
    omega
end K4
set_option maxHeartbeats 4000000
/-! enumerate(t), t a tuple, as what a for or a comprehension walks. -/
/-! enumerate(t), t a tuple, as what a for or a comprehension walks. -/
namespace K4
open PySem PySem.Spec PyProof.Rows L2

/-! ### enumerate(t) -/
abbrev tupIt (t : Addr) : Obj := { cls := .type "tuple_iterator", data := .fields #[.ref t, .int 0 0] }
abbrev enumOf (it : Addr) : Obj := { cls := .type "enumerate", data := .fields #[.none, .bool false, .ref it, rawInt 0, .none, .none] }
/-- two objects are laid: the tuple's iterator, the enumerate over it -/
theorem enum_make (t : Addr) (items : Array Value) (dct : Option Addr) (n : Nat) (sl : Array (Option Value)) :
    Meets (Builtin.«enumerate.__new__» ⟨[.type "enumerate", .ref t], []⟩) (fun _ R s => s.heap.get? t = some { cls := .type "tuple", dict := dct, data := .seq items n, slots := sl } ∧
      R (.ok (.ret (.ref (s.heap.push (tupIt t)).objs.size))) { s with heap := (s.heap.push (tupIt t)).push (enumOf s.heap.objs.size) }) :=
  .of_wp fun prog w A R s ⟨at_t, k⟩ => by
    obtain ⟨hp, gs, dr, tks, os⟩ := s
    have of_enum := sub_enumerate
    have tup : Heap.IsTuple (Shared.heap ⟨hp, gs, dr, tks, os⟩) t items := ⟨_, at_t, rfl, n, rfl⟩
    wp_walk using AutoSeq1.wpAny_loadPart' at_t
    refine wpAny_stack_any fun _ => wpAny_pure (by
      split
      case h_1 c _ _ _ _ _ =>
        cases hce : (c == Value.type "enumerate") <;> (wp_walk using AutoSeq1.wpAny_loadPart' at_t, wpAny_pyIter_tuple tup) <;> exact ⟨_, rfl, k⟩
      all_goals (wp_walk using AutoSeq1.wpAny_loadPart' at_t, wpAny_pyIter_tuple tup) <;> exact ⟨_, rfl, k⟩)
theorem enum_call {prog : Program} {w : World} {A : Around} {E : Value → Shared → Prop} {s : Shared} {t : Addr} {items : Array Value} {Q : Value → Shared → Prop} (hT : IsTup s.heap t items)
    (k : ∀ h', (IsEnum h' (s.heap.objs.size + 1) s.heap.objs.size 0 .none ∧ h'.IsTupleIter s.heap.objs.size t 0) → (∀ b o, s.heap.get? b = some o → h'.get? b = some o) → Q (.ref (s.heap.objs.size + 1)) { s with heap := h' }) :
    wpAny (model prog w) A (call (.type "enumerate") [.ref t]) Q E s := by
  obtain ⟨⟨c, di, da, sl⟩, ht, hc, n, hd⟩ := hT
  cases (show c = .type "tuple" from hc)
  cases (show da = .seq items n from hd)
  have one : (s.heap.push (tupIt t)).objs.size = s.heap.objs.size + 1 := Heap.size_push ..
  have at_it : (s.heap.push (tupIt t)).get? s.heap.objs.size = some (tupIt t) := Heap.get?_push_size _ rfl
  have at_e : ((s.heap.push (tupIt t)).push (enumOf s.heap.objs.size)).get? (s.heap.objs.size + 1) = some (enumOf s.heap.objs.size) := one ▸ Heap.get?_push_size _ rfl
  have out := k _ ⟨at_e, _, Heap.get?_push_of_some _ at_it, rfl, rfl⟩ fun b o e => Heap.get?_push_of_some _ (Heap.get?_push_of_some _ e)
  refine callType_new F.called_enumerate (by decide) (F.typeCall_enumerate_1 _) (F.newCall_enumerate_1 _) (fun v => F.args_object_init_2 v _) F.entry_enumerate_new (enum_make t items di n sl) ⟨ht, ?_⟩
  show _ ∧ _
  rw [one]
  exact ⟨⟨_, at_e, rfl⟩, out⟩

/-! ### the turns -/
/-- the tuple at a, each item in a new pair behind its index -/
def Itet (K : PySem.W.Frag) (a : Addr) : It where
  go := fun i H => ∃ xs : List V, SqT K H a xs ∧ i < xs.length
  yld := fun i H v H' => ∃ T x, v = .ref T ∧ H T = none ∧ H' = upd H T (.tup [.int (i : Nat), x]) ∧ ∀ xs, SqT K H a xs → xs[i]? = some x
  stop := fun i H => ∃ xs : List V, SqT K H a xs ∧ xs.length ≤ i
theorem walk_enumT {K : PySem.W.Frag} {a : Addr} {xs : List V} : Walk (Itet K a) xs.length (fun H => SqT K H a xs) (YPair (fun i => some (.int (i : Nat))) (fun i => xs[i]?)) :=
  ⟨fun i _ hi q => ⟨xs, q, hi⟩, fun _ q => ⟨xs, q, Nat.le_refl _⟩, fun i _ _ _ _ q ⟨T, x, ev, nT, eH, at_i⟩ => ⟨T, .int (i : Nat), x, ev, nT, eH, rfl, at_i xs q⟩⟩
/-- an enumerate at e over the tuple iterator at it, behind i items of the tuple at a -/
structure EnumAt (a e it : Addr) (i : Nat) (h : Heap) : Prop where
  enu : ∃ old, IsEnum h e it ((i : Nat) : Int) old
  itr : h.IsTupleIter it a i
  apart : e ≠ it ∧ a ≠ it ∧ a ≠ e
theorem both {p q b : Addr} {R : Addr → Prop} (hb : b ∈ [p, q]) (hp : R p) (hq : R q) : R b := (List.mem_cons.mp hb).elim (fun z => z ▸ hp) fun z => (List.mem_singleton.mp z) ▸ hq
theorem EnumAt.lt {a e it : Addr} {i : Nat} {h : Heap} (N : EnumAt a e it i h) {b : Addr} (hb : b ∈ [e, it]) : b < h.objs.size :=
  both (R := fun b => b < h.objs.size) hb (let ⟨_, x⟩ := N.enu; Heap.lt_size x) (let ⟨_, x, _⟩ := N.itr; Heap.lt_size x)
theorem turn_enumT {P : Program} {w : World} {K : PySem.W.Frag} {elts : List Expr} {kk : Nat} {tpos : Pos} (a e it : Addr) : Turn P w K (.Tuple elts kk tpos) (Itet K a) [e, it] e (EnumAt a e it) where
  mem := .head _
  obj := fun i h N b hb => both (R := fun b => ∃ o, h.get? b = some o ∧ ∀ v, o.data ≠ .cell v) hb (let ⟨_, x⟩ := N.enu; ⟨_, x, fun v z => by cases z⟩) (let ⟨o, x, _, d⟩ := N.itr; ⟨o, x, fun v z => by rw [d] at z; cases z⟩)
  keep := fun i h h' N k => ⟨let ⟨old, x⟩ := N.enu; ⟨old, k e (.head _) _ x⟩, N.itr.at fun o x => k it (.tail _ (.head _)) o x, N.apart⟩
  self := fun A i s Q E N q => let ⟨_, x⟩ := N.enu; wpAny_pyIter_enum x q
  item := fun X hP hw hK hc i pins s σ H E I free N go => by
    subst hP hw hK
    obtain ⟨xs, hq, lt⟩ := go
    obtain ⟨its, vals, tup, _⟩ := I.tuple hq
    obtain ⟨old, x⟩ := N.enu
    have lts : i < its.toArray.size := by
      rw [List.size_toArray, ← vals.length]
      exact lt
    have elsewhere : e ∉ [it, a] := fun m => both (R := fun b => b = e → False) m (fun z => N.apart.1 z.symm) (fun z => N.apart.2.2 z) rfl
    refine wpAny_pyNext_enum_itemD (Draws.tuple (prog := X.prog) (w := X.w) (A := X.A.in1) (I.ok.hd hc) it a N.apart.2.1 its.toArray) x ⟨N.itr, tup⟩ lts N.apart.1 elsewhere fun u h1 tk hu out at1 pair1 _ kept => ?_
    obtain ⟨y, hy⟩ : ∃ y, xs[i]? = some y := ⟨_, List.getElem?_eq_getElem lt⟩
    obtain ⟨u', hu', rel⟩ := vals.get hy
    obtain rfl : u' = u := Option.some.inj (hu'.symm.trans (by rw [← List.getElem?_toArray]; exact hu))
    refine ⟨_, rfl, wpAny_letOwnedTupleGo_enum (s := { s with heap := h1, toks := tk + 1 }) out fun h2 enum2 but => ?_⟩
    have new_e : s.heap.objs.size ≠ e := fun z => Nat.lt_irrefl _ (z ▸ N.lt (.head _))
    have pair2 := (but.2 _ new_e).trans pair1
    have old2 : ∀ b o, b ∉ [e, it] → s.heap.get? b = some o → h2.get? b = some o := fun b o nb q => by
      have ne : b ≠ e := fun z => nb (z ▸ .head _)
      exact (but.2 b ne).trans (kept b o ne (fun z => nb (z ▸ .tail _ (.head _))) q)
    have two : 2 ≤ sizeLine := by decide
    have J : Inv X pins σ (upd H s.heap.objs.size (.tup [.int (i : Nat), y])) { s with heap := h2, toks := tk + 1 } :=
      I.turnedNew (t' := tk + 1) (ch := [e, it]) (fun b o nb q => old2 b o nb q) free (Nat.le_refl _) ⟨two, [.int i tk, u'], .cons ⟨_, rfl⟩ (.cons rel .nil), _, pair2, rfl, _, rfl⟩
    refine ⟨.ref s.heap.objs.size, _, J, rfl, ⟨_, y, rfl, I.hok.fresh (Nat.le_refl _), rfl, fun ys hys => by rw [I.tuple_inj hys hq]; exact hy⟩, ⟨⟨u', ?_⟩, at1.1.at fun o q => (but.2 it N.apart.1.symm).trans q, N.apart⟩, fun b hb => ?_⟩
    · rw [Int.natCast_succ]
      exact enum2
    · rw [upd_ne (Nat.ne_of_lt (N.lt hb))]
      exact (free b hb).1
  done := fun X hP hw hK hc i pins s σ H E I free N stop => by
    subst hP hw hK
    obtain ⟨xs, hq, le⟩ := stop
    obtain ⟨its, vals, tup, _⟩ := I.tuple hq
    obtain ⟨old, x⟩ := N.enu
    obtain ⟨y1, y2, y3, y4, y5, y6⟩ := free it (.tail _ (.head _))
    have over : its.toArray[i]? = none := Array.getElem?_eq_none (by rw [List.size_toArray, ← vals.length]; exact le)
    have D : Draws X.prog X.w X.A.in1 it [it, a] i (fun _ _ => False) fun j h => j = i ∧ h.IsTupleIter it a i ∧ h.IsTuple a its.toArray :=
      { live := fun j h st => let ⟨o, z, _⟩ := st.2.1; ⟨o, z⟩
        frame := fun j h h' st k => ⟨st.1, st.2.1.at fun o z => k it (.head _) o z, st.2.2.at fun o z => k a (.tail _ (.head _)) o z⟩
        item := fun j s1 Q1 E1 lt st => absurd st.1 (Nat.ne_of_lt lt)
        done := fun s1 Q1 E1 st fin => wpAny_nextOf_tuple_end (I.ok.hd hc) st.2.1 st.2.2 over fin }
    exact wpAny_pyNext_enum_endD D x ⟨rfl, N.itr, tup⟩ fun h1 kept => ⟨rfl, I.turned (t' := s.toks) (fun b o nb q => kept b o nb q) y1 y2 y4 y5 y6⟩
/-- enumerate over a tuple -/
def iEnumT (K : PySem.W.Frag) (ta : TA) : TI := fun σ H R => ta σ H fun vs H1 => ∃ a xs, vs = [.ref a] ∧ SqT K H1 a xs ∧ R (Itet K a) H1
theorem pi_enumT {X : Cx} {e : Expr} {ta : TA} {p pos tpos : Pos} {elts : List Expr} {kk : Nat} (hg : Gl X "enumerate") (hm : X.mg "enumerate" = none) (ha : PA X [e] ta) (hs : starEach [e] X.env = [(false, eval e X.env)] := by rfl) :
    PI X (.Tuple elts kk tpos) (.Call (.Name "enumerate" p) [e] [] pos) (iEnumT X.K ta) :=
  ⟨fun pins s σ H R I q => Call_ (ld_blt I hg hm boot_enumerate (PyProof.Rows.callWith_type1 (thn (ha.run pos pins s σ H _ I q) fun us s1 ⟨vs, H1, I1, rel, a, xs, ev, hq, fin⟩ => by
    subst ev
    obtain ⟨its, _, tup, _⟩ := I1.tuple hq
    have la := tup.lt
    rw [Vals.ref1 rel]
    refine enum_call tup fun h1 ⟨en, itr⟩ kept => wpAny_pyIter_enum en ⟨s1.heap.objs.size + 1, [s1.heap.objs.size + 1, s1.heap.objs.size], _, _, H1, rfl, I1.kept (t' := s1.toks) kept, turn_enumT a _ s1.heap.objs.size,
      ⟨⟨_, en⟩, itr, Nat.succ_ne_self _, Nat.ne_of_lt la, Nat.ne_of_lt (Nat.lt_succ_of_lt la)⟩, fun b hb => ?_, fin⟩
    have le := both (R := fun b => s1.heap.objs.size ≤ b) hb (Nat.le_succ _) (Nat.le_refl _)
    exact I1.fpOk le (I1.hok.fresh le)) hs rfl))⟩
end K4
set_option maxHeartbeats 4000000
/-! Data of numbers, texts and tuples over the abstract heap; what keeps it; sorted of such data. -/
namespace K4
open PySem PySem.Spec PyProof.Rows L2

/-! ### what keeps every tuple -/
def Kp (K : PySem.W.Frag) (H H' : Hp) : Prop := ∀ a xs, SqT K H a xs → SqT K H' a xs
section
variable {K : PySem.W.Frag} {H H1 H2 : Hp} {p a : Addr} {o : HO} {xs ys : List V}
theorem Kp.refl (H : Hp) : Kp K H H := fun _ _ h => h
theorem Kp.trans (a : Kp K H H1) (b : Kp K H1 H2) : Kp K H H2 := fun c xs h => b c xs (a c xs h)
theorem rd_upd {u : HO} (h : Rd H a u) (hp : ∀ v, H p = some v → v ≠ u ∧ ∀ ob, v ≠ .frz ob u) : Rd (upd H p o) a u := by
  rcases h with h | ⟨ob, h⟩
  · have ne : a ≠ p := fun e => (hp u (by rw [← e]; exact h)).1 rfl
    exact .inl (by rw [upd_ne ne]; exact h)
  · have ne : a ≠ p := fun e => (hp _ (by rw [← e]; exact h)).2 ob rfl
    exact .inr ⟨ob, by rw [upd_ne ne]; exact h⟩
theorem kp_new (h : H p = none) : Kp K H (upd H p o) := fun a xs q => by
  rcases q with q | q
  · exact .inl (rd_upd q fun v e => by rw [h] at e; cases e)
  · exact .inr q
/-- a write over a list -/
theorem kp_lst (h : H p = some (.lst ys)) : Kp K H (upd H p o) := fun a xs q => by
  rcases q with q | q
  · refine .inl (rd_upd q fun v e => ?_)
    rw [h] at e
    cases e
    exact ⟨(fun z => by cases z), (fun ob z => by cases z)⟩
  · exact .inr q
/-- a write over a dict -/
theorem kp_dK {kvs : List (Key × V)} (h : H p = some (.dK kvs)) : Kp K H (upd H p o) := fun a xs q => by
  rcases q with q | q
  · refine .inl (rd_upd q fun v e => ?_)
    rw [h] at e
    cases e
    exact ⟨(fun z => by cases z), (fun ob z => by cases z)⟩
  · exact .inr q
theorem same_sqT (e : Same H H1) (h : SqT K H a xs) : SqT K H1 a xs := by
  rcases h with (h | ⟨ob, h⟩) | h
  · exact .inl (.inl (e _ _ h))
  · exact .inl (.inr ⟨ob, e _ _ h⟩)
  · exact .inr h
theorem kp_same (e : Same H H1) : Kp K H H1 := fun a xs h => same_sqT e h
theorem same_new (h : H p = none) : Same H (upd H p o) := fun b u e => by
  rw [upd_ne (ne_of_none e h)]
  exact e
/-- what H does not know may change -/
theorem same_mut (e : Same H H1) (h : H p = none) : Same H (upd H1 p o) := fun b u q => by
  rw [upd_ne (ne_of_none q h)]
  exact e b u q
/-- all but what stands at one place -/
def But (r : Addr) (H H' : Hp) : Prop := ∀ b o, b ≠ r → H b = some o → H' b = some o
theorem But.refl (r : Addr) (H : Hp) : But r H H := fun _ _ _ h => h
theorem But.trans {r : Addr} (a : But r H H1) (b : But r H1 H2) : But r H H2 := fun c o n h => b c o n (a c o n h)
theorem Same.but {r : Addr} (e : Same H H1) : But r H H1 := fun b o _ h => e b o h
theorem but_at {r : Addr} : But r H (upd H r o) := fun b u n h => by
  rw [upd_ne n]
  exact h
theorem But.mut {r : Addr} (e : But r H H1) (h : H p = none) : But r H (upd H1 p o) := fun b u n q => by
  rw [upd_ne (ne_of_none q h)]
  exact e b u n q
theorem kp_but {r : Addr} (e : But r H H1) (h : H r = some (.lst ys)) : Kp K H H1 := fun a xs q => by
  rcases q with (q | ⟨ob, q⟩) | q
  · exact .inl (.inl (e _ _ (fun z => by rw [z, h] at q; cases q) q))
  · exact .inl (.inr ⟨ob, e _ _ (fun z => by rw [z, h] at q; cases q) q⟩)
  · exact .inr q
/-- fresh now, fresh before -/
theorem fresh_of (e : Same H H1) (h : H1 p = none) : H p = none := e.free h
theorem but_fresh {r : Addr} (e : But r H H1) (hr : H1 r ≠ none) (h : H1 p = none) : H p = none := by
  cases q : H p with
  | none => rfl
  | some o =>
    have n : p ≠ r := fun z => hr (by rw [← z]; exact h)
    rw [e p o n q] at h
    cases h
end

/-! ### data -/
mutual
inductive Tp (K : PySem.W.Frag) (H : Hp) : V → PyData → Prop
  | int (i : Int) : Tp K H (.int i) (.int i)
  | str (x : Str) : Tp K H (.str x) (.str x)
  | tup {a : Addr} {xs : List V} {ds : List PyData} : SqT K H a xs → TpAll K H xs ds → Tp K H (.ref a) (.tuple ds)
inductive TpAll (K : PySem.W.Frag) (H : Hp) : List V → List PyData → Prop
  | nil : TpAll K H [] []
  | cons {v : V} {vs : List V} {d : PyData} {ds : List PyData} : Tp K H v d → TpAll K H vs ds → TpAll K H (v :: vs) (d :: ds)
end
section
variable {K : PySem.W.Frag} {H H1 : Hp}
mutual
theorem Tp.kp (k : Kp K H H1) : ∀ (d : PyData) (v : V), Tp K H v d → Tp K H1 v d
  | .int _, _, h => by cases h; exact .int _
  | .str _, _, h => by cases h; exact .str _
  | .tuple ds, _, h => by
    cases h with
    | tup h1 h2 => exact .tup (k _ _ h1) (TpAll.kp k ds _ h2)
  | .none, _, h => by cases h
  | .bool _, _, h => by cases h
  | .list _, _, h => by cases h
  | .dict _, _, h => by cases h
theorem TpAll.kp (k : Kp K H H1) : ∀ (ds : List PyData) (vs : List V), TpAll K H vs ds → TpAll K H1 vs ds
  | [], _, h => by cases h; exact .nil
  | d :: ds, _, h => by
    cases h with
    | cons h1 h2 => exact .cons (Tp.kp k d _ h1) (TpAll.kp k ds _ h2)
end
mutual
theorem Tp.dp : ∀ (d : PyData) (v : V), Tp K H v d → Dp K H v d
  | .int _, _, h => by cases h; exact .int _
  | .str _, _, h => by cases h; exact .str _
  | .tuple ds, _, h => by
    cases h with
    | tup h1 h2 => exact .tup h1 (TpAll.dp ds _ h2)
  | .none, _, h => by cases h
  | .bool _, _, h => by cases h
  | .list _, _, h => by cases h
  | .dict _, _, h => by cases h
theorem TpAll.dp : ∀ (ds : List PyData) (vs : List V), TpAll K H vs ds → DpAll K H vs ds
  | [], _, h => by cases h; exact .nil
  | d :: ds, _, h => by
    cases h with
    | cons h1 h2 => exact .cons (Tp.dp d _ h1) (TpAll.dp ds _ h2)
end
theorem tp_kp {v : V} {d : PyData} (h : Tp K H v d) (k : Kp K H H1) : Tp K H1 v d := Tp.kp k d v h
theorem tpa_kp {vs : List V} {ds : List PyData} (h : TpAll K H vs ds) (k : Kp K H H1) : TpAll K H1 vs ds := TpAll.kp k ds vs h
theorem tp_dp {v : V} {d : PyData} (h : Tp K H v d) : Dp K H v d := Tp.dp d v h
theorem tpa_dp {vs : List V} {ds : List PyData} (h : TpAll K H vs ds) : DpAll K H vs ds := TpAll.dp ds vs h
theorem tpa_len : ∀ {vs : List V} {ds : List PyData}, TpAll K H vs ds → vs.length = ds.length
  | _, [], h => by cases h; rfl
  | _, d :: ds, h => by
    cases h with
    | cons _ h2 => exact congrArg (· + 1) (tpa_len h2)
theorem tpa_get : ∀ {vs : List V} {ds : List PyData} {i : Nat} {d : PyData}, TpAll K H vs ds → ds[i]? = some d → ∃ v, vs[i]? = some v ∧ Tp K H v d
  | _, [], _, _, _, e => by simp at e
  | _, d :: ds, 0, _, h, e => by
    cases h with
    | cons h1 _ =>
      cases (show some d = some _ from e)
      exact ⟨_, rfl, h1⟩
  | _, d :: ds, i + 1, _, h, e => by
    cases h with
    | cons _ h2 => exact tpa_get (i := i) h2 e
theorem tpa_at : ∀ {vs : List V} {ds : List PyData} {i : Nat} {v : V}, TpAll K H vs ds → vs[i]? = some v → ∃ d, ds[i]? = some d ∧ Tp K H v d
  | [], _, _, _, _, e => by simp at e
  | x :: vs, _, 0, _, h, e => by
    cases h with
    | cons h1 _ =>
      cases (show some x = some _ from e)
      exact ⟨_, rfl, h1⟩
  | x :: vs, _, i + 1, _, h, e => by
    cases h with
    | cons _ h2 => exact tpa_at (i := i) h2 e
theorem tpa_append : ∀ {vs ws : List V} {ds es : List PyData}, TpAll K H vs ds → TpAll K H ws es → TpAll K H (vs ++ ws) (ds ++ es)
  | _, _, [], _, h, k => by cases h; exact k
  | _, _, d :: ds, _, h, k => by
    cases h with
    | cons h1 h2 => exact .cons h1 (tpa_append h2 k)
theorem tpa_one {v : V} {d : PyData} (h : Tp K H v d) : TpAll K H [v] [d] := .cons h .nil
theorem tpa_snoc {vs : List V} {ds : List PyData} {v : V} {d : PyData} (h : TpAll K H vs ds) (k : Tp K H v d) : TpAll K H (vs ++ [v]) (ds ++ [d]) := tpa_append h (tpa_one k)
/-- a tuple of the data -/
theorem tp_tup {v : V} {ds : List PyData} (h : Tp K H v (.tuple ds)) : ∃ a xs, v = .ref a ∧ SqT K H a xs ∧ TpAll K H xs ds := by
  cases h with
  | tup h1 h2 => exact ⟨_, _, rfl, h1, h2⟩
theorem tp_int {v : V} {i : Int} (h : Tp K H v (.int i)) : v = .int i := by cases h; rfl
theorem tp_str {v : V} {x : Str} (h : Tp K H v (.str x)) : v = .str x := by cases h; rfl
/-- a new tuple -/
theorem tp_new {p : Addr} {xs : List V} {ds : List PyData} (hp : H p = none) (h : TpAll K H xs ds) : Tp K (upd H p (.tup xs)) (.ref p) (.tuple ds) := .tup (SqT.of upd_same) (tpa_kp h (kp_new hp))
theorem tpa_ints : ∀ ns : List Int, TpAll K H (ns.map V.int) (ns.map PyData.int)
  | [] => .nil
  | n :: ns => .cons (.int n) (tpa_ints ns)
theorem tpa_ints_eq : ∀ {ns : List Int} {vs : List V}, TpAll K H vs (ns.map PyData.int) → vs = ns.map V.int
  | [], _, h => by cases h; rfl
  | n :: ns, _, h => by
    cases h with
    | cons h1 h2 =>
      rw [tp_int h1, tpa_ints_eq h2]
      rfl
/-- the kind of a value of the data -/
theorem ty_sqT {a : Addr} {xs : List V} (h : SqT K H a xs) : TyX K H (.ref a) (.type "tuple") := by
  rcases h with (h | ⟨ob, h⟩) | ⟨o, its, n, hk, hc, _⟩
  · exact .base (.tup h)
  · exact .fTuple h
  · exact .kTuple hk hc
theorem ty_int {i : Int} : TyX K H (.int i) (.type "int") := .base (.int i)
theorem ty_str {x : Str} : TyX K H (.str x) (.type "str") := .base (.str x)
end

/-! ### how the data of this law are written -/
def ltr (h : Bool) : Str := if h = true then "H" else "V"
def szD (p : Sz) : PyData := .tuple [.int p.1, .int p.2]
def tokD : Tok → PyData
  | .num b => .int (b : Nat)
  | .op h => .str (ltr h)
def treeD : T → PyData
  | .leaf b => .int (b : Nat)
  | .node h l r => .tuple [.str (ltr h), treeD l, treeD r]
abbrev Row := Sz × List (Nat × Nat)
def pairD (c : Nat × Nat) : PyData := .tuple [.int (c.1 : Nat), .int (c.2 : Nat)]
def rowD (r : Row) : PyData := .tuple [.int r.1.1, .int r.1.2, .tuple (r.2.map pairD)]
def wordD (w : List Tok) : PyData := .tuple (w.map tokD)
def sizesD (ss : List Sz) : PyData := .tuple (ss.map szD)
def blocksD (bs : List (List Sz)) : PyData := .tuple (bs.map sizesD)
def choiceD (c : List Nat) : PyData := .tuple (c.map fun (a : Nat) => .int (a : Nat))
theorem ltr_H : ltr true = "H" := rfl
theorem ltr_V : ltr false = "V" := rfl
theorem ltr_ne : ("V" : Str) ≠ "H" := by decide +kernel

/-! ### sorted -/
/-- sorted(xs): a new list, the data in order -/
def rSortD (K : PySem.W.Frag) {β : Type} (enc : β → PyData) : List V → Hp → VK → Prop := fun vs H Q => ∃ (a : Addr) (xs : List V) (bs : List β), vs = [.ref a] ∧ SqL K H a xs ∧ TpAll K H xs (bs.map enc) ∧
  PySem.W.AllAlike (bs.map enc) ∧ PySem.W.Sortable (bs.map enc) ∧ (∀ b ∈ bs, (enc b).depth ≤ 60) ∧
  ∀ p ys, H p = none → TpAll K H ys ((bs.mergeSort (PySem.W.dataLe false enc)).map enc) → Q (.ref p) (upd H p (.lst ys))
theorem tpa_each {K : PySem.W.Frag} {H : Hp} {β : Type} {enc : β → PyData} : ∀ {bs : List β} {xs : List V} {us : List Value}, TpAll K H xs (bs.map enc) → Vals xs us → PySem.W.EachIs (fun u b => ∃ x, RelV x u ∧ Tp K H x (enc b)) us bs
  | [], _, _, h, r => by
    cases h
    cases r
    exact .nil
  | b :: bs, _, _, h, r => by
    have h' : TpAll K H _ (enc b :: bs.map enc) := h
    cases h' with
    | cons h1 h2 =>
      cases r with
      | cons r1 r2 => exact .cons ⟨_, r1, h1⟩ (tpa_each h2 r2)
theorem each_tpa {K : PySem.W.Frag} {H : Hp} {β : Type} {enc : β → PyData} : ∀ {us : List Value} {bs : List β}, PySem.W.EachIs (fun u b => ∃ x, RelV x u ∧ Tp K H x (enc b)) us bs → ∃ xs, Vals xs us ∧ TpAll K H xs (bs.map enc)
  | _, _, .nil => ⟨[], .nil, .nil⟩
  | _, _, .cons h t => by
    obtain ⟨x, r, q⟩ := h
    obtain ⟨xs, rs, qs⟩ := each_tpa t
    exact ⟨x :: xs, .cons r rs, .cons q qs⟩
theorem cr_sortD {X : Cx} {β : Type} {enc : β → PyData} (hu : X.A.units + 64 < cLine) : CallR X (.builtin "sorted") (rSortD X.K enc) := by
  intro pins s σ H vs us Q I r h
  obtain ⟨a, xs, bs, rfl, hs, ht, hal, hk, hdp, q⟩ := h
  obtain ⟨its, rv, hl, hz⟩ := I.list hs
  rw [Vals.ref1 r]
  have e := tpa_each ht rv
  have hlen : bs.length = xs.length := by
    have z := tpa_len ht
    rw [List.length_map] at z
    exact z.symm
  have er : PySem.W.EachIs (fun u b => ∃ as, Reads s.heap u (enc b) as) its bs := e.mono fun u b ⟨x, rx, tx⟩ => Dp.reads I (enc b) x u (tp_dp tx) rx
  refine PySem.W.sorted_data hl.isList e er hal hk (by omega) (fun b hb => ?_) fun out ho eo => ?_
  · have z := hdp b hb
    omega
  · obtain ⟨ys, ry, ty⟩ := each_tpa eo
    obtain ⟨ep, he'⟩ := PyProof.Rows.sortedAll_at s.heap its out.toArray
    have hly : ys.length ≤ sizeLine := by
      rw [ry.length, ho]
      omega
    exact ⟨.ref _, upd H (s.heap.objs.size + 1) (.lst ys), I.laid (t' := s.toks) (fun _ _ => PyProof.Rows.sortedAll_old) (Nat.le_succ _) ⟨hly, out, ep, ry, he'⟩, rfl, q _ ys (I.hok.fresh (Nat.le_succ _)) ty⟩

/-! ### the order of rows and of sizes -/
theorem order_of {β : Type} {enc : β → PyData} {sz : β → Sz} {more : β → List PyData} (h : ∀ b, enc b = .tuple (.int (sz b).1 :: .int (sz b).2 :: more b)) {a b : β} (e : PySem.W.dataLe false enc a b = true) : lxe (sz a) (sz b) := by
  have e1 : (!PySem.W.dataLt (enc b) (enc a)) = true := e
  rw [h, h, PySem.W.dataLt_tuple, PySem.W.dataLt_cons rfl, PySem.W.dataLt_int] at e1
  unfold lxe
  by_cases c : (sz b).1 = (sz a).1
  · rw [if_pos (by rw [c]; simp [PyData.eqv]), PySem.W.dataLt_cons rfl, PySem.W.dataLt_int] at e1
    by_cases d : (sz b).2 = (sz a).2
    · omega
    · rw [if_neg (by simp [PyData.eqv, d])] at e1
      simp at e1
      omega
  · rw [if_neg (by simp [PyData.eqv, c])] at e1
    simp at e1
    omega
theorem sorted_order {β : Type} {enc : β → PyData} {sz : β → Sz} {more : β → List PyData} (h : ∀ b, enc b = .tuple (.int (sz b).1 :: .int (sz b).2 :: more b)) (bs : List β) :
    (bs.mergeSort (PySem.W.dataLe false enc)).Pairwise fun a b => lxe (sz a) (sz b) :=
  (PySem.W.sort_pairwise (PySem.W.sortLe_total _ false _) bs).imp fun e => order_of h e
end K4
set_option maxHeartbeats 4000000
set_option exponentiation.threshold 600
/-! Sets of tuples of ints of up to 300 members, first part: the tables of 8, 32, 128 and 512 places. (HandS.TupSets has those below 64 members, tables of 8, 32, 128.) -/
namespace K4
open PySem PySem.Spec PyProof.Rows L2

/-! ### the round i -> 5 i + 1 meets every place: by a walk that marks the places -/
/-- n steps: where one stands, the places so far as bits -/
def orb (m : Nat) : Nat → Nat × Nat
  | 0 => (0, 0)
  | n + 1 => (((orb m n).1 * 5 + 1) % (m + 1), (orb m n).2 ||| 2 ^ (orb m n).1)
theorem orb_fst (m : Nat) : ∀ n, (orb m n).1 = lcgN m n
  | 0 => rfl
  | n + 1 => by
    show ((orb m n).1 * 5 + 1) % (m + 1) = (lcgN m n * 5 + 1) % (m + 1)
    rw [orb_fst m n]
theorem orb_bit (m j : Nat) : ∀ n, (orb m n).2.testBit j = true → ∃ b, b < n ∧ lcgN m b = j
  | 0, h => by
    have z : (0 : Nat).testBit j = true := h
    simp at z
  | n + 1, h => by
    have z : ((orb m n).2 ||| 2 ^ (orb m n).1).testBit j = true := h
    rw [Nat.testBit_or, Bool.or_eq_true] at z
    rcases z with z | z
    · obtain ⟨b, hb, e⟩ := orb_bit m j n z
      exact ⟨b, Nat.lt_succ_of_lt hb, e⟩
    · rw [Nat.testBit_two_pow] at z
      have e := of_decide_eq_true z
      rw [orb_fst] at e
      exact ⟨n, Nat.lt_succ_self n, e⟩
theorem orb7 : orb 7 8 = (0, 2 ^ 8 - 1) := by decide +kernel
theorem orb31 : orb 31 32 = (0, 2 ^ 32 - 1) := by decide +kernel
theorem orb127 : orb 127 128 = (0, 2 ^ 128 - 1) := by decide +kernel
theorem orb511 : orb 511 512 = (0, 2 ^ 512 - 1) := by decide +kernel

/-- a mask that a table here may have -/
structure Mk9 (m : Nat) : Prop where
  round : orb m (m + 1) = (0, 2 ^ (m + 1) - 1)
  one : m = 7 ∨ m = 31 ∨ m = 127 ∨ m = 511
theorem mk7 : Mk9 7 := ⟨orb7, .inl rfl⟩
theorem mk31 : Mk9 31 := ⟨orb31, .inr (.inl rfl)⟩
theorem mk127 : Mk9 127 := ⟨orb127, .inr (.inr (.inl rfl))⟩
theorem mk511 : Mk9 511 := ⟨orb511, .inr (.inr (.inr rfl))⟩
section
variable {m : Nat}
theorem Mk9.odd (M : Mk9 m) : m % 2 = 1 := by rcases M.one with e | e | e | e <;> rw [e]
theorem Mk9.most (M : Mk9 m) : m ≤ 511 := by rcases M.one with e | e | e | e <;> omega
theorem Mk9.meets (M : Mk9 m) {j : Nat} (hj : j ≤ m) : ∃ b, b ≤ m ∧ lcgN m b = j := by
  have h : (orb m (m + 1)).2.testBit j = true := by
    rw [M.round]
    show (2 ^ (m + 1) - 1).testBit j = true
    rw [Nat.testBit_two_pow_sub_one]
    exact decide_eq_true (Nat.lt_succ_of_le hj)
  obtain ⟨b, hb, e⟩ := orb_bit m j (m + 1) h
  exact ⟨b, Nat.le_of_lt_succ hb, e⟩
theorem Mk9.back (M : Mk9 m) : ∀ k, lcgN m (m + 1 + k) = lcgN m k
  | 0 => by
    have h := orb_fst m (m + 1)
    rw [M.round] at h
    exact h.symm
  | k + 1 => congrArg (fun z => (z * 5 + 1) % (m + 1)) (M.back k)
theorem Mk9.from (M : Mk9 m) {i j : Nat} (hi : i ≤ m) (hj : j ≤ m) : ∃ k, k ≤ m ∧ lcgI m i k = j := by
  obtain ⟨a, ha, ea⟩ := M.meets hi
  obtain ⟨b, hb, eb⟩ := M.meets hj
  subst ea eb
  by_cases c : a ≤ b
  · exact ⟨b - a, Nat.le_trans (Nat.sub_le _ _) hb, by rw [lcgN_add, show a + (b - a) = b by omega]⟩
  · refine ⟨m + 1 + b - a, by omega, ?_⟩
    rw [lcgN_add, show a + (m + 1 + b - a) = m + 1 + b by omega, M.back]
/-- a run begins at j soon enough -/
theorem Mk9.run (M : Mk9 m) (h : Int) {j : Nat} (hj : j ≤ m) : ∃ n, n ≤ m + 12 ∧ runI m (SetTable.bits h) n = j := by
  obtain ⟨k, hk, e⟩ := M.from (runI_le m (SetTable.bits h) 12) hj
  exact ⟨12 + k, by omega, (runI_tail (bits_lt h) k).trans e⟩

/-- the search's c-th state -/
abbrev at_ (m : Nat) (h : Int) (c : Nat) : SetTable.Probe := nth m (runAt m (SetTable.bits h % (m + 1)) (SetTable.bits h)) c
theorem at_add (m : Nat) (h : Int) (c q : Nat) : nth m (at_ m h c) q = at_ m h (c + q) := (nth_add m c _ q).symm
theorem at_way (m : Nat) (h : Int) (c q : Nat) : (nth m (at_ m h c) q).j = way m h (c + q) := congrArg SetTable.Probe.j (at_add m h c q)
theorem at_dummy (m : Nat) (h : Int) : ∀ c, (at_ m h c).dummy = none
  | 0 => rfl
  | c + 1 => by
    have ih := at_dummy m h c
    show (nth m (runAt m (SetTable.bits h % (m + 1)) (SetTable.bits h)) (c + 1)).dummy = none
    rw [nth_succ]
    unfold adv
    split <;> exact ih
theorem way_top (m : Nat) (h : Int) (c : Nat) : way m h c ≤ m := by
  have low : SetTable.bits h % (m + 1) < m + 1 := Nat.mod_lt _ (Nat.succ_pos _)
  have r := runEnd_bd (Nat.le_of_lt_succ low)
  exact Nat.le_trans (Nat.le_add_right _ _) (nth_in (m := m) c (runAt m (SetTable.bits h % (m + 1)) (SetTable.bits h)) (by simp only [runAt]; omega))
theorem Mk9.reached (M : Mk9 m) (h : Int) {j : Nat} (hj : j ≤ m) : ∃ k, k < 10 * SetTable.turns m ∧ way m h k = j := by
  obtain ⟨n, hn, e⟩ := M.run h hj
  have ⟨k, hk, e2⟩ := run_nth m (SetTable.bits h) n
  have z : n < SetTable.turns m := by
    rw [SetTable.turns]
    omega
  exact ⟨k, by omega, (congrArg SetTable.Probe.j e2).trans e⟩
end

/-! ### a table and the hashes of what it holds -/
/-- the search for h meets j, and only taken places before -/
def Meets (t : SetTable) (h : Int) (j : Nat) : Prop := ∃ k, way t.mask h k = j ∧ ∀ k', k' < k → way t.mask h k' ∈ t.place.toList
structure Tb (t : SetTable) (hs : List Int) : Prop where
  ris : Ris t.place.toList
  dm : t.dummies = #[]
  sz : t.place.size = hs.length
  mask : Mk9 t.mask
  top : ∀ x ∈ t.place.toList, x ≤ t.mask
  reach : ∀ (i : Nat) (h : Int) (j : Nat), hs[i]? = some h → t.place.toList[i]? = some j → Meets t h j
section
variable {t : SetTable} {hs : List Int}
/-- where the search for a hash meets the first free place -/
theorem Tb.first (T : Tb t hs) (hl : hs.length ≤ t.mask) (h : Int) : ∃ K, K < 10 * SetTable.turns t.mask ∧ way t.mask h K ∉ t.place.toList ∧ ∀ k, k < K → way t.mask h k ∈ t.place.toList := by
  have few : t.place.toList.length < t.mask + 1 := by
    have z : t.place.toList.length = t.place.size := rfl
    rw [z, T.sz]
    exact Nat.lt_succ_of_le hl
  obtain ⟨j, hj, hno⟩ := st_missing t.place.toList (t.mask + 1) few
  obtain ⟨k, hk, e⟩ := T.mask.reached h (Nat.le_of_lt_succ hj)
  have hno' : way t.mask h k ∉ t.place.toList := by rw [e]; exact hno
  obtain ⟨K, h1, h2, h3⟩ := st_least (p := fun k => way t.mask h k ∉ t.place.toList) k hno'
  exact ⟨K, Nat.lt_of_le_of_lt h1 hk, h2, fun k' hk' => Classical.byContradiction fun c => h3 k' hk' c⟩
theorem Tb.ahead (T : Tb t hs) {h : Int} {K i j : Nat} (hK : way t.mask h K ∉ t.place.toList) (hi : hs[i]? = some h) (hj : t.place.toList[i]? = some j) : ∃ k, k < K ∧ way t.mask h k = j := by
  have ⟨k, e, hb⟩ := T.reach i h j hi hj
  refine ⟨k, Nat.lt_of_not_le fun c => ?_, e⟩
  rcases Nat.eq_or_lt_of_le c with d | d
  · rw [d, e] at hK
    exact hK (List.mem_of_getElem? hj)
  · exact hK (hb K d)
/-- one more -/
theorem Tb.more (T : Tb t hs) {h : Int} {K p : Nat} (hp : SetTable.below t.place (way t.mask h K) = p) (hK : way t.mask h K ∉ t.place.toList) (hb : ∀ k, k < K → way t.mask h k ∈ t.place.toList) :
    p ≤ hs.length ∧ Tb (t.put (way t.mask h K)).1 (hs.take p ++ h :: hs.drop p) ∧ (t.put (way t.mask h K)).1.fill = hs.length + 1 := by
  have hlen : t.place.toList.length = hs.length := T.sz
  have cut := (below_cut T.ris (way t.mask h K)).1
  rw [hp] at cut
  have hpl : p ≤ t.place.toList.length := cut
  have hph : p ≤ hs.length := by rw [← hlen]; exact hpl
  have hnp : t.place[SetTable.below t.place (way t.mask h K)]? ≠ some (way t.mask h K) := fun e => hK (List.mem_of_getElem? (by rw [Array.getElem?_toList]; exact e))
  have hpp := put_place t (way t.mask h K)
  rw [hp] at hpp
  have hsize : (t.put (way t.mask h K)).1.place.size = hs.length + 1 := by
    have z : (t.put (way t.mask h K)).1.place.toList.length = hs.length + 1 := by rw [hpp, len_ins _ hpl, hlen]
    exact z
  have up : ∀ {x : Nat}, x ∈ t.place.toList → x ∈ (t.put (way t.mask h K)).1.place.toList := fun {x} hx => by
    rw [hpp]
    exact mem_ins.2 (.inr hx)
  refine ⟨hph, ⟨ris_insert T.ris hnp, put_dm T.dm _, by rw [hsize, len_ins _ hph], T.mask, fun x hx => ?_, fun i h' j' h1 h2 => ?_⟩, ?_⟩
  · rw [hpp] at hx
    rcases mem_ins.1 hx with z | z
    · rw [z]
      exact way_top _ _ _
    · exact T.top x z
  · rw [tins_get hs hph] at h1
    rw [hpp, tins_get _ hpl] at h2
    have old : ∀ i', hs[i']? = some h' → t.place.toList[i']? = some j' → Meets (t.put (way t.mask h K)).1 h' j' := fun i' a b =>
      let ⟨k, e, z⟩ := T.reach i' h' j' a b
      ⟨k, e, fun n hn => up (z n hn)⟩
    by_cases c : i < p
    · rw [if_pos c] at h1 h2
      exact old i h1 h2
    · rw [if_neg c] at h1 h2
      by_cases d : i = p
      · rw [if_pos d] at h1 h2
        cases h1
        cases h2
        exact ⟨K, rfl, fun k' hk' => up (hb k' hk')⟩
      · rw [if_neg d] at h1 h2
        exact old (i - 1) h1 h2
  · show (t.put (way t.mask h K)).1.place.size + (t.put (way t.mask h K)).1.dummies.size = hs.length + 1
    rw [hsize, put_dm T.dm]
    rfl
end

/-! ### laying anew -/
/-- the place that the layer finds for a hash -/
abbrev freeAt (m : Nat) (owner : Array (Option Nat)) (h : Int) : Option Nat := SetTable.layClean.free m owner (SetTable.turns m) (SetTable.bits h % (m + 1)) (SetTable.bits h)
section
variable {m : Nat}
/-- the first free place on the way of a hash is found -/
theorem Mk9.free (M : Mk9 m) (owner : Array (Option Nat)) (h : Int) {j : Nat} (hj : j ≤ m) (hf : oAt owner j = none) :
    ∃ K, freeAt m owner h = some (way m h K) ∧ oAt owner (way m h K) = none ∧ ∀ k, k < K → oAt owner (way m h k) ≠ none := by
  obtain ⟨n, hn, e⟩ := M.run h hj
  obtain ⟨N, eN⟩ : ∃ N, N = off m (SetTable.bits h % (m + 1)) (SetTable.bits h) n := ⟨_, rfl⟩
  have hw : way m h N = j := by
    show (nth m _ N).j = j
    rw [eN, nth_off, itL_run]
    exact e
  have hN : oAt owner (way m h N) = none := by rw [hw]; exact hf
  obtain ⟨K, k1, k2, k3⟩ := st_least (p := fun k => oAt owner (way m h k) = none) N hN
  refine ⟨K, free_spec m owner (SetTable.turns m) n _ _ K (by unfold SetTable.turns; omega) (by rw [← eN]; exact k1) (fun k hk => ?_) ?_, k2, k3⟩
  · exact Option.isNone_eq_false_iff.mpr (Option.isSome_iff_ne_none.mpr (k3 k hk))
  · exact Option.isNone_iff_eq_none.mpr k2
theorem Mk9.own (M : Mk9 m) {done : List Int} {owner : Array (Option Nat)} (W : Own m done owner) (hl : done.length ≤ m) (h : Int) :
    ∃ j, freeAt m owner h = some j ∧ Own m (done ++ [h]) (owner.setIfInBounds j (some done.length)) := by
  obtain ⟨ps, hps, hin⟩ := W.ps
  obtain ⟨j0, h0, hn0⟩ := st_missing ps (m + 1) (by omega)
  have free0 : oAt owner j0 = none := Classical.byContradiction fun c => hn0 (hin j0 (Nat.le_of_lt_succ h0) c)
  obtain ⟨K, e1, e2, e3⟩ := M.free owner h (Nat.le_of_lt_succ h0) free0
  obtain ⟨j, ej⟩ : ∃ j, j = way m h K := ⟨_, rfl⟩
  have hjm : j ≤ m := by rw [ej]; exact way_top m h K
  rw [← ej] at e1 e2
  have hself : oAt (owner.setIfInBounds j (some done.length)) j = some done.length := oAt_set_self _ (by rw [W.sz]; exact Nat.lt_succ_of_le hjm)
  have stays : ∀ {i : Nat}, oAt owner i ≠ none → oAt (owner.setIfInBounds j (some done.length)) i ≠ none := fun {i} hi => by
    by_cases c : i = j
    · rw [c, hself]
      exact Option.some_ne_none _
    · rw [oAt_set_ne _ c]
      exact hi
  refine ⟨j, e1, by rw [Array.size_setIfInBounds]; exact W.sz, fun i k hi e => ?_, fun k hk => ?_, ⟨j :: ps, by rw [List.length_cons, hps, List.length_append]; rfl, fun i hi e => ?_⟩⟩
  · by_cases c : i = j
    · rw [c, hself] at e
      cases e
      refine ⟨h, K, ?_, by rw [c, ej], fun k' hk' => stays (e3 k' hk')⟩
      rw [List.getElem?_append_right (Nat.le_refl _), Nat.sub_self]
      rfl
    · rw [oAt_set_ne _ c] at e
      obtain ⟨h', K', a1, a2, a3⟩ := W.at_ i k hi e
      refine ⟨h', K', ?_, a2, fun k' hk' => stays (a3 k' hk')⟩
      rw [List.getElem?_append_left (List.getElem?_eq_some_iff.mp a1).1]
      exact a1
  · by_cases c : k < done.length
    · obtain ⟨i, hi, e⟩ := W.all k c
      exact ⟨i, hi, by rw [oAt_set_ne _ (fun z => by rw [z, e2] at e; cases e)]; exact e⟩
    · rw [List.length_append] at hk
      have hk2 : k < done.length + 1 := hk
      exact ⟨j, hjm, by rw [hself, show k = done.length by omega]⟩
  · by_cases c : i = j
    · rw [c]
      exact List.mem_cons_self
    · rw [oAt_set_ne _ c] at e
      exact List.mem_cons_of_mem _ (hin i hi e)
theorem Mk9.fold (M : Mk9 m) : ∀ (rest done : List Int) (owner : Array (Option Nat)), Own m done owner → done.length + rest.length ≤ m →
    ∃ own2, rest.foldl (stepF m) (some (owner, done.length)) = some (own2, (done ++ rest).length) ∧ Own m (done ++ rest) own2
  | [], done, owner, W, _ => by
    rw [List.append_nil]
    exact ⟨owner, rfl, W⟩
  | x :: rest, done, owner, W, hl => by
    have hl2 : done.length + (rest.length + 1) ≤ m := hl
    obtain ⟨j, e, W'⟩ := M.own W (by omega) x
    have hd : (done ++ [x]).length = done.length + 1 := List.length_append
    obtain ⟨owner', f, W2⟩ := M.fold rest (done ++ [x]) _ W' (by omega)
    rw [List.append_assoc] at f W2
    rw [hd] at f
    exact ⟨owner', by rw [List.foldl_cons, stepF_some e]; exact f, W2⟩
theorem Mk9.lay (M : Mk9 m) {hs : Array Int} (hn : hs.size ≤ m) : ∃ owner, SetTable.layClean m hs = some owner ∧ Own m hs.toList owner := by
  have hn2 : ([] : List Int).length + hs.toList.length ≤ m := by
    show 0 + hs.size ≤ m
    omega
  obtain ⟨owner, f, W⟩ := M.fold hs.toList [] _ (Own.init m) hn2
  exact ⟨owner, by rw [layClean_eq, show (0 : Nat) = ([] : List Int).length from rfl, f]; rfl, W⟩
/-- the new table -/
theorem Mk9.relaid (M : Mk9 m) (t : SetTable) {hs : Array Int} {wanted : Nat} (hw : SetTable.sizeAbove wanted - 1 = m) (hn : hs.size ≤ m) :
    ∃ t' order, t.relaid hs wanted = some (t', order) ∧ order.toList.Perm (List.range hs.size) ∧ Tb t' (order.toList.map fun i => hs.getD i 0) ∧ t'.mask = m ∧ t'.led = t.led ∧ t'.plain = t.plain := by
  obtain ⟨owner, e, W⟩ := M.lay hn
  obtain ⟨lv, elv⟩ : ∃ lv, lv = liveOf m owner := ⟨_, rfl⟩
  have hr : t.relaid hs wanted = some (tabOf t m owner, (lv.map (·.2)).toArray) := by
    rw [relaid_eq, hw, e, elv]
    rfl
  have mem : ∀ {j k : Nat}, (j, k) ∈ lv ↔ j ≤ m ∧ oAt owner j = some k := by
    rw [elv]
    exact mem_live W.sz
  have ris := ris_live (fun j => owner.getD j none) (List.range (m + 1)) List.pairwise_lt_range
  have r1 : Ris (lv.map (·.1)) := by rw [elv]; exact ris.1
  have r2 : ∀ x ∈ lv.map (·.1), x ∈ List.range (m + 1) := by rw [elv]; exact ris.2
  have hsz : hs.toList.length = hs.size := rfl
  have hlen : lv.length = hs.size := by
    obtain ⟨ps, p1, p2⟩ := W.ps
    have nd : (lv.map (·.1)).Nodup := List.Pairwise.imp (fun h => Nat.ne_of_lt h) r1
    have a := nat_nodup_len (lv.map (·.1)) ps nd fun x hx => by
      obtain ⟨⟨y, k⟩, hq, rfl⟩ := List.mem_map.mp hx
      obtain ⟨b1, b2⟩ := mem.1 hq
      exact p2 y b1 (by rw [b2]; exact Option.some_ne_none k)
    have b := nat_nodup_len (List.range hs.size) (lv.map (·.2)) List.nodup_range fun k hk => by
      obtain ⟨j, b1, b2⟩ := W.all k (List.mem_range.mp hk)
      exact List.mem_map.mpr ⟨(j, k), mem.2 ⟨b1, b2⟩, rfl⟩
    rw [List.length_map, p1] at a
    rw [List.length_map, List.length_range] at b
    omega
  have epl : (tabOf t m owner).place.toList = lv.map (·.1) := by rw [elv]; rfl
  refine ⟨tabOf t m owner, (lv.map (·.2)).toArray, hr, ?_, ⟨?_, rfl, ?_, M, fun x hx => ?_, fun i h j h1 h2 => ?_⟩, rfl, rfl, rfl⟩
  · refine perm_range hs.size _ (by rw [← hlen]; exact List.length_map _) fun k hk => ?_
    obtain ⟨j, b1, b2⟩ := W.all k hk
    exact List.mem_map.mpr ⟨(j, k), mem.2 ⟨b1, b2⟩, rfl⟩
  · rw [epl]; exact r1
  · have z : (tabOf t m owner).place.toList.length = lv.length := by rw [epl]; exact List.length_map _
    show (tabOf t m owner).place.toList.length = _
    rw [z]
    simp
  · rw [epl] at hx
    exact Nat.le_of_lt_succ (List.mem_range.mp (r2 x hx))
  · have row : ∃ q, lv[i]? = some q ∧ q.1 = j ∧ hs.getD q.2 0 = h := by
      rw [epl, List.getElem?_map] at h2
      obtain ⟨q, hq, e⟩ := Option.map_eq_some_iff.mp h2
      have z : ((lv.map (·.2)).map fun i => hs.getD i 0)[i]? = some h := h1
      exact ⟨q, hq, e, by simpa [hq] using z⟩
    obtain ⟨⟨y, k⟩, hq, rfl, eh⟩ := row
    obtain ⟨low, owns⟩ := mem.1 (List.mem_of_getElem? hq)
    obtain ⟨g, n, at_k, meets, taken⟩ := W.at_ y k low owns
    obtain rfl : g = h := by
      rw [← eh, Array.getD_eq_getD_getElem?, ← Array.getElem?_toList, at_k]
      rfl
    refine ⟨n, meets, fun n' lt => ?_⟩
    obtain ⟨k2, e2⟩ := Option.ne_none_iff_exists'.mp (taken n' lt)
    rw [epl]
    exact List.mem_map.mpr ⟨(_, k2), mem.2 ⟨way_top m g n', e2⟩, rfl⟩
end
theorem size_308 : SetTable.sizeAbove (SetTable.grown 77) = 512 := by decide +kernel
end K4
set_option maxHeartbeats 4000000
/-! Sets of tuples of ints of up to 300 members, second part: what stands there, a search, one more member. -/
namespace K4
open PySem PySem.Spec PyProof.Rows L2

section
variable {P : Program} {w : World} {A : Around} {E : Value → Shared → Prop} {s : Shared} {a : Addr}
/-- the hashes of L, in its order -/
abbrev hashes (P : Program) (w : World) (L : List (Addr × List Int)) : List Int := L.map fun p => thash P w p.2
/-- at a stands a set of the tuples L, whether or not its table has room -/
structure Ls (P : Program) (w : World) (h : Heap) (a : Addr) (L : List (Addr × List Int)) (es : Array (Int × Value)) (ep : Nat) (t : SetTable) : Prop where
  obj : ∃ o : Obj, (o.ExactSet ∧ o.data = .set es ep t) ∧ h.get? a = some o
  keyed : es.toList = rowsOf P w L ∧ Tb t (hashes P w L)
  apart : (L.map (·.2)).Nodup
  made : ∀ q ∈ L, IsT P w h q.2 q.1
  calm : t.plain = true ∧ (w.params.followText "set-order" = true ∨ t.led = true)
  few : L.length ≤ 300
/-- the same, with room for one more -/
structure Ts (P : Program) (w : World) (h : Heap) (a : Addr) (L : List (Addr × List Int)) (es : Array (Int × Value)) (ep : Nat) (t : SetTable) : Prop extends Ls P w h a L es ep t where
  room : 5 * L.length < 3 * t.mask
section
variable {L : List (Addr × List Int)} {es : Array (Int × Value)} {ep : Nat} {t : SetTable} {h : Heap}
theorem rows_len (e : es.toList = rowsOf P w L) : es.size = L.length := (congrArg List.length e).trans (List.length_map _)
theorem Ls.size (R : Ls P w h a L es ep t) : es.size = L.length := rows_len R.keyed.1
theorem Ls.places (R : Ls P w h a L es ep t) : t.place.toList.length = L.length := R.keyed.2.sz.trans (List.length_map _)
theorem Ls.fits (R : Ls P w h a L es ep t) (hm : L.length ≤ t.mask) : t.fits es.size = true := by
  have e1 : t.place.size = L.length := R.places
  simp only [SetTable.fits, SetTable.fill, R.keyed.2.dm, e1, R.size]
  simp [hm]
theorem Ts.fit (R : Ts P w h a L es ep t) : t.fits es.size = true := R.toLs.fits (by have z := R.room; omega)
theorem Ls.entry (R : Ls P w h a L es ep t) {i : Nat} {q : Addr × List Int} (e : L[i]? = some q) : es[i]? = some (thash P w q.2, Value.ref q.1) := by
  have z : es.toList[i]? = some (thash P w q.2, Value.ref q.1) := by
    rw [R.keyed.1]
    exact (List.getElem?_map ..).trans (by rw [e]; rfl)
  simpa using z
/-- the members as values -/
theorem Ls.vals (R : Ls P w h a L es ep t) : es.toList.map (·.2) = L.map fun q => Value.ref q.1 := by
  rw [R.keyed.1, rowsOf, List.map_map]
  rfl
theorem Ls.state (R : Ls P w s.heap a L es ep t) (ft : t.fits es.size = true) {β : Type} {f : Array (Int × Value) × Nat × SetTable → Sem β} {Q : β → Shared → Prop} (k : wpAny (model P w) A (f (es, ep, t)) Q E s) : wpAny (model P w) A (setState a >>= f) Q E s :=
  let ⟨_, ⟨_, hd⟩, ho⟩ := R.obj
  wpAny_bind (wpAny_setState_of ho hd ft k)
theorem Ts.state (R : Ts P w s.heap a L es ep t) {β : Type} {f : Array (Int × Value) × Nat × SetTable → Sem β} {Q : β → Shared → Prop} (k : wpAny (model P w) A (f (es, ep, t)) Q E s) : wpAny (model P w) A (setState a >>= f) Q E s := R.toLs.state R.fit k
/-- what is stored over the set that stands there -/
theorem Ls.stored (R : Ls P w s.heap a L es ep t) {L1 : List (Addr × List Int)} {es1 : Array (Int × Value)} {t1 : SetTable} (hr : es1.toList = rowsOf P w L1) (T : Tb t1 (hashes P w L1)) (nd : (L1.map (·.2)).Nodup) (tp : ∀ q ∈ L1, IsT P w s.heap q.2 q.1)
    (cm : t1.plain = true ∧ (w.params.followText "set-order" = true ∨ t1.led = true)) (fw : L1.length ≤ 300) {Q : Unit → Shared → Prop} (k : ∀ h1, Heap.SameBut a s.heap h1 → Ls P w h1 a L1 es1 (ep + 1) t1 → Q () { s with heap := h1 }) :
    wpAny (model P w) A (storeSet a es1 t1) Q E s := by
  obtain ⟨o, ⟨⟨x1, x2, x3⟩, hd⟩, ho⟩ := R.obj
  have sb : Heap.SameBut a s.heap (s.heap.update a (Obj.putSet es1 t1)) := .update ..
  refine wpAny_storeSet_of ho hd (k _ sb ⟨⟨{ o with data := .set es1 (ep + 1) t1 }, ⟨⟨x1, x2, x3⟩, rfl⟩, store_at ho hd⟩, ⟨hr, T⟩, nd, fun q hq => isT_same (tp q hq) ho hd sb, cm, fw⟩) ?_
  rw [rows_len hr, sizeLine_eq]
  exact Nat.le_trans fw (by decide)

/-! ### a search -/
abbrev hashAt (es : Array (Int × Value)) (i : Nat) : Int := (es[i]?.map (·.1)).getD 0
/-- none with the key k stands before the n-th place of its way, from the c-th on -/
abbrev NoneTill (P : Program) (w : World) (L : List (Addr × List Int)) (t : SetTable) (k : List Int) (c n : Nat) : Prop :=
  ∀ (i : Nat) (q : Addr × List Int) (m : Nat), L[i]? = some q → q.2 = k → c ≤ m → t.place.toList[i]? = some (way t.mask (thash P w k) m) → n ≤ m
/-- what the probe answers that starts at the c-th place -/
theorem Ls.step (R : Ls P w h a L es ep t) {k : List Int} {K c : Nat} (hK : K < 10 * SetTable.turns t.mask ∧ way t.mask (thash P w k) K ∉ t.place.toList ∧ ∀ m, m < K → way t.mask (thash P w k) m ∈ t.place.toList) (hc : c ≤ K) :
    (∃ n i q, (c ≤ n ∧ n < K) ∧ L[i]? = some q ∧ t.place.toList[i]? = some (way t.mask (thash P w k) n) ∧ NoneTill P w L t k c n ∧
      t.probe (hashAt es) (thash P w k) (at_ t.mask (thash P w k) c) = some (.candidate (way t.mask (thash P w k) n) i (at_ t.mask (thash P w k) (n + 1)))) ∨
    (NoneTill P w L t k c K ∧ t.probe (hashAt es) (thash P w k) (at_ t.mask (thash P w k) c) = some (.empty (way t.mask (thash P w k) K) none)) := by
  obtain ⟨hf, hfree, hfull⟩ := hK
  obtain ⟨d, rfl⟩ : ∃ d, K = c + d := ⟨K - c, by omega⟩
  -- a row of the key has its hash
  have none_till : ∀ n, (∀ m i, m < n → t.place.toList[i]? = some (way t.mask (thash P w k) (c + m)) → hashAt es i ≠ thash P w k) → NoneTill P w L t k c (c + n) := fun n no i q m hi hq hcm hp => by
    by_cases z : m < c + n
    · refine absurd ?_ (no (m - c) i (by omega) (by rw [show c + (m - c) = m by omega]; exact hp))
      rw [hashAt, R.entry hi, ← hq]
      rfl
    · omega
  have spec := go_spec t R.keyed.2.ris R.keyed.2.dm (hashAt es) (thash P w k) (10 * SetTable.turns t.mask) d (at_ t.mask (thash P w k) c) (at_dummy _ _ _) (Nat.lt_of_le_of_lt (Nat.le_add_left _ _) hf)
  simp only [at_way] at spec
  rcases spec (fun m hm => hfull _ (Nat.add_lt_add_left hm c)) hfree with ⟨m, i, hm, hi, _, no, e⟩ | ⟨no, e⟩
  · have il : i < L.length := by
      rw [← R.places]
      exact (List.getElem?_eq_some_iff.mp hi).1
    refine .inl ⟨c + m, i, L[i], ⟨Nat.le_add_right _ _, Nat.add_lt_add_left hm c⟩, List.getElem?_eq_getElem il, hi, none_till m no, ?_⟩
    rw [at_add] at e
    exact e
  · exact .inr ⟨none_till d no, e⟩
/-- behind a candidate -/
theorem Ts.rest (R : Ts P w s.heap a L es ep t) {x : Addr} {k : List Int} (hx : IsT P w s.heap k x) (hu : A.units < cLine) {i j f : Nat} {q : Addr × List Int} {next : SetTable.Probe} (hq : L[i]? = some q) (hp : t.place.toList[i]? = some j) {Q : SetFound → Shared → Prop}
    (yes : q.2 = k → Q (.there none) s) (no : q.2 ≠ k → wpAny (model P w) A (setSearchFrom a (.ref x) (thash P w k) true f (some next)) Q E s) :
    wpAny (model P w) A (searchRest a (.ref x) (thash P w k) true f es t j i next) Q E s := by
  have en := R.entry hq
  have at_j : t.slot j = .live i := slot_live R.keyed.2.ris hp
  unfold searchRest
  rw [en]
  refine wpAny_bind (wpAny_holding (wpAny_eqBool_tuple hu (R.made q (List.mem_of_getElem? hq)) hx (R.state ?_)))
  by_cases e : q.2 = k
  · have ed : decide (q.2 = k) = true := decide_eq_true e
    simp only [ed]
    exact wpAny_pure (yes e)
  · have ed : decide (q.2 = k) = false := decide_eq_false e
    simp only [ed, sameMem]
    simp only [if_true, at_j, en]
    first
      | exact wpAny_bind (wpAny_pure (wpAny_bind (wpAny_isSame_ref_self (wpAny_bind (wpAny_pure (no e))))))
      | exact wpAny_bind (wpAny_isSame_ref_self (wpAny_bind (wpAny_pure (no e))))
/-- a search among tuples shows nothing of the table -/
theorem Ls.unseen (R : Ls P w s.heap a L es ep t) {x : Addr} {k : List Int} (hx : IsT P w s.heap k x) {g : Int × Value → Bool} {Q : Bool → Shared → Prop} (hQ : Q false s) : wpAny (model P w) A (searchCouldBeSeen (.ref x) ((es.filter g).toList.map (·.2))) Q E s := by
  refine seen_tup hx (fun y hy => ?_) hQ
  have my : y ∈ es.toList.map (·.2) := by
    rw [Array.toList_filter] at hy
    obtain ⟨r, hr, rfl⟩ := List.mem_map.mp hy
    exact List.mem_map_of_mem (List.mem_filter.mp hr).1
  rw [R.vals] at my
  obtain ⟨q, hq, rfl⟩ := List.mem_map.mp my
  exact ⟨q.2, q.1, rfl, R.made q hq⟩
/-- the search for k, from the c-th place of its way on -/
theorem Ts.seek (R : Ts P w s.heap a L es ep t) {x : Addr} {k : List Int} (hx : IsT P w s.heap k x) (hu : A.units < cLine) {K : Nat} (hK : K < 10 * SetTable.turns t.mask ∧ way t.mask (thash P w k) K ∉ t.place.toList ∧ ∀ m, m < K → way t.mask (thash P w k) m ∈ t.place.toList)
    {Q : SetFound → Shared → Prop} (hin : k ∈ L.map (·.2) → Q (.there none) s) (hout : k ∉ L.map (·.2) → Q (.free (way t.mask (thash P w k) K) false) s) (f : Nat) :
    ∀ (c : Nat) (stand : Option SetTable.Probe), stand.getD (t.probeStart (thash P w k)) = at_ t.mask (thash P w k) c → c ≤ K ∧ K < c + f →
      (∀ (i : Nat) (q : Addr × List Int), L[i]? = some q → q.2 = k → ∃ m, (c ≤ m ∧ m < K) ∧ t.place.toList[i]? = some (way t.mask (thash P w k) m)) → wpAny (model P w) A (setSearchFrom a (.ref x) (thash P w k) true f stand) Q E s := by
  induction f with
  | zero => exact fun c stand _ hc _ => absurd hc.2 (by omega)
  | succ f ih =>
    intro c stand hst hc ahead
    have steady : ¬ t.gaveWay = true := by
      rw [SetTable.gaveWay, R.keyed.2.mask.odd]
      decide
    rw [setSearchFrom_succ]
    refine R.state ?_
    rcases R.step hK hc.1 with ⟨n, i, q, hn, hq, hp, till, e⟩ | ⟨till, e⟩
    · have go : wpAny (model P w) A (searchRest a (.ref x) (thash P w k) true f es t (way t.mask (thash P w k) n) i (at_ t.mask (thash P w k) (n + 1))) Q E s := by
        refine R.rest hx hu hq hp (fun z => hin (List.mem_map.mpr ⟨q, List.mem_of_getElem? hq, z⟩)) fun z => ih (n + 1) _ rfl (by omega) fun i0 q0 h0 k0 => ?_
        obtain ⟨m, hm, pm⟩ := ahead i0 q0 h0 k0
        have le := till i0 q0 m h0 k0 hm.1 pm
        -- the n-th place is the candidate's, and that is of another key
        have ne : n ≠ m := fun y => by
          have s1 := slot_live R.keyed.2.ris hp
          rw [y, slot_live R.keyed.2.ris pm] at s1
          cases s1
          rw [hq] at h0
          cases h0
          exact z k0
        exact ⟨m, ⟨by omega, hm.2⟩, pm⟩
      have met : t.probe (fun i => (es[i]?.map (·.1)).getD 0) (thash P w k) (stand.getD (t.probeStart (thash P w k))) = some (.candidate (way t.mask (thash P w k) n) i (at_ t.mask (thash P w k) (n + 1))) := by
        rw [hst]
        exact e
      simp only [met, steady, if_false]
      cases hl : t.led with
      | true =>
        first
          | exact go
          | exact wpAny_bind (wpAny_pure go)
      | false =>
        first
          | exact wpAny_bind (R.unseen hx go)
          | exact wpAny_bind (wpAny_bind (R.unseen hx (wpAny_pure go)))
    · have met : t.probe (fun i => (es[i]?.map (·.1)).getD 0) (thash P w k) (stand.getD (t.probeStart (thash P w k))) = some (.empty (way t.mask (thash P w k) K) none) := by
        rw [hst]
        exact e
      simp only [met, steady, if_false]
      have fresh : k ∉ L.map (·.2) := fun z => by
        obtain ⟨q, hq, ek⟩ := List.mem_map.mp z
        obtain ⟨i, il, ei⟩ := List.mem_iff_getElem.mp hq
        have hi : L[i]? = some q := List.getElem?_eq_some_iff.mpr ⟨il, ei⟩
        obtain ⟨m, hm, pm⟩ := ahead i q hi ek
        have le := till i q m hi ek hm.1 pm
        omega
      exact wpAny_pure (hout fresh)
/-- the search for k: it is there, or here is where it is to stand -/
theorem Ts.search (R : Ts P w s.heap a L es ep t) {x : Addr} {k : List Int} (hx : IsT P w s.heap k x) (hu : A.units < cLine) {Q : SetFound → Shared → Prop} (hin : k ∈ L.map (·.2) → Q (.there none) s)
    (hout : k ∉ L.map (·.2) → ∀ K, (way t.mask (thash P w k) K ∉ t.place.toList ∧ ∀ m, m < K → way t.mask (thash P w k) m ∈ t.place.toList) → Q (.free (way t.mask (thash P w k) K) false) s) : wpAny (model P w) A (setSearch a (.ref x) (thash P w k) true) Q E s := by
  have T := R.keyed.2
  have room := R.room
  have lh : (hashes P w L).length = L.length := List.length_map _
  obtain ⟨K, hK⟩ := T.first (by omega) (thash P w k)
  have short : K < 100000 := by
    have z := hK.1
    have z2 := T.mask.most
    rw [SetTable.turns] at z
    omega
  refine R.seek hx hu hK hin (fun n => hout n K hK.2) 100000 0 none rfl ⟨Nat.zero_le _, by omega⟩ fun i q hi ek => ?_
  have il : i < t.place.toList.length := by
    rw [R.places]
    exact (List.getElem?_eq_some_iff.mp hi).1
  have hh : (hashes P w L)[i]? = some (thash P w k) := (List.getElem?_map ..).trans (by rw [hi, ← ek]; rfl)
  obtain ⟨m, hm, e⟩ := T.ahead hK.2.1 hh (List.getElem?_eq_getElem il)
  exact ⟨m, ⟨Nat.zero_le m, hm⟩, by rw [e]; exact List.getElem?_eq_getElem il⟩

/-! ### one more member -/
/-- the table and the rows with one more -/
theorem Ls.put (R : Ls P w h a L es ep t) {x : Addr} {k : List Int} {K : Nat} (hK : way t.mask (thash P w k) K ∉ t.place.toList ∧ ∀ m, m < K → way t.mask (thash P w k) m ∈ t.place.toList) :
    ∃ (p : Nat) (t1 : SetTable) (L1 : List (Addr × List Int)), t.put (way t.mask (thash P w k) K) = (t1, p) ∧ L1.Perm ((x, k) :: L) ∧ (SetTable.insertAt es p (thash P w k, .ref x)).toList = rowsOf P w L1 ∧ Tb t1 (hashes P w L1) ∧
      t1.fill = L.length + 1 ∧ t1.mask = t.mask ∧ t1.led = t.led ∧ t1.plain = t.plain := by
  obtain ⟨_, T1, fl⟩ := R.keyed.2.more rfl hK.1 hK.2
  rw [List.length_map] at fl
  generalize ep : SetTable.below t.place (way t.mask (thash P w k) K) = p at T1
  refine ⟨p, _, L.take p ++ (x, k) :: L.drop p, Prod.ext rfl ep, put_perm L p _, ?_, ?_, fl, rfl, rfl, rfl⟩
  · rw [SetTable.toList_insertAt, R.keyed.1, ← rows_put]
  · simpa [hashes, List.map_append, List.map_take, List.map_drop] using T1
/-- a table without room is laid anew, wider -/
theorem Ls.relay (R : Ls P w s.heap a L es ep t) (ft : t.fits es.size = true) {wanted m : Nat} (hw : SetTable.sizeAbove wanted = m + 1) (M : Mk9 m) (hn : 5 * L.length < 3 * m) {Q : Unit → Shared → Prop}
    (hQ : ∀ h' L' es' ep' t', Heap.SameBut a s.heap h' → Ts P w h' a L' es' ep' t' → L'.Perm L → Q () { s with heap := h' }) : wpAny (model P w) A (setRelay a wanted) Q E s := by
  have zs := R.size
  have zh : (es.map (·.1)).size = L.length := Array.size_map.trans zs
  obtain ⟨t', order, e, hp, T, em, el, epl⟩ := M.relaid t (hs := es.map (·.1)) (wanted := wanted) (by omega) (by omega)
  rw [zh] at hp
  obtain ⟨L2, hr2, pm, hh⟩ := order_rows L es order R.keyed.1 hp
  have T2 : Tb t' (hashes P w L2) := by
    rw [hashes, hh]
    exact T
  have same : (order.filterMap (es[·]?)).size = es.size := (rows_len hr2).trans (pm.length_eq.trans zs.symm)
  have few2 : L2.length ≤ 300 := pm.length_eq ▸ R.few
  have small : ¬ SetTable.sizeAbove wanted > sizeLine := by
    have z := M.most
    rw [hw, sizeLine_eq]
    omega
  have stored : wpAny (model P w) A (storeSet a (order.filterMap (es[·]?)) t') Q E s :=
    R.stored hr2 T2 ((pm.map _).nodup_iff.mpr R.apart) (fun q hq => R.made q (pm.mem_iff.mp hq)) ⟨epl.trans R.calm.1, by rw [el]; exact R.calm.2⟩ few2 fun h1 sb R1 => hQ h1 L2 _ _ t' sb ⟨R1, by rw [pm.length_eq, em]; exact hn⟩ pm
  rw [setRelay_eq]
  refine R.state ft ?_
  simp only [small, if_false, e, same, bne_self_eq_false, Bool.false_eq_true]
  first
    | exact wpAny_bind (wpAny_pure stored)
    | exact wpAny_bind (wpAny_bind (wpAny_pure (wpAny_pure stored)))
    | exact wpAny_bind (wpAny_pure (wpAny_bind (wpAny_pure stored)))
/-- the table that is wanted where one more leaves no room: 32, 128 or 512 places -/
theorem wider {n m : Nat} (M : Mk9 m) (h0 : 5 * n < 3 * m) (h1 : 3 * m ≤ 5 * (n + 1)) (h2 : n < 300) : ∃ m', SetTable.sizeAbove (SetTable.grown (n + 1)) = m' + 1 ∧ Mk9 m' ∧ 5 * (n + 1) < 3 * m' ∧ n + 1 ≤ m := by
  rcases M.one with e | e | e | e
  · obtain rfl : n = 4 := by omega
    exact ⟨31, size_20, mk31, by decide, by omega⟩
  · obtain rfl : n = 18 := by omega
    exact ⟨127, size_76, mk127, by decide, by omega⟩
  · obtain rfl : n = 76 := by omega
    exact ⟨511, size_308, mk511, by decide, by omega⟩
  · omega
theorem Ts.add (R : Ts P w s.heap a L es ep t) {x : Addr} {k : List Int} (hx : IsT P w s.heap k x) (hu : A.units < cLine) (fw : L.length < 300) {Q : Bool → Shared → Prop}
    (hQ : ∀ b h' L' es' ep' t', Heap.SameBut a s.heap h' → Ts P w h' a L' es' ep' t' → (k ∈ L.map (·.2) → L' = L) ∧ (k ∉ L.map (·.2) → L'.Perm ((x, k) :: L)) → Q b { s with heap := h' }) : wpAny (model P w) A (setAddHashed a (.ref x) (thash P w k)) Q E s := by
  have noscan : byScan (.ref x) es = false := by simp [byScan, Value.scannable]
  refine wpAny_holding ?_
  show wpAny (model P w) A (setAddHashedIn a (.ref x) (thash P w k) (99999 + 1)) Q E s
  rw [setAddHashedIn_succ]
  refine R.state ?_
  simp only [noscan, Bool.false_eq_true, if_false]
  refine wpAny_bind (R.search hx hu (fun there => ?_) fun fresh K hK => ?_)
  · exact wpAny_pure (hQ false s.heap L es ep t (.refl a s.heap) R ⟨fun _ => rfl, fun n => absurd there n⟩)
  refine R.state ?_
  obtain ⟨p, t1, L1, e, pm, hr1, T1, fl, em, el, epl⟩ := R.toLs.put (x := x) hK
  have l1 : L1.length = L.length + 1 := pm.length_eq
  have calm1 : t1.plain = true ∧ (w.params.followText "set-order" = true ∨ t1.led = true) := ⟨epl.trans R.calm.1, by rw [el]; exact R.calm.2⟩
  have apart1 : (L1.map (·.2)).Nodup := (pm.map _).nodup_iff.mpr (List.nodup_cons.mpr ⟨fresh, R.apart⟩)
  have made1 : ∀ q ∈ L1, IsT P w s.heap q.2 q.1 := fun q hq => (List.mem_cons.mp (pm.mem_iff.mp hq)).elim (fun z => by rw [z]; exact hx) (R.made q)
  have stored : ∀ {Q' : Unit → Shared → Prop}, (∀ h1, Heap.SameBut a s.heap h1 → Ls P w h1 a L1 (SetTable.insertAt es p (thash P w k, .ref x)) (ep + 1) t1 → Q' () { s with heap := h1 }) → wpAny (model P w) A (storeSet a (SetTable.insertAt es p (thash P w k, .ref x)) t1) Q' E s :=
    fun q => R.toLs.stored hr1 T1 apart1 made1 calm1 (by omega) q
  have done : ∀ h1 L' es' ep' t', Heap.SameBut a s.heap h1 → Ts P w h1 a L' es' ep' t' → L'.Perm L1 → Q true { s with heap := h1 } := fun h1 L' es' ep' t' sb R1 p1 => hQ true h1 L' es' ep' t' sb R1 ⟨fun z => absurd z fresh, fun _ => p1.trans pm⟩
  simp only [e, calm1.1, if_true]
  refine wpAny_bind (hashBy_tup hx ?_)
  simp only [if_true, Bool.not_false, Bool.true_and]
  refine wpAny_bind (stored fun h1 sb R1 => ?_)
  have tf : t1.tooFull = decide ((L.length + 1) * 5 ≥ t.mask * 3) := by rw [SetTable.tooFull, fl, em]
  have room := R.room
  by_cases c : (L.length + 1) * 5 ≥ t.mask * 3
  · obtain ⟨m', hw, M', hn, fit⟩ := wider R.keyed.2.mask room (by omega) fw
    have full : t1.tooFull = true := tf.trans (decide_eq_true c)
    simp only [full, if_true, R.size]
    have relay : wpAny (model P w) A (setRelay a (SetTable.grown (L.length + 1))) (fun _ s' => Q true s') E { s with heap := h1 } :=
      R1.relay (s := { s with heap := h1 }) (R1.fits (by omega)) hw M' (by omega) fun h2 L2 es2 ep2 t2 sb2 R2 p2 => done h2 L2 es2 ep2 t2 (sb.trans sb2) R2 p2
    first
      | exact wpAny_bind (wpAny_mono relay fun _ s' q => wpAny_pure q)
      | exact wpAny_bind (thn relay fun _ s' q => wpAny_pure q)
  · have roomy : t1.tooFull = false := tf.trans (decide_eq_false c)
    simp only [roomy, Bool.false_eq_true, if_false]
    have fin : Q true { s with heap := h1 } := done h1 L1 _ _ t1 sb ⟨R1, by rw [l1, em]; omega⟩ (.refl _)
    first
      | exact wpAny_pure fin
      | exact wpAny_bind (wpAny_pure (wpAny_pure fin))
end
end
end K4
set_option maxHeartbeats 8000000
/-! Sets of tuples of ints of up to 300 members, third part: set(xs) and sorted(set) as rules of calls. -/
namespace K4
open PySem PySem.Spec PyProof.Rows L2

section
variable {P : Program} {w : World} {A : Around} {E : Value → Shared → Prop} {s : Shared}
/-- a set without members -/
abbrev bare (w : World) : Obj := { cls := .type "set", dict := none, data := .set #[] 0 (.fresh 0 0 (!w.params.followText "set-order")) }
theorem Ts.move {h h' : Heap} {a : Addr} {L : List (Addr × List Int)} {es : Array (Int × Value)} {ep : Nat} {t : SetTable} (R : Ts P w h a L es ep t) (ka : ∀ o, h.get? a = some o → h'.get? a = some o) (kt : ∀ q ∈ L, IsT P w h' q.2 q.1) : Ts P w h' a L es ep t :=
  let ⟨o, x, e⟩ := R.obj
  ⟨⟨⟨o, x, ka o e⟩, R.keyed, R.apart, kt, R.calm, R.few⟩, R.room⟩
theorem Ts.none {h : Heap} {a : Addr} (ho : h.get? a = some (bare w)) : Ts P w h a [] #[] 0 (.fresh 0 0 (!w.params.followText "set-order")) where
  obj := ⟨_, ⟨⟨rfl, rfl, rfl⟩, rfl⟩, ho⟩
  keyed := ⟨rfl, .nil, rfl, rfl, mk7, fun x hx => (by cases hx), fun i h j hi => (by cases hi)⟩
  apart := .nil
  made := fun q hq => by cases hq
  calm := ⟨rfl, by
    show w.params.followText "set-order" = true ∨ (!w.params.followText "set-order") = true
    cases w.params.followText "set-order" <;> simp⟩
  few := Nat.zero_le _
  room := by show 5 * 0 < 3 * 7; decide

/-! ### a set gets the tuples of a list -/
/-- at S stands a set of the first i of ks; what h0 knew is still there -/
structure Fed (P : Program) (w : World) (h0 : Heap) (ks : List (Addr × List Int)) (S : Addr) (i : Nat) (h : Heap) : Prop where
  set : ∃ L es ep t, Ts P w h S L es ep t ∧ Got ks i L
  old : ∀ b o, h0.get? b = some o → h.get? b = some o
/-- one more is added -/
theorem Fed.add {h0 : Heap} {ks : List (Addr × List Int)} {S : Addr} {i : Nat} {q : Addr × List Int} (F0 : Fed P w h0 ks S i s.heap) (hS : h0.get? S = none) (hk : ∀ q ∈ ks, IsT P w h0 q.2 q.1) (hq : ks[i]? = some q) (fw : ks.length ≤ 300) (hu : A.units < cLine)
    {Q : Bool → Shared → Prop} (k : ∀ b h' tk, s.toks ≤ tk → Heap.SameBut S s.heap h' → Fed P w h0 ks S (i + 1) h' → Q b { s with heap := h', toks := tk }) : wpAny (model P w) A (setAdd S (.ref q.1)) Q E s := by
  obtain ⟨L, es, ep, t, R, g⟩ := F0.set
  have il : i < ks.length := (List.getElem?_eq_some_iff.mp hq).1
  have lg := g.len
  have hx : IsT P w s.heap q.2 q.1 := isT_keep (hk q (List.mem_of_getElem? hq)) F0.old
  unfold setAdd
  refine wpAny_holding (wpAny_bind (wpAny_pyHash_tuple hu hx ?_))
  refine Ts.add (s := { s with toks := s.toks + (q.2.length + 1) }) R hx hu (by omega) fun b h' L' es' ep' t' sb R' alt => k b h' _ (Nat.le_add_right _ _) sb ⟨⟨L', es', ep', t', R', ?_⟩, fun c o e => ?_⟩
  · by_cases m : q.2 ∈ L.map (·.2)
    · have e := alt.1 m
      subst e
      exact g.same hq m
    · exact g.more hq (alt.2 m)
  · have nc : c ≠ S := fun z => by
      rw [z, hS] at e
      cases e
    exact (sb.2 c nc).trans (F0.old c o e)
/-- what a walk moves beside the set -/
theorem Fed.moved {h0 : Heap} {ks : List (Addr × List Int)} {S : Addr} {i : Nat} {wr : List Addr} {G : Array GenState → Array GenState → Prop} {s s' : Shared} (F0 : Fed P w h0 ks S i s.heap) (m : Moved wr G s s') (hS : S ∉ wr) (hw : ∀ b ∈ wr, h0.get? b = none) (hk : ∀ q ∈ ks, IsT P w h0 q.2 q.1) : Fed P w h0 ks S i s'.heap := by
  have old : ∀ b o, h0.get? b = some o → s'.heap.get? b = some o := fun b o e => m.heap b o (fun z => by
    have n := hw b z
    rw [e] at n
    cases n) (F0.old b o e)
  obtain ⟨L, es, ep, t, R, g⟩ := F0.set
  exact ⟨⟨L, es, ep, t, R.move (fun o e => m.heap S o hS e) fun q hq => isT_keep (hk q (List.mem_of_mem_take (g.sub q hq))) old, g⟩, old⟩
/-- the loop of set.update over an iterator that gives the tuples of ks -/
theorem feed {I S : Addr} {fp wr : List Addr} {G : Array GenState → Array GenState → Prop} {ks : List (Addr × List Int)} {Pv : Nat → Value → Prop} {St : Nat → Shared → Prop} {R : Result → Shared → Prop} (W : WalksS P w A.in1 I fp wr G ks.length Pv St) (hSf : S ∉ fp)
    (fw : ks.length ≤ 300) (hv : ∀ i v, Pv i v → ∃ q, ks[i]? = some q ∧ v = .ref q.1) {h0 : Heap} (hk : ∀ q ∈ ks, IsT P w h0 q.2 q.1) (hS : h0.get? S = none) (hw : ∀ b ∈ wr, h0.get? b = none) (hu : A.in1.units < cLine) (left : Nat) :
    ∀ (i : Nat) (s : Shared), i + left = ks.length → St i s → Fed P w h0 ks S i s.heap → (∀ s', Moved (S :: wr) G s s' → Fed P w h0 ks S ks.length s'.heap → R (.ok (.ret .none)) s') → codeAny (model P w) A (.builtin "set.update.loop" ⟨[.ref S, .ref I], []⟩) R s := by
  have off : S ∉ wr := fun z => hSf (W.sub S z)
  have wide : ∀ b ∈ wr, b ∈ S :: wr := fun b z => .tail _ z
  induction left with
  | zero =>
    intro i s en st F0 hR
    obtain rfl : i = ks.length := en
    exact codeAny_builtin F.entry_set_update_loop (by
      rw [Around.under_plainId F.plain_set_update_loop _]
      exact wpAny_bind (W.done s _ _ st fun s' m => wpAny_pure (hR s' (m.mono wide) (F0.moved m off hw hk))))
  | succ left ih =>
    intro i s en st F0 hR
    refine codeAny_builtin F.entry_set_update_loop (by
      rw [Around.under_plainId F.plain_set_update_loop _]
      refine wpAny_bind (W.item i s _ _ (by omega) st fun v s' pv st' m => ?_)
      obtain ⟨q, hq, rfl⟩ := hv i v pv
      have F1 := F0.moved m off hw hk
      refine wpAny_bind (wpAny_holding (F1.add hS hk hq fw hu fun b h' tk htk sb F2 => wpAny_pure ⟨plainId_quiet F.plain_set_update_loop _, ?_⟩))
      have away : ∀ b o, b ≠ S → s'.heap.get? b = some o → h'.get? b = some o := fun b o n e => (sb.2 b n).trans e
      refine ih (i + 1) _ (by omega) (W.frame _ s' _ _ st' htk fun b hb o e => away b o (fun z => hSf (z ▸ hb)) e) F2 fun s'' m2 F3 => hR s'' ?_ F3
      exact Moved.trans W.gtrans ((m.mono wide).then_heap htk fun b o hb e => away b o (fun z => hb (by rw [z]; exact .head _)) e) m2)
/-! ### set(x) -/
/-- set(x): a bare set is laid, then x is poured into it -/
theorem call_pour {x : Value} {Q : Value → Shared → Prop} (pour : wpAny (model P w) A.in1.in1 (Builtin.«set.__init__» ⟨[.ref s.heap.objs.size, x], []⟩)
      (fun fin s' => match fin with | .done f => wants (fun r s2 => r = .none ∧ Q (.ref s.heap.objs.size) s2) E (.ok f) s' | .again c' => c'.quiet = true ∧ codeAny (model P w) A.in1 c' (wants (fun r s2 => r = .none ∧ Q (.ref s.heap.objs.size) s2) E) s')
      (fun e s' => wants (fun r s2 => r = .none ∧ Q (.ref s.heap.objs.size) s2) E (.error e) s') { s with heap := s.heap.push (bare w) }) : wpAny (model P w) A (call (.type "set") [x]) Q E s := by
  have made := F.called_set.made
  have sub := F.called_set.sub
  have kind := F.called_set.notType
  have may := F.called_set.canCreate
  have tc := F.typeCall_set_1 x
  obtain ⟨c, tl, mro⟩ := F.called_set.mro
  refine wpAny_call (codeAny_of_tree (by
    show wpAny _ _ (callAny (.type "set") _) _ _ _
    refine wpAny_pure ⟨Code.quiet_builtin _ (by decide +kernel), codeAny_builtin F.entry_type_call ?_⟩
    rw [Around.under_plain (weight_type_call_type "set" [x] []) rfl]
    repeat (any_goals (first | assumption | wp_step))
    refine codeAny_mono (code_set_led1 x (E := E) (Q₁ := fun v s1 => v = .ref s.heap.objs.size ∧ s1 = { s with heap := s.heap.push (bare w) }) ⟨rfl, rfl⟩) fun r s1 hr => match r, hr with
      | .error e, he => he
      | .ok (.ret v), hv => ?_
    obtain ⟨rfl, rfl⟩ := hv
    have init_at := F.called_set.init.lookup
    have init_of := F.called_set.init.bind (.ref s.heap.objs.size)
    have is_set : Shared.TypeIs { s with heap := s.heap.push (bare w) } (.ref s.heap.objs.size) "set" := ⟨_, Heap.get?_push_size _ rfl, rfl⟩
    repeat (any_goals (first | assumption | wp_step))
    refine codeAny_mono (codeAny_call_builtin F.called_set.init.plain F.entry_set_init (check_set_init_1 is_set pour)) fun r2 s2 hr2 => match r2, hr2 with
      | .error e, he => he
      | .ok (.ret v), hv => ?_
    obtain ⟨rfl, q⟩ := hv
    repeat (any_goals (first | assumption | wp_step))))
/-- set(xs), xs a list of tuples of numbers -/
theorem call_set_list {l : Addr} {items : Array Value} {ks : List (Addr × List Int)} {Q : Value → Shared → Prop} (hh : A.handled = none) (hl : s.heap.IsList l items) (hit : items.toList = ks.map fun q => Value.ref q.1) (hk : ∀ q ∈ ks, IsT P w s.heap q.2 q.1)
    (fw : ks.length ≤ 300) (hu : A.units + 3 < cLine) (k : ∀ (h' : Heap) (tk : Nat), Fed P w s.heap ks s.heap.objs.size ks.length h' → Q (.ref s.heap.objs.size) { s with heap := h', toks := tk }) : wpAny (model P w) A (call (.type "set") [.ref l]) Q E s := by
  refine call_pour ?_
  have size : items.size = ks.length := by
    have z := congrArg List.length hit
    rwa [List.length_map] at z
  obtain ⟨⟨cl, di, da, sl⟩, ho, hc, n, hd⟩ := hl
  cases (show cl = .type "list" from hc)
  cases (show da = .seq items n from hd)
  have lt : l < s.heap.objs.size := Heap.lt_size ho
  have ho1 : (s.heap.push (bare w)).get? l = some { cls := .type "list", dict := di, data := .seq items n, slots := sl } := Heap.get?_push_of_some _ ho
  have list1 : (s.heap.push (bare w)).IsList l items := ⟨_, ho1, rfl, n, rfl⟩
  have set1 : (s.heap.push (bare w)).get? s.heap.objs.size = some (bare w) := Heap.get?_push_size _ rfl
  have size1 : (s.heap.push (bare w)).objs.size = s.heap.objs.size + 1 := Heap.size_push ..
  have no_dict : (Value.type "list" == Value.type "dict") = false := by decide
  have not_set := F.sub_list_set
  have not_frozen := F.sub_list_frozenset
  unfold Builtin.«set.__init__» noKeywords Builtin.Frozenset.updateFrom
  generalize hPI : pyIter = PI
  wp_walk
  subst hPI
  have apart : l ≠ (s.heap.push (bare w)).objs.size := by
    rw [size1]
    exact Nat.ne_of_lt (Nat.lt_succ_of_lt lt)
  have beyond : ∀ b, s.heap.objs.size ≤ b → s.heap.get? b = none := fun b hb => Heap.get?_none_of_le hb
  have hh2 : A.in1.in1.in1.handled = none := hh
  have walk := (Walks.list (prog := P) (w := w) hh2 _ l apart items).toS
  rw [size] at walk
  refine wpAny_pyIter_list list1 (wpAny_bind (wpAny_runValue (feed walk (fun m => ?_) fw (fun i v hv => ?_) hk (beyond _ (Nat.le_refl _)) (fun b hb => beyond b ?_) hu ks.length 0 _ (Nat.zero_add _) ⟨⟨_, Heap.get?_push_size _ rfl, rfl, rfl⟩, list1.push _⟩
    ⟨⟨[], #[], 0, _, Ts.none (Heap.get?_push_of_some _ set1), Got.zero ks⟩, fun b o e => Heap.get?_push_of_some _ (Heap.get?_push_of_some _ e)⟩ fun s' m fed => ?_)))
  · rw [size1] at m
    exact (List.mem_cons.mp m).elim (fun z => Nat.ne_of_lt (Nat.lt_succ_self _) z) fun z => Nat.ne_of_gt lt (List.mem_singleton.mp z)
  · have z : (ks.map fun q => Value.ref q.1)[i]? = some v := by
      rw [← hit, Array.getElem?_toList]
      exact hv
    rw [List.getElem?_map] at z
    obtain ⟨q, hq, e⟩ := Option.map_eq_some_iff.mp z
    exact ⟨q, hq, e.symm⟩
  · rw [List.mem_singleton.mp hb, size1]
    exact Nat.le_succ _
  · obtain ⟨h2, g2, d2, t2, o2⟩ := s'
    cases (show g2 = s.gens from m.gens)
    cases (show d2 = s.drawn from m.drawn)
    cases (show o2 = s.os from m.os)
    exact wpAny_pure (wpAny_pure ⟨rfl, k h2 t2 fed⟩)

/-! ### sorted(s) -/
abbrev tupD (q : Addr × List Int) : PyData := .tuple (q.2.map .int)
theorem flat_reads {h : Heap} {us : List Value} {ns : List Int} (e : IntsAre us ns) : ReadsAll h us (ns.map .int) [] := by
  induction e with
  | nil => exact .nil
  | cons n t _ ih => exact .cons (as := []) (.int n t) ih
theorem tuple_reads {h : Heap} {k : List Int} {b : Addr} (x : IsT P w h k b) : Reads h (.ref b) (.tuple (k.map .int)) [] :=
  let ⟨_, _, _, ho, hc, hd, hi⟩ := x
  .tuple ho hc hd (flat_reads (ints_of_items hi))
/-- what is a permutation of images is the image of a permutation -/
theorem perm_back {α β : Type} {f : α → β} {us vs : List β} (h : us.Perm vs) : ∀ M : List α, vs = M.map f → ∃ M1 : List α, us = M1.map f ∧ M1.Perm M := by
  induction h with
  | nil => exact fun M e => ⟨M, e, .refl _⟩
  | cons x _ ih =>
    intro M e
    obtain ⟨y, M', rfl, rfl, e'⟩ := List.map_eq_cons_iff.mp e.symm
    obtain ⟨M1, e1, p⟩ := ih M' e'.symm
    exact ⟨y :: M1, by rw [e1]; rfl, p.cons y⟩
  | swap x y l =>
    intro M e
    obtain ⟨b, M', rfl, rfl, e'⟩ := List.map_eq_cons_iff.mp e.symm
    obtain ⟨c, M'', rfl, rfl, rfl⟩ := List.map_eq_cons_iff.mp e'
    exact ⟨c :: b :: M'', rfl, .swap ..⟩
  | trans _ _ ih1 ih2 =>
    intro M e
    obtain ⟨M1, e1, p1⟩ := ih2 M e
    obtain ⟨M2, e2, p2⟩ := ih1 M1 e1
    exact ⟨M2, e2, p2.trans p1⟩
theorem each_ref {Rr : Value → Addr × List Int → Prop} : ∀ M : List (Addr × List Int), (∀ q ∈ M, Rr (.ref q.1) q) → PySem.W.EachIs Rr (M.map fun q => Value.ref q.1) M
  | [], _ => .nil
  | q :: M, hM => .cons (hM q (.head _)) (each_ref M fun r hr => hM r (.tail _ hr))
theorem ref_each {us : List Value} {M : List (Addr × List Int)} (h : PySem.W.EachIs (fun v (q : Addr × List Int) => v = .ref q.1) us M) : us = M.map fun q => Value.ref q.1 := by
  induction h with
  | nil => rfl
  | cons e _ ih => rw [e, ih]; rfl
/-- the members in order, in a new list -/
theorem call_sorted {a : Addr} {L : List (Addr × List Int)} {es : Array (Int × Value)} {ep : Nat} {t : SetTable} (R : Ts P w s.heap a L es ep t) (hh : A.handled = none) (hu : A.units + 64 < cLine) (full : ∀ q ∈ L, q.2 ≠ []) {Q : Value → Shared → Prop}
    (k : ∀ (s' : Shared) (p : Addr) (L' : List (Addr × List Int)) (c : Nat), (∀ b o, s.heap.get? b = some o → s'.heap.get? b = some o) → (s'.gens = s.gens ∧ s'.os = s.os) → s.heap.objs.size ≤ p →
      s'.heap.get? p = some (seqObj "list" (L'.map fun q => Value.ref q.1).toArray c) → L'.Perm L → L'.Pairwise (fun q r => PySem.W.dataLe false tupD q r = true) → Q (.ref p) s') : wpAny (model P w) A (call (.builtin "sorted") [.ref a]) Q E s := by
  have at_a : SetAt s.heap a es ep t := let ⟨o, ⟨x, hd⟩, ho⟩ := R.obj; ⟨o, ho, x.1, hd⟩
  have small : es.size < scanBound := by
    have z := R.few
    rw [R.size, scanBound]
    omega
  refine Calls.call_function_entry kind_sorted plain_sorted entry_sorted (args_sorted1 _) (wpAny_bind (m := checkCount "sorted" 1 1 _) (wpAny_pure (wpAny_bind
    (collect_set (A := A.in1) hh at_a R.fit small R.keyed.2.ris R.calm.2 fun s1 vs kept grown gens os pm => ?_))))
  obtain ⟨L1, rfl, p1⟩ := perm_back pm L R.vals
  have l1 : L1.length ≤ 300 := p1.length_eq ▸ R.few
  have lv : (L1.map fun q => Value.ref q.1).length ≤ sizeLine := by
    rw [List.length_map, sizeLine_eq]
    omega
  generalize hvs : (L1.map fun q => Value.ref q.1) = vs at lv
  refine wpAny_bind (wpAny_newList ?_ lv)
  have laid : (s1.heap.push (seqObj "list" vs.toArray 0)).get? s1.heap.objs.size = some (seqObj "list" vs.toArray 0) := Heap.get?_push_size _ rfl
  have tup : ∀ q ∈ L1, IsT P w (s1.heap.push (seqObj "list" vs.toArray 0)) q.2 q.1 := fun q hq => isT_keep (R.made q (p1.mem_iff.mp hq)) fun b o e => Heap.get?_push_of_some _ (kept b o e)
  have ref1 : PySem.W.EachIs (fun v (q : Addr × List Int) => v = .ref q.1) vs L1 := hvs ▸ each_ref L1 fun q _ => rfl
  refine wpAny_bind (wpAny_holding (PySem.W.list_sort_data (s := { s1 with heap := s1.heap.push (seqObj "list" vs.toArray 0) }) (bs := L1) (enc := tupD) (R := fun v q => v = .ref q.1) laid ref1
    (Eq.mpr (congrArg (fun z => PySem.W.EachIs _ z L1) hvs.symm) (each_ref L1 fun q hq => ⟨[], tuple_reads (P := P) (w := w) (tup q hq), by simp⟩)) (fun d hd d' hd' => ?_) (.inl fun d hd => ?_) (by rw [sizeLine_eq]; omega) (fun q _ => ?_) fun out hout eo => ?_))
  · obtain ⟨q, _, rfl⟩ := List.mem_map.mp hd
    obtain ⟨r, _, rfl⟩ := List.mem_map.mp hd'
    exact PySem.W.alike_ints q.2 r.2
  · obtain ⟨⟨b, k⟩, hq, rfl⟩ := List.mem_map.mp hd
    cases k with
    | nil => exact absurd rfl (full _ (p1.mem_iff.mp hq))
    | cons x r => exact ⟨.int x, r.map .int, rfl⟩
  · have d0 : (tupD q).depth = 1 := by
      show PyData.depthAll (q.2.map .int) + 1 = 1
      rw [PySem.W.depth_ints q.2]
    have u1 : A.in1.units = A.units + 1 := rfl
    omega
  · obtain ⟨c, at_c⟩ := sortedHeap_at (vs := vs) (out := out.toArray) laid
    obtain rfl := ref_each eo
    refine wpAny_pure ⟨_, rfl, k _ s1.heap.objs.size _ c (fun b o e => ?_) ⟨gens, os⟩ grown at_c ((List.mergeSort_perm _ _).trans p1) (PySem.W.sort_pairwise (PySem.W.sortLe_total _ false _) L1)⟩
    have e1 := kept b o e
    have lb := Heap.lt_size e1
    refine (sortedHeap_old (Nat.ne_of_lt lb) ?_).trans (Heap.get?_push_of_some _ e1)
    rw [size_push']
    exact Nat.lt_succ_of_lt lb
end

/-! ### the rules -/
/-- a set of L at a, but for the tuples themselves -/
def There (P : Program) (w : World) (h : Heap) (a : Addr) (L : List (Addr × List Int)) : Prop := ∃ es ep t, (∃ o : Obj, (o.ExactSet ∧ o.data = .set es ep t) ∧ h.get? a = some o) ∧ (es.toList = rowsOf P w L ∧ Tb t (hashes P w L)) ∧ (L.map (·.2)).Nodup ∧
  (t.plain = true ∧ (w.params.followText "set-order" = true ∨ t.led = true)) ∧ L.length ≤ 300 ∧ 5 * L.length < 3 * t.mask
def setO (P : Program) (w : World) (a : Addr) (L : List (Addr × List Int)) : HO := .ext fun h => There P w h a L
theorem setO_ok {P : Program} {w : World} {H : Hp} {h : Heap} {a : Addr} {L : List (Addr × List Int)} (R : There P w h a L) : ObjOk P w H h a (setO P w a L) :=
  ⟨R, let ⟨_, _, _, ⟨o, _, e⟩, _⟩ := R; ⟨o, e⟩, fun _ _ p k => let ⟨es, ep, t, ⟨o, x, e⟩, y⟩ := p; ⟨es, ep, t, ⟨o, x, k o e⟩, y⟩⟩
section
variable {X : Cx}
/-- set(xs): a set of some of the tuples, of each key one -/
def rSetOf (K : PySem.W.Frag) (P : Program) (w : World) : List V → Hp → VK → Prop := fun xs H Q => ∃ (l : Addr) (ks : List (Addr × List Int)), xs = [V.ref l] ∧ SqL K H l (ks.map fun p => V.ref p.1) ∧ (∀ p ∈ ks, SqT K H p.1 (p.2.map V.int)) ∧ ks.length ≤ 300 ∧
  ∀ a L, H a = none → (∀ p ∈ L, p ∈ ks) → (∀ p ∈ ks, p.2 ∈ L.map (·.2)) → (L.map (·.2)).Nodup → Q (.ref a) (upd H a (setO P w a L))
theorem cr_setOf (hc : X.calm = true) (hu : X.A.units + 64 < cLine) : CallR X (.type "set") (rSetOf X.K X.prog X.w) := fun pins s σ H xs us Q I r h => by
  obtain ⟨l, ks, rfl, hl, hk, fw, q⟩ := h
  obtain ⟨its, rv, at_l, _⟩ := I.list hl
  have fresh := I.hok.fresh (Nat.le_refl s.heap.objs.size)
  rw [Vals.ref1 r]
  refine call_set_list (P := X.prog) (w := X.w) (I.ok.hd hc) at_l.isList (by simpa using refs_of_vals rv) (fun p hp => I.isT (hk p hp)) fw (by omega) fun h' tk fed => ?_
  obtain ⟨L, es, ep, t, R, g⟩ := fed.set
  have sub : ∀ p ∈ L, p ∈ ks := fun p hp => List.mem_of_mem_take (g.sub p hp)
  have all := g.all
  rw [List.take_length] at all
  exact ⟨.ref s.heap.objs.size, _, I.laid (t' := tk) fed.old (Nat.le_refl _) (setO_ok ⟨es, ep, t, R.obj, R.keyed, R.apart, R.calm, R.few, R.room⟩), rfl, q _ L fresh sub all R.apart⟩
/-- sorted(s): a new list, the members in order -/
def rSortedSet (K : PySem.W.Frag) (P : Program) (w : World) : List V → Hp → VK → Prop := fun vs H Q => ∃ (a : Addr) (L : List (Addr × List Int)), vs = [V.ref a] ∧ H a = some (setO P w a L) ∧ (∀ p ∈ L, SqT K H p.1 (p.2.map V.int)) ∧ (∀ p ∈ L, p.2 ≠ []) ∧
  ∀ (L' : List (Addr × List Int)) (p : Addr), L'.Perm L → L'.Pairwise (fun q r => PySem.W.dataLe false tupD q r = true) → H p = none → Q (.ref p) (upd H p (.lst (L'.map fun q => V.ref q.1)))
theorem cr_sortedSet (hc : X.calm = true) (hu : X.A.units + 64 < cLine) : CallR X (.builtin "sorted") (rSortedSet X.K X.prog X.w) := fun pins s σ H vs us Q I r h => by
  obtain ⟨a, L, rfl, ha, hk, full, q⟩ := h
  have there : There X.prog X.w s.heap a L := (I.hok a _ ha).1
  obtain ⟨es, ep, t, x1, x2, x3, x4, x5, x6⟩ := there
  have R : Ts X.prog X.w s.heap a L es ep t := ⟨⟨x1, x2, x3, fun p hp => I.isT (hk p hp), x4, x5⟩, x6⟩
  rw [Vals.ref1 r]
  refine call_sorted R (I.ok.hd hc) hu full fun s' p L' c kept quiet beyond at_p pm pw => ?_
  have fresh := I.hok.fresh beyond
  have fits : (L'.map fun q => V.ref q.1).length ≤ sizeLine := by
    rw [List.length_map, pm.length_eq, sizeLine_eq]
    omega
  refine ⟨.ref p, upd H p (.lst (L'.map fun q => V.ref q.1)), ?_, rfl, q L' p pm pw fresh⟩
  exact I.call' (ch := []) quiet.2 (Un.laid kept beyond fresh) (I.hok.laid kept beyond ⟨fits, _, c, vals_of_refs L', at_p⟩) (by rw [quiet.1]; exact I.bare) (fun b z => by cases z)
end
end K4
set_option maxHeartbeats 4000000
/-! The text by places, its defs, what is known of the module's names. -/
namespace K4
open PySem PySem.Spec PyProof.Rows L2

def topS (i : Nat) : Stmt := PySem.Challenge.pw_chipfloor_k04_whole_curves.main.body.getD i (.Pass ⟨0, 0, 0, 0⟩)
abbrev sIsInt : Stmt := topS 1
abbrev sIsIn : Stmt := topS 2
abbrev sIsList : Stmt := topS 3
abbrev sIsToken : Stmt := topS 10
abbrev sNeedWord : Stmt := topS 11
abbrev sTreeOf : Stmt := topS 12
abbrev sIsSize : Stmt := topS 16
abbrev sNeedBlocks : Stmt := topS 17
abbrev sKept : Stmt := topS 18
abbrev sCurveOf : Stmt := topS 19
abbrev sPut : Stmt := topS 20
abbrev sCurveIn : Stmt := topS 21
abbrev sNeedFit : Stmt := topS 22
abbrev sCurve : Stmt := topS 23
abbrev sTaken : Stmt := topS 25
abbrev sPick : Stmt := topS 26
abbrev sAlike : Stmt := topS 27
abbrev sWord : Stmt := topS 28
abbrev sLTree : Stmt := topS 29
abbrev sLPut : Stmt := topS 30
abbrev sLSize : Stmt := topS 31
abbrev sBlocks : Stmt := topS 32
abbrev sChoices : Stmt := topS 33
abbrev sLKept : Stmt := topS 34
abbrev sLaw : Stmt := topS 35

/-- the built-in names that the text uses stand for the built-ins -/
structure Blt (mg : Str → Option Value) : Prop where
  isi : mg "isinstance" = none
  int : mg "int" = none
  bool : mg "bool" = none
  tuple : mg "tuple" = none
  list : mg "list" = none
  str : mg "str" = none
  len : mg "len" = none
  range : mg "range" = none
  enum : mg "enumerate" = none
  all : mg "all" = none
  max : mg "max" = none
  sorted : mg "sorted" = none
  set : mg "set" = none
  b8 : ∃ t, mg "MOST_BLOCKS" = some (.int 8 t)
  b6 : ∃ t, mg "MOST_SIZES" = some (.int 6 t)
  b100 : ∃ t, mg "MOST_SIDE" = some (.int 100 t)
/-- a def of the top -/
structure Df (K : PySem.W.Frag) (mg : Str → Option Value) (x : Str) (st : Stmt) : Prop where
  ex : ∃ (f : Addr) (fd : FuncData), Fun K x x st f fd ∧ mg x = some (.ref f)
/-- a def that keeps a promise, by its name -/
structure Cl (P : Program) (w : World) (K : PySem.W.Frag) (mg : Str → Option Value) (base : Heap) (k : Nat) (x : Str) (sp : Sp) : Prop where
  ex : ∃ (f : Addr) (fd : FuncData) (ps : List Str), FnOk P w K mg base CX0 k f fd ps sp ∧ mg x = some (.ref f) ∧ PySem.W.keepIn K (.ref f) = true ∧ Binds K fd ps []
section
variable {P : Program} {w : World} {K : PySem.W.Frag} {mg : Str → Option Value} {base : Heap}
theorem Cl.mono {j k : Nat} {x : Str} {sp : Sp} (c : Cl P w K mg base j x sp) (h : j ≤ k) : Cl P w K mg base k x sp := by
  obtain ⟨f, fd, ps, F, r⟩ := c.ex
  exact ⟨f, fd, ps, F.mono h, r⟩
/-- THE RULE for a def of the top -/
theorem Df.ok {x : Str} {st : Stmt} {N ps : List Str} {k : Nat} {sp : Sp} (D : Df K mg x st) (S : FnScope N ps (defScope st)) (len : ∀ vs H Q E, sp vs H Q E → vs.length = ps.length)
    (hb : ∀ (kV doc pm : Value) (an : Option Addr) (cdv ct : Value) (us : List Value), us.length = ps.length → bindArgs (PySem.W.fnOf x x (defArgs st) (defBody st) (defScope st) .none kV doc pm an cdv ct) ⟨us, []⟩ = pure (ps.zip us))
    (hbody : ∀ (f : Addr) (cdv : Value) (A : Around) (outer : List Env) (s : Shared) (H : Hp) (vs : List V) (Q : VK) (E : XK), Room k (A.deeper (envOfC x (defScope st) s.heap.objs.size f cdv)) → sp vs H Q E →
      ∃ t, PSs (cxOf CX0 P w K mg base N x (defScope st) f cdv A outer s H E).nox (defBody st) t ∧ t { nx := fun _ H' => Q .non H', rt := Q } (start N vs) H) : Cl P w K mg base (k + 1) x sp := by
  obtain ⟨f, fd, F, hm⟩ := D.ex
  exact ⟨f, fd, ps, F.ok S len (fun cdv A outer s H vs Q E hr h => hbody f cdv A outer s H vs Q E hr h), hm, F.kp, F.binds hb⟩
end
section
variable {X : Cx} {k j : Nat} {x : Str} {sp : Sp} {p pos : Pos} {e : Expr} {es : List Expr} {t : TA}
/-- a call by the name -/
theorem pe_cl (c : Cl X.prog X.w X.K X.mg X.base k x sp) (hr : Room j X.A) (hk : k ≤ j) (hg : Gl X x) (ha : PA X (e :: es) t)
    (hdb : (x == ("__debug__" : Str)) = false := by decide) (he : starEach (e :: es) X.env = (false, eval e X.env) :: starEach es X.env := by rfl) (hpl : (backTo pos (starEach es X.env)).any (·.1) = false := by rfl) :
    PE X (.Call (.Name x p) (e :: es) [] pos) (tCall sp [] E0 t) := by
  obtain ⟨f, fd, ps, F, hm, kp, b⟩ := c.ex
  exact pe_call F (hr.mono hk) hg hm kp b .nil pass0 ha hdb he hpl
end
theorem bt_isi : bootBuiltins "isinstance" = some (.builtin "isinstance") := by decide +kernel
theorem bt_int : bootBuiltins "int" = some (.type "int") := by decide +kernel
theorem bt_bool : bootBuiltins "bool" = some (.type "bool") := by decide +kernel
theorem bt_tuple : bootBuiltins "tuple" = some (.type "tuple") := by decide +kernel
theorem bt_list : bootBuiltins "list" = some (.type "list") := by decide +kernel
theorem bt_str : bootBuiltins "str" = some (.type "str") := by decide +kernel
theorem bt_len : bootBuiltins "len" = some (.builtin "len") := by decide +kernel
theorem bt_all : bootBuiltins "all" = some (.builtin "all") := by decide +kernel
theorem bt_max : bootBuiltins "max" = some (.builtin "max") := by decide +kernel
theorem bt_sorted : bootBuiltins "sorted" = some (.builtin "sorted") := by decide +kernel
theorem bt_set : bootBuiltins "set" = some (.type "set") := by decide +kernel
/-- kinds -/
theorem k_int_int {K : PySem.W.Frag} : PySem.W.kitOne K (.type "int") (.type "int") = some true := kit_ty (by decide +kernel)
theorem k_int_bool {K : PySem.W.Frag} : PySem.W.kitOne K (.type "int") (.type "bool") = some false := kit_ty (by decide +kernel)
theorem k_int_tuple {K : PySem.W.Frag} : PySem.W.kitOne K (.type "int") (.type "tuple") = some false := kit_ty (by decide +kernel)
theorem k_int_list {K : PySem.W.Frag} : PySem.W.kitOne K (.type "int") (.type "list") = some false := kit_ty (by decide +kernel)
theorem k_int_str {K : PySem.W.Frag} : PySem.W.kitOne K (.type "int") (.type "str") = some false := kit_ty (by decide +kernel)
theorem k_str_int {K : PySem.W.Frag} : PySem.W.kitOne K (.type "str") (.type "int") = some false := kit_ty (by decide +kernel)
theorem k_str_str {K : PySem.W.Frag} : PySem.W.kitOne K (.type "str") (.type "str") = some true := kit_ty (by decide +kernel)
theorem k_tup_tup {K : PySem.W.Frag} : PySem.W.kitOne K (.type "tuple") (.type "tuple") = some true := kit_ty (by decide +kernel)
theorem k_tup_list {K : PySem.W.Frag} : PySem.W.kitOne K (.type "tuple") (.type "list") = some false := kit_ty (by decide +kernel)
theorem ty2 : Paired ClsV [.ty "tuple", .ty "list"] [.type "tuple", .type "list"] := .cons (.ty _) (.cons (.ty _) .nil)
theorem k_tup_two {K : PySem.W.Frag} : PySem.W.kitAny K (.type "tuple") [.type "tuple", .type "list"] = some true := kitAny_cons k_tup_tup (fun z => by cases z) (fun _ => rfl)
theorem k_int_two {K : PySem.W.Frag} : PySem.W.kitAny K (.type "int") [.type "tuple", .type "list"] = some false := kitAny_cons k_int_tuple (fun _ => kitAny_cons k_int_list (fun _ => kitAny_nil) (fun z => by cases z)) (fun z => by cases z)
theorem isTrue_iff {b : Bool} {A B : Prop} (h1 : b = true → A) (h2 : b = false → B) : if b = true then A else B := by
  cases b with
  | true => exact h1 rfl
  | false => exact h2 rfl
end K4
set_option maxHeartbeats 4000000
/-! is_integer, is_in, is_list, is_token, tree_of, put -/
namespace K4
open PySem PySem.Spec PyProof.Rows L2
section
variable {P : Program} {w : World} {K : PySem.W.Frag} {mg : Str → Option Value} {base : Heap}

/-! ### is_integer -/
/-- a number or a text; whether it is a number -/
inductive NumOr : V → Bool → Prop
  | int (i : Int) : NumOr (.int i) true
  | str (x : Str) : NumOr (.str x) false
def spIsInt : Sp := fun vs H Q _ => ∃ x b, vs = [x] ∧ NumOr x b ∧ Q (.bl b) H
theorem sc_isint : FnScope ["value"] ["value"] (defScope sIsInt) := ⟨rfl, rfl, rfl, by decide +kernel, rfl, by decide +kernel, by decide +kernel⟩
theorem ok_isint (D : Df K mg "is_integer" sIsInt) (B : Blt mg) : Cl P w K mg base 1 "is_integer" spIsInt := by
  refine D.ok sc_isint (fun vs H Q E h => ?_) (fun _ _ _ _ _ _ us hl => match us, hl with | [_], _ => rfl) (fun f cdv A outer s H vs Q E hr h => ?_)
  · obtain ⟨x, b, rfl, _⟩ := h
    rfl
  obtain ⟨x, b, rfl, hx, q⟩ := h
  refine ⟨_, pss_one (ps_ret (pe_and (pe_callB call_isi (by rfl) B.isi bt_isi (pa_cons (pv 0) (pa_cons (pe_bltn (v := .ty "int") (by rfl) B.int bt_int rfl) pa_nil)))
    (pe_one (pe_not (pe_callB call_isi (by rfl) B.isi bt_isi (pa_cons (pv 0) (pa_cons (pe_bltn (v := .ty "bool") (by rfl) B.bool bt_bool rfl) pa_nil))))))), ?_⟩
  cases hx with
  | int i =>
    refine ⟨_, rfl, _, _, _, _, true, rfl, .ty _, ty_int, k_int_int, true, rfl, iteT ?_⟩
    exact ⟨_, rfl, _, _, _, _, false, rfl, .ty _, ty_int, k_int_bool, false, rfl, q⟩
  | str z =>
    exact ⟨_, rfl, _, _, _, _, false, rfl, .ty _, ty_str, k_str_int, false, rfl, iteF q⟩

/-! ### is_in -/
/-- a number in a range, or a text (that never is) -/
inductive InOr (lo hi : Int) : V → Bool → Prop
  | int (i : Int) : InOr lo hi (.int i) (decide (lo ≤ i) && decide (i ≤ hi))
  | str (x : Str) : InOr lo hi (.str x) false
def spIsIn : Sp := fun vs H Q _ => ∃ x b lo hi, vs = [x, .int lo, .int hi] ∧ InOr lo hi x b ∧ Q (.bl b) H
theorem sc_isin : FnScope ["value", "least", "most"] ["value", "least", "most"] (defScope sIsIn) := ⟨rfl, rfl, rfl, by decide +kernel, rfl, by decide +kernel, by decide +kernel⟩
theorem ok_isin (D : Df K mg "is_in" sIsIn) (c1 : Cl P w K mg base 1 "is_integer" spIsInt) : Cl P w K mg base 2 "is_in" spIsIn := by
  refine D.ok sc_isin (fun vs H Q E h => ?_) (fun _ _ _ _ _ _ us hl => match us, hl with | [_, _, _], _ => rfl) (fun f cdv A outer s H vs Q E hr h => ?_)
  · obtain ⟨x, b, lo, hi, rfl, _⟩ := h
    rfl
  obtain ⟨x, b, lo, hi, rfl, hx, q⟩ := h
  refine ⟨_, pss_one (ps_ret (pe_and (pe_cl c1 hr (by decide) (by rfl) (pa_cons (pv 0) pa_nil)) (pe_one (pe_chain op_le op_le (pv 1) (pv 0) (pv 2))))), ?_⟩
  cases hx with
  | int i =>
    refine ⟨_, rfl, _, true, rfl, .int i, true, rfl, iteT ?_⟩
    refine ⟨_, rfl, _, rfl, _, _, rfl, rfl, decide (lo ≤ i), rfl, isTrue_iff (fun c => ?_) (fun c => ?_)⟩
    · refine ⟨_, rfl, _, _, rfl, rfl, ?_⟩
      rw [c] at q
      exact q
    · rw [c] at q
      exact q
  | str z => exact ⟨_, rfl, _, false, rfl, .str z, false, rfl, iteF q⟩

/-! ### is_list -/
def spIsList (K : PySem.W.Frag) : Sp := fun vs H Q _ => ∃ a xs lo hi, vs = [.ref a, .int lo, .int hi] ∧ SqT K H a xs ∧ Q (.bl (decide (lo ≤ (xs.length : Int)) && decide ((xs.length : Int) ≤ hi))) H
theorem sc_islist : FnScope ["value", "least", "most"] ["value", "least", "most"] (defScope sIsList) := ⟨rfl, rfl, rfl, by decide +kernel, rfl, by decide +kernel, by decide +kernel⟩
theorem ok_islist (D : Df K mg "is_list" sIsList) (B : Blt mg) : Cl P w K mg base 1 "is_list" (spIsList K) := by
  refine D.ok sc_islist (fun vs H Q E h => ?_) (fun _ _ _ _ _ _ us hl => match us, hl with | [_, _, _], _ => rfl) (fun f cdv A outer s H vs Q E hr h => ?_)
  · obtain ⟨a, xs, lo, hi, rfl, _⟩ := h
    rfl
  obtain ⟨a, xs, lo, hi, rfl, hx, q⟩ := h
  refine ⟨_, pss_one (ps_ret (pe_and (pe_callB call_isi (by rfl) B.isi bt_isi (pa_cons (pv 0) (pa_cons (pe_bltn (v := .ty "tuple") (by rfl) B.tuple bt_tuple rfl) pa_nil)))
    (pe_one (pe_chain op_le op_le (pv 1) (pe_callB call_len_seq (by rfl) B.len bt_len (pa_cons (pv 0) pa_nil)) (pv 2))))), ?_⟩
  refine ⟨_, rfl, _, _, _, _, true, rfl, .ty _, ty_sqT hx, k_tup_tup, true, rfl, iteT ?_⟩
  refine ⟨_, rfl, _, rfl, a, xs, rfl, .inr hx, _, _, rfl, rfl, decide (lo ≤ (xs.length : Int)), rfl, isTrue_iff (fun c => ?_) (fun c => ?_)⟩
  · refine ⟨_, rfl, _, _, rfl, rfl, ?_⟩
    rw [c] at q
    exact q
  · rw [c] at q
    exact q

/-! ### is_token -/
inductive TokOk (n : Int) : V → Prop
  | num (i : Int) (h : 0 ≤ i ∧ i < n) : TokOk n (.int i)
  | op (b : Bool) : TokOk n (.str (ltr b))
def spIsToken : Sp := fun vs H Q _ => ∃ x n, vs = [x, .int n] ∧ TokOk n x ∧ ∀ H', Same H H' → Q (.bl true) H'
theorem sc_istoken : FnScope ["value", "many"] ["value", "many"] (defScope sIsToken) := ⟨rfl, rfl, rfl, by decide +kernel, rfl, by decide +kernel, by decide +kernel⟩
theorem in_two (b : Bool) : inV (.str (ltr b)) [.str "H", .str "V"] = true := by
  cases b <;> decide +kernel
theorem ok_istoken (D : Df K mg "is_token" sIsToken) (B : Blt mg) (c1 : Cl P w K mg base 2 "is_in" spIsIn) : Cl P w K mg base 3 "is_token" spIsToken := by
  refine D.ok sc_istoken (fun vs H Q E h => ?_) (fun _ _ _ _ _ _ us hl => match us, hl with | [_, _], _ => rfl) (fun f cdv A outer s H vs Q E hr h => ?_)
  · obtain ⟨x, n, rfl, _⟩ := h
    rfl
  obtain ⟨x, n, rfl, hx, q⟩ := h
  refine ⟨_, pss_one (ps_ret (pe_or (pe_cl c1 hr (by decide) (by rfl) (pa_cons (pv 0) (pa_cons pe_int (pa_cons (pe_op op_sub (pv 1) pe_int) pa_nil))))
    (pe_one (pe_and (pe_callB call_isi (by rfl) B.isi bt_isi (pa_cons (pv 0) (pa_cons (pe_bltn (v := .ty "str") (by rfl) B.str bt_str rfl) pa_nil)))
      (pe_one (pe_cmpR op_in_seq (pv 0) (pe_tup (pa_cons pe_str (pa_cons pe_str pa_nil))) (by rfl))))))), ?_⟩
  cases hx with
  | num i h =>
    refine ⟨_, rfl, _, rfl, n, 1, rfl, rfl, _, _, 0, n - 1, rfl, .int i, true, ?_, iteT (q _ (Same.refl _))⟩
    have e1 : decide ((0 : Int) ≤ i) = true := decide_eq_true h.1
    have e2 : decide (i ≤ n - 1) = true := decide_eq_true (by omega)
    rw [e1, e2]
    rfl
  | op b =>
    refine ⟨_, rfl, _, rfl, n, 1, rfl, rfl, _, _, 0, n - 1, rfl, .str _, false, rfl, iteF ?_⟩
    refine ⟨_, rfl, _, _, _, _, true, rfl, .ty _, ty_str, k_str_str, true, rfl, iteT ?_⟩
    refine ⟨_, rfl, by show 2 ≤ sizeLine; decide, fun p np => ?_⟩
    refine ⟨p, _, rfl, .inr (SqT.of upd_same), rfl, rfl, ?_⟩
    show Q (.bl (if false = true then !inV (.str (ltr b)) [.str "H", .str "V"] else inV (.str (ltr b)) [.str "H", .str "V"])) _
    rw [in_two, if_neg Bool.false_ne_true]
    exact q _ (same_new np)

/-! ### put, _law_put: two defs of one text -/
/-- a pair of numbers at the head of a tuple -/
def Hd (K : PySem.W.Frag) (H : Hp) (v : V) (p : Sz) : Prop := ∃ a r, v = .ref a ∧ SqT K H a (.int p.1 :: .int p.2 :: r)
theorem Hd.kp {H H' : Hp} {v : V} {p : Sz} (h : Hd K H v p) (k : Kp K H H') : Hd K H' v p := by
  obtain ⟨a, r, e, q⟩ := h
  exact ⟨a, r, e, k _ _ q⟩
def spPut (K : PySem.W.Frag) : Sp := fun vs H Q _ => ∃ h v1 v2 p1 p2, vs = [.str (ltr h), v1, v2] ∧ Hd K H v1 p1 ∧ Hd K H v2 p2 ∧
  ∀ p H', Same H H' → H' p = some (.tup [.int (put h p1 p2).1, .int (put h p1 p2).2]) → Q (.ref p) H'
theorem sc_put : FnScope ["letter", "one", "other"] ["letter", "one", "other"] (defScope sPut) := ⟨rfl, rfl, rfl, by decide +kernel, rfl, by decide +kernel, by decide +kernel⟩
theorem sc_lput : FnScope ["_law_letter", "_law_one", "_law_other"] ["_law_letter", "_law_one", "_law_other"] (defScope sLPut) := ⟨rfl, rfl, rfl, by decide +kernel, rfl, by decide +kernel, by decide +kernel⟩
theorem ltr_dec (h : Bool) : decide (V.str (ltr h) = V.str "H") = h := by cases h <;> decide +kernel
theorem at0 {α : Type} (x : α) (r : List α) : atI (x :: r) 0 = some x := atI_nat (j := 0) rfl
theorem at1 {α : Type} (x y : α) (r : List α) : atI (x :: y :: r) 1 = some y := atI_nat (j := 1) rfl
theorem at2 {α : Type} (x y z : α) (r : List α) : atI (x :: y :: z :: r) 2 = some z := atI_nat (j := 2) rfl
theorem ok_put (D : Df K mg "put" sPut) (B : Blt mg) : Cl P w K mg base 1 "put" (spPut K) := by
  refine D.ok sc_put (fun vs H Q E h => ?_) (fun _ _ _ _ _ _ us hl => match us, hl with | [_, _, _], _ => rfl) (fun f cdv A outer s H vs Q E hr h => ?_)
  · obtain ⟨h, v1, v2, p1, p2, rfl, _⟩ := h
    rfl
  obtain ⟨h, v1, v2, p1, p2, rfl, ⟨a, r, rfl, ha⟩, ⟨b, r', rfl, hb⟩, q⟩ := h
  refine ⟨_, pss_cons (ps_if (pt_cmpR op_eq (pv 0) pe_str (nomark _))
      (pss_one (ps_ret (pe_tup (pa_cons (pe_callB (call_max2 rfl) (by rfl) B.max bt_max (pa_cons (pe_ix ix_tup (pv 1) pe_int (fun _ _ => rfl)) (pa_cons (pe_ix ix_tup (pv 2) pe_int (fun _ _ => rfl)) pa_nil)))
        (pa_cons (pe_op op_add (pe_ix ix_tup (pv 1) pe_int (fun _ _ => rfl)) (pe_ix ix_tup (pv 2) pe_int (fun _ _ => rfl))) pa_nil))))) pss_nil)
    (pss_one (ps_ret (pe_tup (pa_cons (pe_op op_add (pe_ix ix_tup (pv 1) pe_int (fun _ _ => rfl)) (pe_ix ix_tup (pv 2) pe_int (fun _ _ => rfl)))
        (pa_cons (pe_callB (call_max2 rfl) (by rfl) B.max bt_max (pa_cons (pe_ix ix_tup (pv 1) pe_int (fun _ _ => rfl)) (pa_cons (pe_ix ix_tup (pv 2) pe_int (fun _ _ => rfl)) pa_nil))) pa_nil))))), ?_⟩
  refine ⟨_, rfl, rfl, _, rfl, ?_⟩
  rw [ltr_dec]
  cases h with
  | true =>
    refine iteT ?_
    refine ⟨_, rfl, _, _, _, _, rfl, rfl, ha, at0 _ _, _, rfl, _, _, _, _, rfl, rfl, hb, at0 _ _, _, _, rfl, ?_⟩
    refine ⟨_, rfl, _, _, _, _, rfl, rfl, ha, at1 _ _ _, _, rfl, _, _, _, _, rfl, rfl, hb, at1 _ _ _, _, _, rfl, rfl, by show 2 ≤ sizeLine; decide, fun p np => ?_⟩
    exact q p _ (same_new np) upd_same
  | false =>
    refine iteF ?_
    refine ⟨_, rfl, _, _, _, _, rfl, rfl, ha, at0 _ _, _, rfl, _, _, _, _, rfl, rfl, hb, at0 _ _, _, _, rfl, rfl, ?_⟩
    refine ⟨_, rfl, _, _, _, _, rfl, rfl, ha, at1 _ _ _, _, rfl, _, _, _, _, rfl, rfl, hb, at1 _ _ _, _, _, rfl, by show 2 ≤ sizeLine; decide, fun p np => ?_⟩
    exact q p _ (same_new np) upd_same
theorem ok_lput (D : Df K mg "_law_put" sLPut) (B : Blt mg) : Cl P w K mg base 1 "_law_put" (spPut K) := by
  refine D.ok sc_lput (fun vs H Q E h => ?_) (fun _ _ _ _ _ _ us hl => match us, hl with | [_, _, _], _ => rfl) (fun f cdv A outer s H vs Q E hr h => ?_)
  · obtain ⟨h, v1, v2, p1, p2, rfl, _⟩ := h
    rfl
  obtain ⟨h, v1, v2, p1, p2, rfl, ⟨a, r, rfl, ha⟩, ⟨b, r', rfl, hb⟩, q⟩ := h
  refine ⟨_, pss_cons (ps_if (pt_cmpR op_eq (pv 0) pe_str (nomark _))
      (pss_one (ps_ret (pe_tup (pa_cons (pe_callB (call_max2 rfl) (by rfl) B.max bt_max (pa_cons (pe_ix ix_tup (pv 1) pe_int (fun _ _ => rfl)) (pa_cons (pe_ix ix_tup (pv 2) pe_int (fun _ _ => rfl)) pa_nil)))
        (pa_cons (pe_op op_add (pe_ix ix_tup (pv 1) pe_int (fun _ _ => rfl)) (pe_ix ix_tup (pv 2) pe_int (fun _ _ => rfl))) pa_nil))))) pss_nil)
    (pss_one (ps_ret (pe_tup (pa_cons (pe_op op_add (pe_ix ix_tup (pv 1) pe_int (fun _ _ => rfl)) (pe_ix ix_tup (pv 2) pe_int (fun _ _ => rfl)))
        (pa_cons (pe_callB (call_max2 rfl) (by rfl) B.max bt_max (pa_cons (pe_ix ix_tup (pv 1) pe_int (fun _ _ => rfl)) (pa_cons (pe_ix ix_tup (pv 2) pe_int (fun _ _ => rfl)) pa_nil))) pa_nil))))), ?_⟩
  refine ⟨_, rfl, rfl, _, rfl, ?_⟩
  rw [ltr_dec]
  cases h with
  | true =>
    refine iteT ?_
    refine ⟨_, rfl, _, _, _, _, rfl, rfl, ha, at0 _ _, _, rfl, _, _, _, _, rfl, rfl, hb, at0 _ _, _, _, rfl, ?_⟩
    refine ⟨_, rfl, _, _, _, _, rfl, rfl, ha, at1 _ _ _, _, rfl, _, _, _, _, rfl, rfl, hb, at1 _ _ _, _, _, rfl, rfl, by show 2 ≤ sizeLine; decide, fun p np => ?_⟩
    exact q p _ (same_new np) upd_same
  | false =>
    refine iteF ?_
    refine ⟨_, rfl, _, _, _, _, rfl, rfl, ha, at0 _ _, _, rfl, _, _, _, _, rfl, rfl, hb, at0 _ _, _, _, rfl, rfl, ?_⟩
    refine ⟨_, rfl, _, _, _, _, rfl, rfl, ha, at1 _ _ _, _, rfl, _, _, _, _, rfl, rfl, hb, at1 _ _ _, _, _, rfl, by show 2 ≤ sizeLine; decide, fun p np => ?_⟩
    exact q p _ (same_new np) upd_same
end
end K4
set_option maxHeartbeats 4000000
/-! tree_of, _law_tree, need_word -/
namespace K4
open PySem PySem.Spec PyProof.Rows L2
section
variable {P : Program} {w : World} {K : PySem.W.Frag} {mg : Str → Option Value} {base : Heap}

/-! ### the trees of a word -/
theorem drop_at {α : Type} {l : List α} {i : Nat} {x : α} (h : l[i]? = some x) : l.drop i = x :: l.drop (i + 1) := by
  obtain ⟨hi, e⟩ := List.getElem?_eq_some_iff.mp h
  rw [List.drop_eq_getElem_cons hi, e]
theorem Run.num_inv {ts : List T} {b : Nat} {r : List Tok} {u : List T} (h : Run ts (.num b :: r) u) : Run (ts ++ [.leaf b]) r u := by
  cases h with
  | num _ k => exact k
theorem Run.op_inv {ts : List T} {h : Bool} {r : List Tok} {u : List T} (k : Run ts (.op h :: r) u) : ∃ st l r', ts = st ++ [l, r'] ∧ Run (st ++ [.node h l r']) r u := by
  cases k with
  | op _ l r' k => exact ⟨_, l, r', rfl, k⟩
theorem tpa_split {H : Hp} : ∀ {ds es : List PyData} {vs : List V}, TpAll K H vs (ds ++ es) → ∃ v1 v2, vs = v1 ++ v2 ∧ TpAll K H v1 ds ∧ TpAll K H v2 es
  | [], es, vs, h => ⟨[], vs, rfl, .nil, h⟩
  | d :: ds, es, vs, h => by
    have h' : TpAll K H vs (d :: (ds ++ es)) := h
    cases h' with
    | cons h1 h2 =>
      obtain ⟨v1, v2, e, a, b⟩ := tpa_split h2
      exact ⟨_ :: v1, v2, by rw [e]; rfl, .cons h1 a, b⟩
theorem tpa_two {H : Hp} {d e : PyData} {vs : List V} (h : TpAll K H vs [d, e]) : ∃ a b, vs = [a, b] ∧ Tp K H a d ∧ Tp K H b e := by
  cases h with
  | cons h1 h2 =>
    cases h2 with
    | cons h3 h4 =>
      cases h4
      exact ⟨_, _, rfl, h1, h3⟩
theorem tpa_single {H : Hp} {d : PyData} {vs : List V} (h : TpAll K H vs [d]) : ∃ a, vs = [a] ∧ Tp K H a d := by
  cases h with
  | cons h1 h2 =>
    cases h2
    exact ⟨_, rfl, h1⟩

/-- the stack at st, behind i tokens -/
structure TreeInv (K : PySem.W.Frag) (H : Hp) (st : Addr) (t : T) (wd : List Tok) (i : Nat) (H' : Hp) : Prop where
  ex : ∃ (ts : List T) (ys : List V), Same H H' ∧ H' st = some (.lst ys) ∧ TpAll K H' ys (ts.map treeD) ∧ Run ts (wd.drop i) [t] ∧ ts.length ≤ i
variable {H H' : Hp} {st : Addr} {t : T} {wd : List Tok} {i : Nat}
theorem TreeInv.num (I : TreeInv K H st t wd i H') (h0 : H st = none) {b : Nat} (hb : wd[i]? = some (.num b)) :
    ∃ ys, H' st = some (.lst ys) ∧ ys.length ≤ i ∧ TreeInv K H st t wd (i + 1) (upd H' st (.lst (ys ++ [.int (b : Nat)]))) := by
  obtain ⟨ts, ys, s1, hs, ty, rn, hl⟩ := I.ex
  have len := tpa_len ty
  rw [List.length_map] at len
  refine ⟨ys, hs, by omega, ⟨ts ++ [.leaf b], _, same_mut s1 h0, upd_same, ?_, ?_, ?_⟩⟩
  · rw [List.map_append]
    exact tpa_snoc (tpa_kp ty (kp_lst hs)) (.int _)
  · rw [drop_at hb] at rn
    exact rn.num_inv
  · rw [List.length_append]
    exact Nat.succ_le_succ hl
theorem TreeInv.op (I : TreeInv K H st t wd i H') (h0 : H st = none) {h : Bool} (hb : wd[i]? = some (.op h)) :
    ∃ ys vl vr, H' st = some (.lst (ys ++ [vl, vr])) ∧ ys.length ≤ i ∧ ∀ p, H' p = none →
      TreeInv K H st t wd (i + 1) (upd (upd (upd H' st (.lst ys)) p (.tup [.str (ltr h), vl, vr])) st (.lst (ys ++ [.ref p]))) := by
  obtain ⟨ts, ys, s1, hs, ty, rn, hl⟩ := I.ex
  rw [drop_at hb] at rn
  obtain ⟨ts', l, r, e, rn'⟩ := rn.op_inv
  subst e
  rw [List.map_append] at ty
  obtain ⟨y1, y2, e1, t1, t2⟩ := tpa_split ty
  obtain ⟨vl, vr, e2, tl, tr⟩ := tpa_two t2
  subst e2
  subst e1
  have len := tpa_len t1
  rw [List.length_map] at len
  rw [List.length_append] at hl
  have hl2 : ts'.length + 2 ≤ i := hl
  refine ⟨y1, vl, vr, hs, by omega, fun p hp => ?_⟩
  have hp1 : upd H' st (.lst y1) p = none := by
    rw [upd_ne (ne_of_none hs hp).symm]
    exact hp
  have k1 : Kp K H' (upd H' st (.lst y1)) := kp_lst hs
  have k2 : Kp K (upd H' st (.lst y1)) (upd (upd H' st (.lst y1)) p (.tup [.str (ltr h), vl, vr])) := kp_new hp1
  have ne : st ≠ p := ne_of_none hs hp
  have hs2 : (upd (upd H' st (.lst y1)) p (.tup [.str (ltr h), vl, vr])) st = some (.lst y1) := by
    rw [upd_ne ne]
    exact upd_same
  have k3 : Kp K (upd (upd H' st (.lst y1)) p (.tup [.str (ltr h), vl, vr])) (upd (upd (upd H' st (.lst y1)) p (.tup [.str (ltr h), vl, vr])) st (.lst (y1 ++ [.ref p]))) := kp_lst hs2
  have new : Tp K (upd (upd H' st (.lst y1)) p (.tup [.str (ltr h), vl, vr])) (.ref p) (treeD (.node h l r)) :=
    tp_new hp1 (.cons (.str _) (.cons (tp_kp tl k1) (.cons (tp_kp tr k1) .nil)))
  refine ⟨ts' ++ [.node h l r], _, ?_, upd_same, ?_, rn', by rw [List.length_append]; show ts'.length + 1 ≤ i + 1; omega⟩
  · exact same_mut (same_mut (same_mut s1 h0) (s1.free hp)) h0
  · rw [List.map_append]
    exact tpa_snoc (tpa_kp t1 (k1.trans (k2.trans k3))) (tp_kp new k3)
theorem TreeInv.done (I : TreeInv K H st t wd wd.length H') : ∃ v, H' st = some (.lst [v]) ∧ Tp K H' v (treeD t) ∧ Same H H' := by
  obtain ⟨ts, ys, s1, hs, ty, rn, hl⟩ := I.ex
  rw [List.drop_length] at rn
  cases rn
  obtain ⟨v, e, tv⟩ := tpa_single ty
  subst e
  exact ⟨v, hs, tv, s1⟩
theorem last_two {α : Type} (ys : List α) (a b : α) : (ys ++ [a, b])[(ys ++ [a, b]).length - 1]? = some b ∧ (ys ++ [a, b]).dropLast = ys ++ [a] := by
  have e : ys ++ [a, b] = (ys ++ [a]) ++ [b] := by rw [List.append_assoc]; rfl
  rw [e]
  exact ⟨by simp, List.dropLast_concat⟩
theorem last_one {α : Type} (ys : List α) (a : α) : (ys ++ [a])[(ys ++ [a]).length - 1]? = some a ∧ (ys ++ [a]).dropLast = ys := ⟨by simp, List.dropLast_concat⟩
/-- the token in place -/
theorem tok_at {H : Hp} {xs : List V} {wd : List Tok} {i : Nat} {x : V} (h : TpAll K H xs (wd.map tokD)) (hx : xs[i]? = some x) : ∃ tok, wd[i]? = some tok ∧ Tp K H x (tokD tok) := by
  obtain ⟨d, hd, tx⟩ := tpa_at h hx
  rw [List.getElem?_map] at hd
  obtain ⟨tok, ht, e⟩ := Option.map_eq_some_iff.mp hd
  exact ⟨tok, ht, by rw [e]; exact tx⟩

def spTree (K : PySem.W.Frag) : Sp := fun vs H Q _ => ∃ v wd t, vs = [v] ∧ Tp K H v (wordD wd) ∧ Run [] wd [t] ∧ wd.length ≤ 1000 ∧ ∀ v' H', Same H H' → Tp K H' v' (treeD t) → Q v' H'
theorem sc_treeof : FnScope ["word", "stack", "token", "right", "left"] ["word"] (defScope sTreeOf) := ⟨rfl, rfl, rfl, by decide +kernel, rfl, by decide +kernel, by decide +kernel⟩
theorem ok_treeof (D : Df K mg "tree_of" sTreeOf) (B : Blt mg) : Cl P w K mg base 1 "tree_of" (spTree K) := by
  refine D.ok sc_treeof (fun vs H Q E h => ?_) (fun _ _ _ _ _ _ us hl => match us, hl with | [_], _ => rfl) (fun f cdv A outer s H vs Q E hr h => ?_)
  · obtain ⟨v, wd, t, rfl, _⟩ := h
    rfl
  obtain ⟨v, wd, t, rfl, tw, rn, hlen, q⟩ := h
  obtain ⟨a, xs, rfl, ha, tx⟩ := tp_tup tw
  refine ⟨_, pss_cons (ps_set (i := 1) sc_treeof.nd rfl (.inl rfl) (pe_lst pa_nil))
    (pss_cons (ps_for PassesOwn.never rfl (pi_tup (pv 0)) (pg_name (i := 2) sc_treeof.nd rfl (.inl rfl))
      (pss_one (ps_if (pt_val (pe_callB call_isi (by rfl) B.isi bt_isi (pa_cons (pv 2) (pa_cons (pe_bltn (v := .ty "str") (by rfl) B.str bt_str rfl) pa_nil))))
        (pss_cons (ps_par (i := 3) (j := 4) rfl sc_treeof.nd rfl rfl (by decide) rfl rfl (pa_cons (pe_bm0 PySem.F.plainAttrs_list PySem.F.slot_list_pop PySem.F.type_list_pop mt_pop (pv 1)) (pa_cons (pe_bm0 PySem.F.plainAttrs_list PySem.F.slot_list_pop PySem.F.type_list_pop mt_pop (pv 1)) pa_nil)) (by rfl))
          (pss_one (ps_expr (pe_bm PySem.F.plainAttrs_list PySem.F.slot_list_append PySem.F.type_list_append mt_append (pv 1) (pa_cons (pe_tup (pa_cons (pv 2) (pa_cons (pv 4) (pa_cons (pv 3) pa_nil)))) pa_nil)))))
        (pss_one (ps_expr (pe_bm PySem.F.plainAttrs_list PySem.F.slot_list_append PySem.F.type_list_append mt_append (pv 1) (pa_cons (pv 2) pa_nil)))))))
    (pss_one (ps_ret (pe_ix ix_list (pv 1) pe_int (fun _ _ => rfl))))), ?_⟩
  refine ⟨Nat.zero_le _, fun st hst => ?_⟩
  have sm : Same H (upd H st (.lst [])) := same_new hst
  have lx := tpa_len tx
  rw [List.length_map] at lx
  refine ⟨.ref a, rfl, a, rfl, ⟨_, same_sqT sm ha⟩, for_tup (K := K) (a := a) (xs := xs) (fun i σ H' => ∃ y2 y3 y4, σ = [some (.ref a), some (.ref st), y2, y3, y4] ∧ TreeInv K H st t wd i H')
    ⟨none, none, none, rfl, ⟨[], [], sm, upd_same, .nil, rn, Nat.le_refl _⟩⟩ (fun i σ H' _ ⟨_, _, _, _, I⟩ => ?_) ?_ ?_⟩
  · obtain ⟨_, _, s1, _⟩ := I.ex
    exact same_sqT s1 ha
  · rintro i x σ H' hx ⟨y2, y3, y4, rfl, I⟩
    have hi : i < xs.length := (List.getElem?_eq_some_iff.mp hx).1
    have small : ∀ n, n ≤ i → n < sizeLine := fun n hn => small1000 (by omega)
    obtain ⟨tok, htok, tt⟩ := tok_at tx hx
    cases tok with
    | num b =>
      obtain rfl := tp_int tt
      obtain ⟨ys, hs, hl, I'⟩ := I.num hst htok
      refine ⟨_, rfl, _, _, _, _, false, rfl, .ty _, ty_int, k_int_str, false, rfl, iteF ?_⟩
      refine ⟨_, rfl, .inl ⟨rfl, _, .inl (.inl hs)⟩, _, rfl, st, _, _, rfl, rfl, hs, small _ hl, ?_⟩
      exact ⟨_, _, _, rfl, I'⟩
    | op h =>
      obtain rfl := tp_str tt
      obtain ⟨ys, vl, vr, hs, hl, I'⟩ := I.op hst htok
      obtain ⟨l2, d2⟩ := last_two ys vl vr
      obtain ⟨l1, d1⟩ := last_one ys vl
      refine ⟨_, rfl, _, _, _, _, true, rfl, .ty _, ty_str, k_str_str, true, rfl, iteT ?_⟩
      refine ⟨_, rfl, .inl ⟨rfl, _, .inl (.inl hs)⟩, st, _, vr, rfl, rfl, hs, l2, ?_⟩
      rw [d2]
      refine ⟨_, rfl, .inl ⟨rfl, _, .inl (.inl upd_same)⟩, st, _, vl, rfl, rfl, upd_same, l1, ?_⟩
      rw [d1, upd_upd]
      refine ⟨_, _, rfl, ?_⟩
      refine ⟨_, rfl, .inl ⟨rfl, _, .inl (.inl upd_same)⟩, _, rfl, _, rfl, _, rfl, by show 3 ≤ sizeLine; decide, fun p hp => ?_⟩
      have ne : st ≠ p := fun e => by
        rw [← e, upd_same] at hp
        cases hp
      have hp' : H' p = none := by
        rw [upd_ne ne.symm] at hp
        exact hp
      refine ⟨st, ys, _, rfl, rfl, by rw [upd_ne ne]; exact upd_same, small _ hl, ?_⟩
      exact ⟨_, _, _, rfl, I' p hp'⟩
  · rintro σ H' ⟨y2, y3, y4, rfl, I⟩
    rw [lx] at I
    obtain ⟨v', hs, tv, s1⟩ := I.done
    exact ⟨_, rfl, st, _, _, v', rfl, rfl, .inl (.inl hs), at0 _ _, q v' H' s1 tv⟩
theorem sc_ltree : FnScope ["_law_word_here", "_law_stack", "_law_token", "_law_right", "_law_left"] ["_law_word_here"] (defScope sLTree) := ⟨rfl, rfl, rfl, by decide +kernel, rfl, by decide +kernel, by decide +kernel⟩
theorem ok_ltree (D : Df K mg "_law_tree" sLTree) (B : Blt mg) : Cl P w K mg base 1 "_law_tree" (spTree K) := by
  refine D.ok sc_ltree (fun vs H Q E h => ?_) (fun _ _ _ _ _ _ us hl => match us, hl with | [_], _ => rfl) (fun f cdv A outer s H vs Q E hr h => ?_)
  · obtain ⟨v, wd, t, rfl, _⟩ := h
    rfl
  obtain ⟨v, wd, t, rfl, tw, rn, hlen, q⟩ := h
  obtain ⟨a, xs, rfl, ha, tx⟩ := tp_tup tw
  refine ⟨_, pss_cons (ps_set (i := 1) sc_ltree.nd rfl (.inl rfl) (pe_lst pa_nil))
    (pss_cons (ps_for PassesOwn.never rfl (pi_tup (pv 0)) (pg_name (i := 2) sc_ltree.nd rfl (.inl rfl))
      (pss_one (ps_if (pt_val (pe_callB call_isi (by rfl) B.isi bt_isi (pa_cons (pv 2) (pa_cons (pe_bltn (v := .ty "str") (by rfl) B.str bt_str rfl) pa_nil))))
        (pss_cons (ps_set (i := 3) sc_ltree.nd rfl (.inl rfl) (pe_bm0 PySem.F.plainAttrs_list PySem.F.slot_list_pop PySem.F.type_list_pop mt_pop (pv 1)))
          (pss_cons (ps_set (i := 4) sc_ltree.nd rfl (.inl rfl) (pe_bm0 PySem.F.plainAttrs_list PySem.F.slot_list_pop PySem.F.type_list_pop mt_pop (pv 1)))
          (pss_one (ps_expr (pe_bm PySem.F.plainAttrs_list PySem.F.slot_list_append PySem.F.type_list_append mt_append (pv 1) (pa_cons (pe_tup (pa_cons (pv 2) (pa_cons (pv 4) (pa_cons (pv 3) pa_nil)))) pa_nil))))))
        (pss_one (ps_expr (pe_bm PySem.F.plainAttrs_list PySem.F.slot_list_append PySem.F.type_list_append mt_append (pv 1) (pa_cons (pv 2) pa_nil)))))))
    (pss_one (ps_ret (pe_ix ix_list (pv 1) pe_int (fun _ _ => rfl))))), ?_⟩
  refine ⟨Nat.zero_le _, fun st hst => ?_⟩
  have sm : Same H (upd H st (.lst [])) := same_new hst
  have lx := tpa_len tx
  rw [List.length_map] at lx
  refine ⟨.ref a, rfl, a, rfl, ⟨_, same_sqT sm ha⟩, for_tup (K := K) (a := a) (xs := xs) (fun i σ H' => ∃ y2 y3 y4, σ = [some (.ref a), some (.ref st), y2, y3, y4] ∧ TreeInv K H st t wd i H')
    ⟨none, none, none, rfl, ⟨[], [], sm, upd_same, .nil, rn, Nat.le_refl _⟩⟩ (fun i σ H' _ ⟨_, _, _, _, I⟩ => ?_) ?_ ?_⟩
  · obtain ⟨_, _, s1, _⟩ := I.ex
    exact same_sqT s1 ha
  · rintro i x σ H' hx ⟨y2, y3, y4, rfl, I⟩
    have hi : i < xs.length := (List.getElem?_eq_some_iff.mp hx).1
    have small : ∀ n, n ≤ i → n < sizeLine := fun n hn => small1000 (by omega)
    obtain ⟨tok, htok, tt⟩ := tok_at tx hx
    cases tok with
    | num b =>
      obtain rfl := tp_int tt
      obtain ⟨ys, hs, hl, I'⟩ := I.num hst htok
      refine ⟨_, rfl, _, _, _, _, false, rfl, .ty _, ty_int, k_int_str, false, rfl, iteF ?_⟩
      refine ⟨_, rfl, .inl ⟨rfl, _, .inl (.inl hs)⟩, _, rfl, st, _, _, rfl, rfl, hs, small _ hl, ?_⟩
      exact ⟨_, _, _, rfl, I'⟩
    | op h =>
      obtain rfl := tp_str tt
      obtain ⟨ys, vl, vr, hs, hl, I'⟩ := I.op hst htok
      obtain ⟨l2, d2⟩ := last_two ys vl vr
      obtain ⟨l1, d1⟩ := last_one ys vl
      refine ⟨_, rfl, _, _, _, _, true, rfl, .ty _, ty_str, k_str_str, true, rfl, iteT ?_⟩
      refine ⟨_, rfl, .inl ⟨rfl, _, .inl (.inl hs)⟩, st, _, vr, rfl, rfl, hs, l2, ?_⟩
      rw [d2]
      refine ⟨_, rfl, .inl ⟨rfl, _, .inl (.inl upd_same)⟩, st, _, vl, rfl, rfl, upd_same, l1, ?_⟩
      rw [d1, upd_upd]
      refine ⟨_, rfl, .inl ⟨rfl, _, .inl (.inl upd_same)⟩, _, rfl, _, rfl, _, rfl, by show 3 ≤ sizeLine; decide, fun p hp => ?_⟩
      have ne : st ≠ p := fun e => by
        rw [← e, upd_same] at hp
        cases hp
      have hp' : H' p = none := by
        rw [upd_ne ne.symm] at hp
        exact hp
      refine ⟨st, ys, _, rfl, rfl, by rw [upd_ne ne]; exact upd_same, small _ hl, ?_⟩
      exact ⟨_, _, _, rfl, I' p hp'⟩
  · rintro σ H' ⟨y2, y3, y4, rfl, I⟩
    rw [lx] at I
    obtain ⟨v', hs, tv, s1⟩ := I.done
    exact ⟨_, rfl, st, _, _, v', rfl, rfl, .inl (.inl hs), at0 _ _, q v' H' s1 tv⟩
end
end K4
set_option maxHeartbeats 4000000
/-! need_word -/
namespace K4
open PySem PySem.Spec PyProof.Rows L2
section
variable {P : Program} {w : World} {K : PySem.W.Frag} {mg : Str → Option Value} {base : Heap}

theorem put_len {κ : Type} [DecidableEq κ] (kvs : List (κ × V)) (k : κ) (v : V) : (putK kvs k v).length ≤ kvs.length + 1 := by
  unfold putK
  split
  · rw [List.length_map]; exact Nat.le_succ _
  · rw [List.length_append]; exact Nat.le_refl _
/-- a word of n blocks: the tree of its stack, its numbers each once -/
structure WordOk (wd : List Tok) (t : T) (n : Nat) : Prop where
  run : Run [] wd [t]
  perm : (nums wd).Perm (List.range n)
  pos : 1 ≤ n
theorem WordOk.len {wd : List Tok} {t : T} {n : Nat} (W : WordOk wd t n) : wd.length = 2 * n - 1 := by
  have c := W.run.count
  have e := W.perm.length_eq
  rw [List.length_range] at e
  have h0 : ([] : List T).length = 0 := rfl
  have h1 : ([t] : List T).length = 1 := rfl
  have p := W.pos
  omega
theorem WordOk.nd {wd : List Tok} {t : T} {n : Nat} (W : WordOk wd t n) : (nums wd).Nodup := W.perm.nodup_iff.mpr List.nodup_range
theorem WordOk.lt {wd : List Tok} {t : T} {n : Nat} (W : WordOk wd t n) {b : Nat} (h : b ∈ nums wd) : b < n := List.mem_range.mp (W.perm.mem_iff.mp h)
theorem WordOk.leaves {wd : List Tok} {t : T} {n : Nat} (W : WordOk wd t n) : (K4.leaves t).Perm (List.range n) := by
  have h := W.run.leaves
  have e : leavesAll [t] = K4.leaves t := by simp [leavesAll]
  rw [e] at h
  have e2 : leavesAll ([] : List T) ++ nums wd = nums wd := rfl
  rw [e2] at h
  exact h.symm.trans W.perm
theorem nums_take {wd : List Tok} {i : Nat} {tok : Tok} (h : wd[i]? = some tok) : nums (wd.take (i + 1)) = nums (wd.take i) ++ nums [tok] := by
  rw [List.take_succ, h, nums_append]
  rfl
theorem nums_fresh {wd : List Tok} {i b : Nat} (hn : (nums wd).Nodup) (h : wd[i]? = some (.num b)) : b ∉ nums (wd.take i) := by
  have e : nums wd = nums (wd.take i) ++ nums (wd.drop i) := by rw [← nums_append, List.take_append_drop]
  rw [e, drop_at h] at hn
  have n3 := (List.nodup_append.mp hn).2.2
  intro hm
  exact n3 b hm b List.mem_cons_self rfl
theorem mem_nums {wd : List Tok} {i b : Nat} (h : wd[i]? = some (.num b)) : b ∈ nums wd := by
  have e : nums wd = nums (wd.take i) ++ nums (wd.drop i) := by rw [← nums_append, List.take_append_drop]
  rw [e, drop_at h]
  exact List.mem_append_right _ List.mem_cons_self

def spNeedWord (K : PySem.W.Frag) : Sp := fun vs H Q _ => ∃ v wd t n, vs = [v] ∧ Tp K H v (wordD wd) ∧ WordOk wd t n ∧ n ≤ 8 ∧ ∀ H', Same H H' → Q .non H'
theorem sc_needword : FnScope ["word", "many", "met", "deep", "index", "token"] ["word"] (defScope sNeedWord) := ⟨rfl, rfl, rfl, by decide +kernel, rfl, by decide +kernel, by decide +kernel⟩
theorem ok_needword (D : Df K mg "need_word" sNeedWord) (B : Blt mg) (c1 : Cl P w K mg base 1 "is_list" (spIsList K)) (c2 : Cl P w K mg base 3 "is_token" spIsToken) : Cl P w K mg base 4 "need_word" (spNeedWord K) := by
  refine D.ok sc_needword (fun vs H Q E h => ?_) (fun _ _ _ _ _ _ us hl => match us, hl with | [_], _ => rfl) (fun f cdv A outer s H vs Q E hr h => ?_)
  · obtain ⟨v, wd, t, n, rfl, _⟩ := h
    rfl
  obtain ⟨v, wd, t, n, rfl, tw, W, hn, q⟩ := h
  obtain ⟨a, xs, rfl, ha, tx⟩ := tp_tup tw
  obtain ⟨t8, m8⟩ := B.b8
  have hu := hu_of hr
  have nd := sc_needword.nd
  refine ⟨_, pss_cons (ps_if (PW.pt (pw_or (pt_not (pt_val (pe_cl c1 hr (by decide) (by rfl) (pa_cons (pv 0) (pa_cons pe_int (pa_cons (pe_op op_sub (pe_op op_mul pe_int (pe_glob (v := .int 8) (by rfl) m8 ⟨_, rfl⟩)) pe_int) pa_nil))))))
        (pw_or1 (pt_cmpR op_eq (pe_op op_mod (pe_callB call_len_seq (by rfl) B.len bt_len (pa_cons (pv 0) pa_nil)) pe_int) pe_int (nomark _))))) (pss_one ps_never) pss_nil)
    (pss_cons (ps_par3 (i := 1) (j := 2) (l := 3) rfl nd rfl rfl rfl (by decide) (by decide) (by decide) rfl rfl rfl
        (pa_cons (pe_op op_fdiv (pe_op op_add (pe_callB call_len_seq (by rfl) B.len bt_len (pa_cons (pv 0) pa_nil)) pe_int) pe_int) (pa_cons pe_dnewK (pa_cons pe_int pa_nil))) (by rfl))
    (pss_cons (ps_for PassesOwn.never rfl (pi_enumT (by rfl) B.enum (pa_cons (pv 0) pa_nil)) (pg_tup rfl (pgs_cons (pg_name (i := 4) nd rfl (.inl rfl)) (pgs_cons (pg_name (i := 5) nd rfl (.inl rfl)) pgs_nil)))
      (pss_cons (ps_if (PW.pt (pw_or (pt_not (pt_val (pe_cl c2 hr (by decide) (by rfl) (pa_cons (pv 5) (pa_cons (pv 1) pa_nil))))) (pw_or1 (pt_cmp (pc_din hu (pv 5) (pv 2)))))) (pss_one ps_never) pss_nil)
      (pss_one (ps_if (pt_val (pe_callB call_isi (by rfl) B.isi bt_isi (pa_cons (pv 5) (pa_cons (pe_bltn (v := .ty "str") (by rfl) B.str bt_str rfl) pa_nil))))
        (pss_cons (ps_if (pt_cmpR op_lt (pv 3) pe_int (nomark _)) (pss_one ps_never) pss_nil) (pss_one (ps_aug (i := 3) nd rfl (.inl rfl) pe_int ip_sub)))
        (pss_cons (ps_dput hu (pv 2) (pv 5) pe_bl rfl) (pss_one (ps_aug (i := 3) nd rfl (.inl rfl) pe_int ip_add)))))))
    (pss_one (ps_if (pt_cmpR op_ne (pv 3) pe_int (nomark _)) (pss_one ps_never) pss_nil)))), ?_⟩
  have lx := tpa_len tx
  rw [List.length_map, W.len] at lx
  have hpos := W.pos
  -- is_list(word, 1, 15), len(word) % 2
  refine ⟨_, rfl, 2, 8, rfl, rfl, .inl ⟨by decide, by decide⟩, _, 1, rfl, rfl, a, xs, 1, _, rfl, ha, _, rfl, ?_⟩
  have e1 : (decide ((1 : Int) ≤ (xs.length : Int)) && decide ((xs.length : Int) ≤ 2 * 8 - 1)) = true := by
    rw [Bool.and_eq_true, decide_eq_true_eq, decide_eq_true_eq]
    omega
  rw [e1]
  refine iteF ?_
  refine ⟨_, rfl, a, xs, rfl, .inr ha, _, 2, rfl, rfl, (show (0 : Int) < 2 by decide), rfl, _, rfl, ?_⟩
  have e2 : decide (V.int ((xs.length : Int) % 2) = V.int 0) = false := by
    refine decide_eq_false fun z => ?_
    injection z with z
    omega
  rw [e2]
  refine iteF ?_
  -- many, met, deep = ..
  refine ⟨_, rfl, a, xs, rfl, .inr ha, _, 1, rfl, rfl, _, 2, rfl, rfl, ⟨by decide, by decide⟩, fun d hd => ?_⟩
  refine ⟨_, _, _, rfl, ?_⟩
  have em : ((xs.length : Int) + 1) / 2 = (n : Int) := by omega
  have sm : Same H (upd H d (.dK [])) := same_new hd
  refine ⟨_, rfl, a, xs, rfl, same_sqT sm ha, ?_⟩
  refine for_it (walk_enumT (K := K) (a := a) (xs := xs)) (fun i σ H' => ∃ (ts : List T) (kvs : List (Key × V)) (y4 y5 : Option V), σ = [some (.ref a), some (.int (((xs.length : Int) + 1) / 2)), some (.ref d), some (.int (ts.length : Int)), y4, y5] ∧ Same H H' ∧ H' d = some (.dK kvs) ∧ kvs.length ≤ i ∧
      (∀ b : Nat, (valV kvs (Sum.inl (b : Int))).isSome = true → b ∈ nums (wd.take i)) ∧ (∀ z : Str, valV kvs (Sum.inr z) = none) ∧ Run ts (wd.drop i) [t])
    ⟨[], [], none, none, rfl, sm, upd_same, Nat.le_refl _, (fun b hb => by cases hb), (fun z => rfl), W.run⟩ (fun i σ H' _ ⟨_, _, _, _, _, s1, _⟩ => same_sqT s1 ha) ?_ ?_
  · rintro i x σ H' H'' hi ⟨ts, kvs, y4, y5, rfl, s1, hdk, hkl, hmem, hstr, rn⟩ ⟨p, x1, x2, rfl, np, rfl, g1, g2⟩
    cases g1
    have s2 : Same H' (upd H' p (.tup [.int (i : Nat), x2])) := same_new np
    obtain ⟨tok, htok, tt⟩ := tok_at tx g2
    have hd2 : (upd H' p (.tup [.int (i : Nat), x2])) d = some (.dK kvs) := s2 _ _ hdk
    refine ⟨p, [.int (i : Nat), x2], rfl, SqT.of upd_same, rfl, _, _, rfl, _, _, rfl, rfl, ?_⟩
    rw [drop_at htok] at rn
    cases tok with
    | num b =>
      obtain rfl := tp_int tt
      have hb := W.lt (mem_nums htok)
      refine ⟨_, rfl, _, rfl, _, ((xs.length : Int) + 1) / 2, rfl, .num _ ⟨by omega, by omega⟩, fun H3 s3 => ⟨true, rfl, iteF ?_⟩⟩
      have hd3 : H3 d = some (.dK kvs) := s3 _ _ hd2
      refine ⟨_, rfl, _, rfl, d, _, rfl, DGet.k (k := Sum.inl (b : Int)) hd3, _, rfl, ?_⟩
      have no : (valV kvs (Sum.inl (b : Int))).isSome = false := by
        cases e : (valV kvs (Sum.inl (b : Int))).isSome with
        | false => rfl
        | true => exact absurd (hmem b e) (nums_fresh W.nd htok)
      rw [no]
      refine iteF ?_
      refine ⟨_, rfl, _, _, _, _, false, rfl, .ty _, ty_int, k_int_str, false, rfl, iteF ?_⟩
      refine ⟨_, rfl, _, rfl, d, _, rfl, DPut.k (k := Sum.inl (b : Int)) hd3 (small1000 (by omega)), ?_⟩
      refine ⟨_, rfl, _, 1, rfl, rfl, ?_⟩
      refine ⟨ts ++ [.leaf b], _, some (.int (i : Nat)), some (.int (b : Nat)), ?_, same_mut (s1.trans (s2.trans s3)) hd, upd_same, Nat.le_trans (put_len _ _ _) (Nat.succ_le_succ hkl), fun c hc => ?_, fun z => ?_, rn.num_inv⟩
      · rw [List.length_append]
        rfl
      · rw [nums_take htok]
        rw [valV_put] at hc
        by_cases cb : c = b
        · rw [cb]
          exact List.mem_append_right _ List.mem_cons_self
        · rw [if_neg (fun z => cb (by injection z with z; omega))] at hc
          exact List.mem_append_left _ (hmem c hc)
      · rw [valV_put, if_neg (fun z => by cases z)]
        exact hstr z
    | op h =>
      obtain rfl := tp_str tt
      obtain ⟨st, l, r, e, rn'⟩ := rn.op_inv
      refine ⟨_, rfl, _, rfl, _, ((xs.length : Int) + 1) / 2, rfl, .op h, fun H3 s3 => ⟨true, rfl, iteF ?_⟩⟩
      have hd3 : H3 d = some (.dK kvs) := s3 _ _ hd2
      refine ⟨_, rfl, _, rfl, d, _, rfl, DGet.k (k := Sum.inr (ltr h)) hd3, _, rfl, ?_⟩
      rw [hstr]
      refine iteF ?_
      refine ⟨_, rfl, _, _, _, _, true, rfl, .ty _, ty_str, k_str_str, true, rfl, iteT ?_⟩
      have len2 : ts.length = st.length + 2 := by rw [e, List.length_append]; rfl
      refine ⟨_, rfl, _, 2, rfl, rfl, _, rfl, ?_⟩
      rw [decide_eq_false (show ¬ ((ts.length : Int) < 2) by omega)]
      refine iteF ?_
      refine ⟨_, rfl, _, 1, rfl, rfl, ?_⟩
      refine ⟨st ++ [.node h l r], kvs, some (.int (i : Nat)), some (.str (ltr h)), ?_, s1.trans (s2.trans s3), hd3, Nat.le_succ_of_le hkl, fun c hc => ?_, hstr, rn'⟩
      · have ez : ((ts.length : Int) - 1) = (((st ++ [T.node h l r]).length : Nat) : Int) := by
          rw [List.length_append, len2]
          show (((st.length + 2 : Nat) : Int) - 1) = ((st.length + 1 : Nat) : Int)
          omega
        rw [← ez]
        rfl
      · rw [nums_take htok]
        exact List.mem_append_left _ (hmem c hc)
  · rintro σ H' ⟨ts, kvs, y4, y5, rfl, s1, _, _, _, _, rn⟩
    have el : xs.length = wd.length := by rw [lx, W.len]
    rw [el, List.drop_length] at rn
    cases rn
    refine ⟨_, rfl, rfl, _, rfl, iteNS rfl ?_⟩
    exact q H' s1
end
end K4
set_option maxHeartbeats 4000000
/-! is_size, need_blocks, need_fit -/
namespace K4
open PySem PySem.Spec PyProof.Rows L2
section
variable {P : Program} {w : World} {K : PySem.W.Frag} {mg : Str → Option Value} {base : Heap}

def SideOk (p : Sz) : Prop := (1 ≤ p.1 ∧ p.1 ≤ 100) ∧ (1 ≤ p.2 ∧ p.2 ≤ 100)
structure BlocksOk (bs : List (List Sz)) : Prop where
  pos : 1 ≤ bs.length
  most : bs.length ≤ 8
  each : ∀ ss ∈ bs, (1 ≤ ss.length ∧ ss.length ≤ 6) ∧ ∀ p ∈ ss, SideOk p
/-- a list of so many Trues -/
theorem all_true (n : Nat) : (List.replicate n true).map V.bl = List.replicate n (.bl true) ∧ (List.replicate n true).all id = true := by
  refine ⟨List.map_replicate, ?_⟩
  rw [List.all_eq_true]
  intro x hx
  rw [List.eq_of_mem_replicate hx]
  rfl
/-- what a comprehension of Trues has made behind i turns -/
def Trues (H : Hp) (D : Addr) (i : Nat) (H' : Hp) : Prop := Same H H' ∧ H' D = some (.lst (List.replicate i (.bl true)))
theorem Trues.zero {H : Hp} {D : Addr} (h : H D = none) : Trues H D 0 (upd H D (.lst [])) := ⟨same_new h, upd_same⟩
theorem Trues.more {H H' H3 : Hp} {D : Addr} {i : Nat} (h : H D = none) (t : Trues H D i H') (s : Same H' H3) (hi : i ≤ 1000) :
    ∃ acc, H3 D = some (.lst acc) ∧ acc.length < sizeLine ∧ Trues H D (i + 1) (upd H3 D (.lst (acc ++ [.bl true]))) := by
  refine ⟨_, s _ _ t.2, by rw [List.length_replicate]; exact small1000 hi, same_mut (t.1.trans s) h, ?_⟩
  rw [upd_same, ← List.replicate_succ']
/-- sizes in place -/
theorem sz_at {H : Hp} {xs : List V} {ss : List Sz} {i : Nat} {x : V} (h : TpAll K H xs (ss.map szD)) (hx : xs[i]? = some x) : ∃ p, ss[i]? = some p ∧ Tp K H x (szD p) := by
  obtain ⟨d, hd, tx⟩ := tpa_at h hx
  rw [List.getElem?_map] at hd
  obtain ⟨p, hp, e⟩ := Option.map_eq_some_iff.mp hd
  exact ⟨p, hp, by rw [e]; exact tx⟩
theorem bl_at {H : Hp} {xs : List V} {bs : List (List Sz)} {i : Nat} {x : V} (h : TpAll K H xs (bs.map sizesD)) (hx : xs[i]? = some x) : ∃ ss, bs[i]? = some ss ∧ Tp K H x (sizesD ss) := by
  obtain ⟨d, hd, tx⟩ := tpa_at h hx
  rw [List.getElem?_map] at hd
  obtain ⟨p, hp, e⟩ := Option.map_eq_some_iff.mp hd
  exact ⟨p, hp, by rw [e]; exact tx⟩

def spIsSize (K : PySem.W.Frag) : Sp := fun vs H Q _ => ∃ v p, vs = [v] ∧ Tp K H v (szD p) ∧ SideOk p ∧ ∀ H', Same H H' → Q (.bl true) H'
theorem sc_issize : FnScope ["value", "side"] ["value"] (defScope sIsSize) := ⟨rfl, rfl, rfl, by decide +kernel, rfl, by decide +kernel, by decide +kernel⟩
theorem ok_issize (D : Df K mg "is_size" sIsSize) (B : Blt mg) (c1 : Cl P w K mg base 1 "is_list" (spIsList K)) (c2 : Cl P w K mg base 2 "is_in" spIsIn) : Cl P w K mg base 3 "is_size" (spIsSize K) := by
  refine D.ok sc_issize (fun vs H Q E h => ?_) (fun _ _ _ _ _ _ us hl => match us, hl with | [_], _ => rfl) (fun f cdv A outer s H vs Q E hr h => ?_)
  · obtain ⟨v, p, rfl, _⟩ := h
    rfl
  obtain ⟨v, p, rfl, tp, ⟨⟨s1, s2⟩, s3, s4⟩, q⟩ := h
  obtain ⟨a, xs, rfl, ha, tx⟩ := tp_tup tp
  obtain ⟨x1, x2, rfl, t1, t2⟩ := tpa_two tx
  obtain rfl := tp_int t1
  obtain rfl := tp_int t2
  obtain ⟨t100, m100⟩ := B.b100
  have nd := sc_issize.nd
  refine ⟨_, pss_one (ps_ret (pe_and (pe_cl c1 hr (by decide) (by rfl) (pa_cons (pv 0) (pa_cons pe_int (pa_cons pe_int pa_nil))))
    (pe_one (pe_callB (cr_all rfl) (by rfl) B.all bt_all (pa_cons (pe_lc (own := [("side", 1)]) (g := gName 1) (tt := tYes) rfl nd (pi_tup (pv 0)) (blkOk_by (N := ["value", "side"]) (sc := defScope sIsSize) (by decide +kernel))
      (fun _ _ _ _ _ => pg_name (i := 1) nd rfl (Or.inl rfl)) (fun _ _ _ _ _ => pts_nil)
      (fun _ _ _ _ _ => pe_cl c2 hr (by decide) (by rfl) (pa_cons (pv 1) (pa_cons pe_int (pa_cons (pe_glob (v := .int 100) (by rfl) m100 ⟨_, rfl⟩) pa_nil))))) pa_nil))))), ?_⟩
  refine ⟨_, rfl, a, _, 2, 2, rfl, ha, true, rfl, iteT ?_⟩
  refine ⟨_, rfl, a, rfl, ⟨_, ha⟩, fun Dl hD => lc_tup (K := K) (a := a) (xs := [.int p.1, .int p.2]) (Trues H Dl) (Trues.zero hD) (fun i H' _ t => same_sqT t.1 ha) ?_ ?_⟩
  · intro i x H' hx t
    have hi : i < 2 := (List.getElem?_eq_some_iff.mp hx).1
    refine ⟨rfl, ?_⟩
    have ok : ∀ z : Int, 1 ≤ z → z ≤ 100 → InOr 1 100 (.int z) true := fun z h1 h2 => by
      have e : InOr 1 100 (.int z) (decide (1 ≤ z) && decide (z ≤ 100)) := .int z
      rw [decide_eq_true h1, decide_eq_true h2] at e
      exact e
    obtain ⟨z, rfl, h1, h2⟩ : ∃ z, x = .int z ∧ 1 ≤ z ∧ z ≤ 100 := by
      match i, hx with
      | 0, hx => exact ⟨p.1, (Option.some.inj hx).symm, s1, s2⟩
      | 1, hx => exact ⟨p.2, (Option.some.inj hx).symm, s3, s4⟩
      | i + 2, hx => exact absurd hi (by omega)
    exact ⟨_, rfl, _, true, 1, 100, rfl, ok z h1 h2, t.more hD (Same.refl _) (by omega)⟩
  · rintro H' ⟨s5, hl⟩
    obtain ⟨e1, e2⟩ := all_true 2
    refine ⟨Dl, List.replicate 2 true, rfl, ?_, ?_⟩
    · rw [e1]
      exact .inl (.inl hl)
    · rw [e2]
      exact q H' s5

/-! ### need_blocks -/
def spNeedBlocks (K : PySem.W.Frag) : Sp := fun vs H Q _ => ∃ v bs, vs = [v] ∧ Tp K H v (blocksD bs) ∧ BlocksOk bs ∧ ∀ H', Same H H' → Q .non H'
theorem sc_needblocks : FnScope ["blocks", "index", "sizes", "size"] ["blocks"] (defScope sNeedBlocks) := ⟨rfl, rfl, rfl, by decide +kernel, rfl, by decide +kernel, by decide +kernel⟩
theorem ok_needblocks (D : Df K mg "need_blocks" sNeedBlocks) (B : Blt mg) (c1 : Cl P w K mg base 1 "is_list" (spIsList K)) (c2 : Cl P w K mg base 3 "is_size" (spIsSize K)) : Cl P w K mg base 4 "need_blocks" (spNeedBlocks K) := by
  refine D.ok sc_needblocks (fun vs H Q E h => ?_) (fun _ _ _ _ _ _ us hl => match us, hl with | [_], _ => rfl) (fun f cdv A outer s H vs Q E hr h => ?_)
  · obtain ⟨v, bs, rfl, _⟩ := h
    rfl
  obtain ⟨v, bs, rfl, tb, W, q⟩ := h
  obtain ⟨a, xs, rfl, ha, tx⟩ := tp_tup tb
  obtain ⟨t8, m8⟩ := B.b8
  obtain ⟨t6, m6⟩ := B.b6
  have nd := sc_needblocks.nd
  refine ⟨_, pss_cons (ps_if (pt_not (pt_val (pe_cl c1 hr (by decide) (by rfl) (pa_cons (pv 0) (pa_cons pe_int (pa_cons (pe_glob (v := .int 8) (by rfl) m8 ⟨_, rfl⟩) pa_nil)))))) (pss_one ps_never) pss_nil)
    (pss_one (ps_for PassesOwn.never rfl (pi_enumT (by rfl) B.enum (pa_cons (pv 0) pa_nil)) (pg_tup rfl (pgs_cons (pg_name (i := 1) nd rfl (.inl rfl)) (pgs_cons (pg_name (i := 2) nd rfl (.inl rfl)) pgs_nil)))
      (pss_one (ps_if (PW.pt (pw_or (pt_not (pt_val (pe_cl c1 hr (by decide) (by rfl) (pa_cons (pv 2) (pa_cons pe_int (pa_cons (pe_glob (v := .int 6) (by rfl) m6 ⟨_, rfl⟩) pa_nil))))))
        (pw_or1 (pt_not (pt_val (pe_callB (cr_all rfl) (by rfl) B.all bt_all (pa_cons (pe_lc (own := [("size", 3)]) (g := gName 3) (tt := tYes) rfl nd (pi_tup (pv 2)) (blkOk_by (N := ["blocks", "index", "sizes", "size"]) (sc := defScope sNeedBlocks) (by decide +kernel))
          (fun _ _ _ _ _ => pg_name (i := 3) nd rfl (Or.inl rfl)) (fun _ _ _ _ _ => pts_nil)
          (fun _ _ _ _ _ => pe_cl c2 hr (by decide) (by rfl) (pa_cons (pv 3) pa_nil))) pa_nil))))))) (pss_one ps_never) pss_nil)))), ?_⟩
  have lx := tpa_len tx
  rw [List.length_map] at lx
  have hpos := W.pos
  have hmost := W.most
  refine ⟨_, rfl, a, xs, 1, 8, rfl, ha, _, rfl, ?_⟩
  rw [decide_eq_true (show (1 : Int) ≤ (xs.length : Int) by omega), decide_eq_true (show (xs.length : Int) ≤ 8 by omega)]
  refine iteF ?_
  refine ⟨_, rfl, a, xs, rfl, ha, ?_⟩
  refine for_it (walk_enumT (K := K) (a := a) (xs := xs)) (fun i σ H' => ∃ (y1 y2 y3 : Option V), σ = [some (.ref a), y1, y2, y3] ∧ Same H H') ⟨_, _, _, rfl, Same.refl _⟩ (fun i σ H' _ ⟨_, _, _, _, s1⟩ => same_sqT s1 ha) ?_ ?_
  · rintro i x σ H' H'' hi ⟨y1, y2, y3, rfl, s1⟩ ⟨p, x1, x2, rfl, np, rfl, g1, g2⟩
    cases g1
    have s2 : Same H' (upd H' p (.tup [.int (i : Nat), x2])) := same_new np
    obtain ⟨ss, hss, ts⟩ := bl_at tx g2
    obtain ⟨⟨l1, l2⟩, sides⟩ := W.each ss (List.mem_of_getElem? hss)
    obtain ⟨b, zs, rfl, hb, tz⟩ := tp_tup (tp_kp ts (kp_same (s1.trans s2)))
    have lz := tpa_len tz
    rw [List.length_map] at lz
    refine ⟨p, [.int (i : Nat), .ref b], rfl, SqT.of upd_same, rfl, _, _, rfl, _, _, rfl, rfl, ?_⟩
    refine ⟨_, rfl, b, zs, 1, 6, rfl, hb, _, rfl, ?_⟩
    rw [decide_eq_true (show (1 : Int) ≤ (zs.length : Int) by omega), decide_eq_true (show (zs.length : Int) ≤ 6 by omega)]
    refine iteF ?_
    refine ⟨_, rfl, b, rfl, ⟨_, hb⟩, fun Dl hD => lc_tup (K := K) (a := b) (xs := zs) (Trues (upd H' p (.tup [.int (i : Nat), .ref b])) Dl) (Trues.zero hD) (fun i H' _ t => same_sqT t.1 hb) ?_ ?_⟩
    · intro j x H3 hx t
      have hj : j < zs.length := (List.getElem?_eq_some_iff.mp hx).1
      obtain ⟨sz, hsz, tsz⟩ := sz_at tz hx
      exact ⟨rfl, _, rfl, x, sz, rfl, tp_kp tsz (kp_same t.1), sides sz (List.mem_of_getElem? hsz), fun H4 s4 => t.more hD s4 (by omega)⟩
    · rintro H3 ⟨s5, hl⟩
      obtain ⟨e1, e2⟩ := all_true zs.length
      refine ⟨Dl, List.replicate zs.length true, rfl, ?_, true, ?_, ?_⟩
      · rw [e1]
        exact .inl (.inl hl)
      · rw [e2]
      · exact iteF ⟨_, _, _, rfl, s1.trans (s2.trans s5)⟩
  · rintro σ H' ⟨_, _, _, rfl, s1⟩
    exact q H' s1

/-! ### need_fit -/
def spNeedFit (K : PySem.W.Frag) : Sp := fun vs H Q _ => ∃ vb vw bs wd t, vs = [vb, vw] ∧ Tp K H vb (blocksD bs) ∧ Tp K H vw (wordD wd) ∧ BlocksOk bs ∧ WordOk wd t bs.length ∧ ∀ H', Same H H' → Q .non H'
theorem sc_needfit : FnScope ["blocks", "word"] ["blocks", "word"] (defScope sNeedFit) := ⟨rfl, rfl, rfl, by decide +kernel, rfl, by decide +kernel, by decide +kernel⟩
theorem ok_needfit (D : Df K mg "need_fit" sNeedFit) (B : Blt mg) (c1 : Cl P w K mg base 4 "need_blocks" (spNeedBlocks K)) (c2 : Cl P w K mg base 4 "need_word" (spNeedWord K)) : Cl P w K mg base 5 "need_fit" (spNeedFit K) := by
  refine D.ok sc_needfit (fun vs H Q E h => ?_) (fun _ _ _ _ _ _ us hl => match us, hl with | [_, _], _ => rfl) (fun f cdv A outer s H vs Q E hr h => ?_)
  · obtain ⟨vb, vw, bs, wd, t, rfl, _⟩ := h
    rfl
  obtain ⟨vb, vw, bs, wd, t, rfl, tb, tw, W, WW, q⟩ := h
  refine ⟨_, pss_cons (ps_expr (pe_cl c1 hr (by decide) (by rfl) (pa_cons (pv 0) pa_nil)))
    (pss_cons (ps_expr (pe_cl c2 hr (by decide) (by rfl) (pa_cons (pv 1) pa_nil)))
    (pss_one (ps_if (pt_cmpR op_ne (pe_callB call_len_seq (by rfl) B.len bt_len (pa_cons (pv 1) pa_nil)) (pe_op op_sub (pe_op op_mul pe_int (pe_callB call_len_seq (by rfl) B.len bt_len (pa_cons (pv 0) pa_nil))) pe_int) (nomark _))
      (pss_one ps_never) pss_nil))), ?_⟩
  refine ⟨_, rfl, vb, bs, rfl, tb, W, fun H1 s1 => ?_⟩
  refine ⟨_, rfl, vw, wd, t, bs.length, rfl, tp_kp tw (kp_same s1), WW, W.most, fun H2 s2 => ?_⟩
  have s12 := s1.trans s2
  obtain ⟨a, xs, rfl, ha, tx⟩ := tp_tup tb
  obtain ⟨b, ys, rfl, hb, ty⟩ := tp_tup tw
  have lx := tpa_len tx
  have ly := tpa_len ty
  rw [List.length_map] at lx ly
  have hw := WW.len
  have hp := WW.pos
  refine ⟨_, rfl, b, ys, rfl, .inr (same_sqT s12 hb), _, rfl, a, xs, rfl, .inr (same_sqT s12 ha), 2, _, rfl, rfl, .inl ⟨by decide, by decide⟩, _, 1, rfl, rfl, rfl, _, rfl, ?_⟩
  have e : decide (V.int (ys.length : Int) = V.int (2 * (xs.length : Int) - 1)) = true := decide_eq_true (congrArg V.int (by omega))
  refine isTrue_iff (fun z => ?_) (fun _ => q H2 s12)
  have z' : (!decide (V.int (ys.length : Int) = V.int (2 * (xs.length : Int) - 1))) = true := z
  rw [e] at z'
  cases z'
end
end K4
set_option maxHeartbeats 4000000
/-! kept, curve_of -/
namespace K4
open PySem PySem.Spec PyProof.Rows L2
section
variable {P : Program} {w : World} {K : PySem.W.Frag} {mg : Str → Option Value} {base : Heap}

/-! ### kept -/
/-- a row: two numbers, then more -/
def encR {α : Type} (more : α → List PyData) (x : Sz × α) : PyData := .tuple (.int x.1.1 :: .int x.1.2 :: more x.2)
theorem lay_all : ∀ {ds : List PyData}, (∀ d ∈ ds, d.canLay0 = true) → PyData.canLayAll0 ds = true
  | [], _ => by simp [PyData.canLayAll0]
  | d :: ds, h => by
    have a := h d List.mem_cons_self
    have b := lay_all fun e he => h e (List.mem_cons_of_mem d he)
    simp [PyData.canLayAll0, a, b]
theorem depth_all {n : Nat} : ∀ {ds : List PyData}, (∀ d ∈ ds, d.depth ≤ n) → PyData.depthAll ds ≤ n
  | [], _ => by simp [PyData.depthAll]
  | d :: ds, h => by
    have a := h d List.mem_cons_self
    have b := depth_all fun e he => h e (List.mem_cons_of_mem d he)
    simp only [PyData.depthAll]
    omega
/-- a list of data may be compared -/
theorem shaped_list {ds : List PyData} (hd : ∀ d ∈ ds, d.canLay0 = true ∧ d.depth ≤ 60) : SeqAt.shaped (.list ds) = true := by
  have a := lay_all fun d h => (hd d h).1
  have b := depth_all fun d h => (hd d h).2
  have c : (PyData.list ds).canLay0 = true := by simpa [PyData.canLay0] using a
  have e : (PyData.list ds).depth ≤ 64 := by
    simp only [PyData.depth]
    omega
  show ((PyData.list ds).canLay0 && decide ((PyData.list ds).depth ≤ 64)) = true
  rw [c, decide_eq_true e]
  rfl
theorem shaped_nil : SeqAt.shaped (.list []) = true := rfl
theorem eqv_nil : ∀ ds : List PyData, PyData.eqv (.list ds) (.list []) = ds.isEmpty
  | [] => by simp [PyData.eqv, PyData.eqvAll]
  | d :: ds => by simp [PyData.eqv, PyData.eqvAll]
theorem tp_hd {H : Hp} {v : V} {a b : Int} {r : List PyData} (h : Tp K H v (.tuple (.int a :: .int b :: r))) : Hd K H v (a, b) := by
  obtain ⟨p, xs, rfl, hs, tx⟩ := tp_tup h
  cases tx with
  | cons h1 h2 =>
    cases h2 with
    | cons h3 h4 =>
      obtain rfl := tp_int h1
      obtain rfl := tp_int h3
      exact ⟨p, _, rfl, hs⟩
def spKept (K : PySem.W.Frag) : Sp := fun vs H Q _ => ∃ (α : Type) (more : α → List PyData) (a : Addr) (xs : List V) (bs : List (Sz × α)), vs = [.ref a] ∧ SqL K H a xs ∧ TpAll K H xs (bs.map (encR more)) ∧
  (∀ x y, PySem.W.alikeAll (more x) (more y) = true) ∧ (∀ b ∈ bs, (encR more b).canLay0 = true ∧ (encR more b).depth ≤ 50) ∧ bs.length ≤ 1000 ∧
  ∀ p ys srt H', H p = none → Same H H' → H' p = some (.lst ys) → TpAll K H' ys ((scan srt).map (encR more)) → srt.Perm bs → srt.Pairwise (fun a b => lxe a.1 b.1) → Q (.ref p) H'
theorem sc_kept : FnScope ["rows", "found", "row"] ["rows"] (defScope sKept) := ⟨rfl, rfl, rfl, by decide +kernel, rfl, by decide +kernel, by decide +kernel⟩
theorem ok_kept (D : Df K mg "kept" sKept) (B : Blt mg) : Cl P w K mg base 1 "kept" (spKept K) := by
  refine D.ok sc_kept (fun vs H Q E h => ?_) (fun _ _ _ _ _ _ us hl => match us, hl with | [_], _ => rfl) (fun f cdv A outer s H vs Q E hr h => ?_)
  · obtain ⟨α, more, a, xs, bs, rfl, _⟩ := h
    rfl
  obtain ⟨α, more, a, xs, bs, rfl, ha, tx, hal, hdp, hlen, q⟩ := h
  have hu := hr.units
  have nd := sc_kept.nd
  refine ⟨_, pss_cons (ps_set (i := 1) nd rfl (.inl rfl) (pe_lst pa_nil))
    (pss_cons (ps_for PassesOwn.never rfl (pi_list (pe_callB (cr_sortD (enc := encR more) hu) (by rfl) B.sorted bt_sorted (pa_cons (pv 0) pa_nil))) (pg_name (i := 2) nd rfl (.inl rfl))
      (pss_one (ps_if (PW.pt (pw_or (pt_cmpR (op_eqD hu) (pv 1) (pe_lst pa_nil) (nomark _))
          (pw_or1 (pt_cmpR op_lt (pe_ix ix_tup (pv 2) pe_int (fun _ _ => rfl)) (pe_ix ix_tup (pe_ix ix_list (pv 1) (pe_un un_neg pe_int) (fun _ _ => rfl)) pe_int (fun _ _ => rfl)) (nomark _)))))
        (pss_one (ps_expr (pe_bm PySem.F.plainAttrs_list PySem.F.slot_list_append PySem.F.type_list_append mt_append (pv 1) (pa_cons (pv 2) pa_nil)))) pss_nil)))
    (pss_one (ps_ret (pv 1)))), ?_⟩
  refine ⟨Nat.zero_le _, fun fd hfd => ?_⟩
  have s1 : Same H (upd H fd (.lst [])) := same_new hfd
  refine ⟨_, rfl, a, xs, bs, rfl, s1.seq ha, tpa_kp tx (kp_same s1), ?_, .inl fun d hd => ?_, fun b hb => ?_, fun p ys np ty => ?_⟩
  · intro d hd d' hd'
    obtain ⟨x, _, rfl⟩ := List.mem_map.mp hd
    obtain ⟨y, _, rfl⟩ := List.mem_map.mp hd'
    have z := hal x.2 y.2
    simp [encR, PySem.W.alike, PySem.W.alikeAll, z]
  · obtain ⟨x, _, rfl⟩ := List.mem_map.mp hd
    exact ⟨_, _, rfl⟩
  · have z := (hdp b hb).2
    omega
  obtain ⟨srt, esrt⟩ : ∃ srt, srt = bs.mergeSort (PySem.W.dataLe false (encR more)) := ⟨_, rfl⟩
  have hperm : srt.Perm bs := by rw [esrt]; exact List.mergeSort_perm _ _
  have hord : srt.Pairwise (fun a b => lxe a.1 b.1) := by
    rw [esrt]
    exact sorted_order (sz := fun x : Sz × α => x.1) (more := fun x => more x.2) (fun b => rfl) bs
  rw [← esrt] at ty
  have hdp2 : ∀ f : List (Sz × α), (∀ x ∈ f, x ∈ srt) → ∀ d ∈ f.map (encR more), d.canLay0 = true ∧ d.depth ≤ 60 := fun f hf d hd => by
    obtain ⟨x, hx, rfl⟩ := List.mem_map.mp hd
    have z := hdp x (hperm.mem_iff.mp (hf x hx))
    exact ⟨z.1, by omega⟩
  have npf : p ≠ fd := fun e => by
    rw [e, upd_same] at np
    cases np
  have s2 : Same H (upd (upd H fd (.lst [])) p (.lst ys)) := s1.trans (same_new np)
  have ly := tpa_len ty
  rw [List.length_map] at ly
  have lsrt : srt.length ≤ 1000 := by rw [hperm.length_eq]; exact hlen
  refine ⟨p, rfl, ⟨ys, .inl (.inl upd_same)⟩, for_list (K := K) (a := p) (xs := ys) (fun i σ H' => ∃ (fs : List V) (y2 : Option V), σ = [some (.ref a), some (.ref fd), y2] ∧ Same H H' ∧ H' p = some (.lst ys) ∧ H' fd = some (.lst fs) ∧
      TpAll K H' ys (srt.map (encR more)) ∧ TpAll K H' fs ((scan (srt.take i)).map (encR more)))
    ⟨[], none, rfl, s2, upd_same, by rw [upd_ne npf.symm, upd_same], tpa_kp ty (kp_new np), .nil⟩ (fun i σ H' _ ⟨_, _, _, _, h, _⟩ => .inl (.inl h)) ?_ ?_⟩
  · rintro i x σ H' hx ⟨fs, y2, rfl, sm, hp, hf, tys, tfs⟩
    obtain ⟨d, hd, tx'⟩ := tpa_at tys hx
    rw [List.getElem?_map] at hd
    obtain ⟨row, hrow, rfl⟩ := Option.map_eq_some_iff.mp hd
    have hi : i < srt.length := (List.getElem?_eq_some_iff.mp hrow).1
    have lf := tpa_len tfs
    rw [List.length_map] at lf
    have lscan : (scan (srt.take i)).length ≤ 1000 := by
      have z := scan_len _ (srt.take i) rfl
      rw [List.length_take] at z
      omega
    have sub : ∀ x ∈ scan (srt.take i), x ∈ srt := fun x hx => by
      have kk := kept_scan _ (srt.take i) rfl (hord.sublist (List.take_sublist _ _))
      exact List.mem_of_mem_take (kk.sub x hx)
    -- found == []
    refine ⟨_, rfl, Nat.zero_le _, fun e he => ?_⟩
    have se : Same H' (upd H' e (.lst [])) := same_new he
    refine ⟨.list ((scan (srt.take i)).map (encR more)), .list [], .lst (.inl (.inl (se _ _ hf))) (tpa_dp (tpa_kp tfs (kp_same se))), .lst (.inl (.inl upd_same)) .nil, shaped_list (hdp2 _ sub), shaped_nil, _, rfl, ?_⟩
    rw [eqv_nil]
    have hp1 := se _ _ hp
    have hf1 := se _ _ hf
    have tys1 := tpa_kp tys (kp_same se)
    have tfs1 := tpa_kp tfs (kp_same se)
    have tx1 := tp_kp tx' (kp_same se)
    -- the row is kept
    have keep : scan (srt.take (i + 1)) = scan (srt.take i) ++ [row] → ∃ (fs' : List V) (y2 : Option V), [some (V.ref a), some (V.ref fd), some x] = [some (V.ref a), some (V.ref fd), y2] ∧ Same H (upd (upd H' e (.lst [])) fd (.lst (fs ++ [x]))) ∧ (upd (upd H' e (.lst [])) fd (.lst (fs ++ [x]))) p = some (.lst ys) ∧
        (upd (upd H' e (.lst [])) fd (.lst (fs ++ [x]))) fd = some (.lst fs') ∧ TpAll K (upd (upd H' e (.lst [])) fd (.lst (fs ++ [x]))) ys (srt.map (encR more)) ∧ TpAll K (upd (upd H' e (.lst [])) fd (.lst (fs ++ [x]))) fs' ((scan (srt.take (i + 1))).map (encR more)) := fun es => by
      refine ⟨fs ++ [x], some x, rfl, same_mut (sm.trans se) hfd, by rw [upd_ne npf]; exact hp1, upd_same, tpa_kp tys1 (kp_lst hf1), ?_⟩
      rw [es, List.map_append]
      exact tpa_snoc (tpa_kp tfs1 (kp_lst hf1)) (tp_kp tx1 (kp_lst hf1))
    have drop : scan (srt.take (i + 1)) = scan (srt.take i) → ∃ (fs' : List V) (y2 : Option V), [some (V.ref a), some (V.ref fd), some x] = [some (V.ref a), some (V.ref fd), y2] ∧ Same H (upd H' e (.lst [])) ∧ (upd H' e (.lst [])) p = some (.lst ys) ∧
        (upd H' e (.lst [])) fd = some (.lst fs') ∧ TpAll K (upd H' e (.lst [])) ys (srt.map (encR more)) ∧ TpAll K (upd H' e (.lst [])) fs' ((scan (srt.take (i + 1))).map (encR more)) := fun es =>
      ⟨fs, some x, rfl, sm.trans se, hp1, hf1, tys1, by rw [es]; exact tfs1⟩
    have hst := scan_take hrow
    rcases List.eq_nil_or_concat (scan (srt.take i)) with en | ⟨f', z, en⟩
    · have est : scan (srt.take (i + 1)) = scan (srt.take i) ++ [row] := by rw [hst, en]; rfl
      rw [en]
      refine iteT (iteT ?_)
      exact ⟨_, rfl, .inl ⟨rfl, _, .inl (.inl hf1)⟩, _, rfl, fd, _, _, rfl, rfl, hf1, small1000 (by omega), keep est⟩
    · have en' : scan (srt.take i) = f' ++ [z] := by simpa using en
      have tfs2 := tfs1
      rw [en', List.map_append] at tfs2
      obtain ⟨v1, v2, ev, tv1, tv2⟩ := tpa_split tfs2
      obtain ⟨vz, ez, tz⟩ := tpa_single tv2
      subst ez
      subst ev
      obtain ⟨b, rb, rfl, hb⟩ := tp_hd tz
      obtain ⟨c, rc, rfl, hc⟩ := tp_hd tx1
      have est : scan (srt.take (i + 1)) = if row.1.2 < z.1.2 then scan (srt.take i) ++ [row] else scan (srt.take i) := by
        rw [hst, en']
        unfold step
        rw [List.getLast?_concat]
      have ne : ((scan (srt.take i)).map (encR more)).isEmpty = false := by
        rw [en']
        simp
      rw [ne]
      refine iteF ?_
      refine ⟨_, rfl, c, _, 1, _, rfl, rfl, hc, at1 _ _ _, _, rfl, 1, rfl, fd, _, -1, .ref b, rfl, rfl, .inl (.inl hf1), atI_last _ _, b, _, 1, _, rfl, rfl, hb, at1 _ _ _, _, _, rfl, rfl, _, rfl, ?_⟩
      refine isTrue_iff (fun cc => ?_) (fun cc => ?_)
      · rw [if_pos (of_decide_eq_true cc)] at est
        exact ⟨_, rfl, .inl ⟨rfl, _, .inl (.inl hf1)⟩, _, rfl, fd, _, _, rfl, rfl, hf1, small1000 (by omega), keep est⟩
      · rw [if_neg (of_decide_eq_false cc)] at est
        exact drop est
  · rintro σ H' ⟨fs, y2, rfl, sm, hp, hf, tys, tfs⟩
    rw [ly, List.take_length] at tfs
    exact ⟨_, rfl, q fd fs srt H' hfd sm hf tfs hperm hord⟩
end
end K4
set_option maxHeartbeats 4000000
/-! curve_of -/
namespace K4
open PySem PySem.Spec PyProof.Rows L2
section
variable {P : Program} {w : World} {K : PySem.W.Frag} {mg : Str → Option Value} {base : Heap}

/-! ### tuple([row[:2] for row in rows]) -/
/-- t[:2] of a row is its size -/
theorem cut_two {α : Type} {more : α → List PyData} {H : Hp} {x : V} {r : Sz × α} {Q : VK} (h : Tp K H x (encR more r)) (q : ∀ v H', Same H H' → Tp K H' v (szD r.1) → Q v H') : rSlA K x none (some 2) H Q := by
  obtain ⟨a, xs, rfl, hs, tx⟩ := tp_tup h
  have two : ∀ {xs : List V}, TpAll K H xs (.int r.1.1 :: .int r.1.2 :: more r.2) → ∃ rest, xs = .int r.1.1 :: .int r.1.2 :: rest := fun tx => by
    cases tx with
    | cons h1 h2 =>
      cases h2 with
      | cons h3 h4 =>
        obtain rfl := tp_int h1
        obtain rfl := tp_int h3
        exact ⟨_, rfl⟩
  obtain ⟨rest, rfl⟩ := two tx
  have e0 : HT.sIx (V.int r.1.1 :: V.int r.1.2 :: rest).length 0 none = 0 := rfl
  have e2 : HT.sIx (V.int r.1.1 :: V.int r.1.2 :: rest).length (V.int r.1.1 :: V.int r.1.2 :: rest).length (some 2) = 2 := by
    rw [show ((2 : Int)) = ((2 : Nat) : Int) from rfl, HT.sIx_nat]
    simp only [List.length_cons]
    omega
  refine ⟨a, _, rfl, hs, fun hw => ?_, fun _ p np => ?_⟩
  · rw [e2] at hw
    have hl : rest.length = 0 := by
      have z := hw.2
      simp only [List.length_cons] at z
      omega
    have er := List.eq_nil_of_length_eq_zero hl
    subst er
    exact q _ _ (Same.refl _) (.tup hs (.cons (.int _) (.cons (.int _) .nil)))
  · have ec : cutV (V.int r.1.1 :: V.int r.1.2 :: rest) none (some 2) = [.int r.1.1, .int r.1.2] := by
      unfold cutV
      rw [e0, e2]
      rfl
    rw [ec]
    exact q _ _ (same_new np) (tp_new np (.cons (.int _) (.cons (.int _) .nil)))
theorem wipe_set {σ : L2.St} {j : Nat} {x : V} : wipe ((wipe σ [j]).set j (some x)) [j] = wipe σ [j] := by
  show ((σ.set j none).set j (some x)).set j none = σ.set j none
  rw [List.set_set, List.set_set]
theorem wipe_get {σ : L2.St} {j : Nat} {x : V} (h : j < σ.length) : ((wipe σ [j]).set j (some x))[j]? = some (some x) := by
  show ((σ.set j none).set j (some x))[j]? = _
  rw [List.getElem?_set_self (by rw [List.length_set]; exact h)]
/-- the comprehension, over rows at p -/
theorem cut_rows {α : Type} {more : α → List PyData} {σ : L2.St} {H : Hp} {j : Nat} {p Dl : Addr} {ys : List V} {rs : List (Sz × α)} {Qd : Hp → Prop} (hj : j < σ.length) (hp : H p = some (.lst ys)) (ty : TpAll K H ys (rs.map (encR more))) (hD : H Dl = none) (hlen : rs.length ≤ 1000)
    (hq : ∀ zs H', Same H H' → H' Dl = some (.lst zs) → TpAll K H' zs ((rs.map Prod.fst).map szD) → Qd H') :
    ∃ W : Nat → Nat → Hp → Prop, (∃ m, W 0 m (upd H Dl (.lst []))) ∧ ∀ i m H, W i m H →
      ((Itl K p).stop i H ∧ Qd H) ∨ ((Itl K p).go i H ∧ ∃ Nx : Hp → Prop, (∀ H', Nx H' → ∃ m', m' < m ∧ W (i + 1) m' H') ∧ ∀ x H', (Itl K p).yld i H x H' → gName j x (wipe σ [j]) H' fun σ2 H2 => wipe σ2 [j] = wipe σ [j] ∧ tYes σ2 H2 fun b H3 =>
        if b = true then tSl (rSlA K) (tVar j) tNoPart (tPart (tC (.int 2))) σ2 H3 fun y H4 => ∃ acc, H4 Dl = some (.lst acc) ∧ acc.length < sizeLine ∧ Nx (upd H4 Dl (.lst (acc ++ [y]))) else Nx H3) := by
  have ly := tpa_len ty
  rw [List.length_map] at ly
  refine lc_list (K := K) (a := p) (xs := ys) (fun i H' => Same H H' ∧ ∃ zs, H' Dl = some (.lst zs) ∧ zs.length = i ∧ TpAll K H' zs (((rs.take i).map Prod.fst).map szD)) ⟨same_new hD, [], upd_same, rfl, .nil⟩ (fun i H' _ t => .inl (.inl (t.1 _ _ hp))) ?_ ?_
  · rintro i x H' hx ⟨sm, zs, hz, lz, tz⟩
    have hi : i < ys.length := (List.getElem?_eq_some_iff.mp hx).1
    obtain ⟨d, hd, tx⟩ := tpa_at ty hx
    rw [List.getElem?_map] at hd
    obtain ⟨row, hrow, rfl⟩ := Option.map_eq_some_iff.mp hd
    refine ⟨wipe_set, _, wipe_get hj, 2, rfl, cut_two (tp_kp tx (kp_same sm)) fun v H3 s3 tv => ⟨zs, s3 _ _ hz, small1000 (by omega), same_mut (sm.trans s3) hD, zs ++ [v], upd_same, ?_, ?_⟩⟩
    · rw [List.length_append, lz]
      rfl
    · have k : Kp K H3 (upd H3 Dl (.lst (zs ++ [v]))) := kp_lst (s3 _ _ hz)
      rw [List.take_succ, hrow, List.map_append, List.map_append]
      exact tpa_snoc (tpa_kp tz ((kp_same s3).trans k)) (tp_kp tv k)
  · rintro H' ⟨sm, zs, hz, lz, tz⟩
    rw [ly, List.take_length] at tz
    exact hq zs H' sm hz tz

def noMore (_ : Unit) : List PyData := []
theorem szD_enc (p : Sz) : szD p = encR noMore (p, ()) := rfl
theorem map_enc (ss : List Sz) : ss.map szD = (ss.map fun p => (p, ())).map (encR noMore) := by
  rw [List.map_map]
  rfl
def spCurveOf (K : PySem.W.Frag) : Sp := fun vs H Q _ => ∃ v ss, vs = [v] ∧ Tp K H v (sizesD ss) ∧ (1 ≤ ss.length ∧ ss.length ≤ 6) ∧ (∀ p ∈ ss, SideOk p) ∧
  ∀ v' H' l, Same H H' → Tp K H' v' (sizesD l) → Front l (fun p => p ∈ ss) → Q v' H'
theorem sc_curveof : FnScope ["sizes", "row"] ["sizes"] (defScope sCurveOf) := ⟨rfl, rfl, rfl, by decide +kernel, rfl, by decide +kernel, by decide +kernel⟩
theorem ok_curveof (D : Df K mg "curve_of" sCurveOf) (B : Blt mg) (c1 : Cl P w K mg base 4 "need_blocks" (spNeedBlocks K)) (c2 : Cl P w K mg base 1 "kept" (spKept K)) : Cl P w K mg base 5 "curve_of" (spCurveOf K) := by
  refine D.ok sc_curveof (fun vs H Q E h => ?_) (fun _ _ _ _ _ _ us hl => match us, hl with | [_], _ => rfl) (fun f cdv A outer s H vs Q E hr h => ?_)
  · obtain ⟨v, ss, rfl, _⟩ := h
    rfl
  obtain ⟨v, ss, rfl, tv, hlen, hside, q⟩ := h
  have nd := sc_curveof.nd
  refine ⟨_, pss_cons (ps_expr (pe_cl c1 hr (by decide) (by rfl) (pa_cons (pe_tup (pa_cons (pv 0) pa_nil)) pa_nil)))
    (pss_one (ps_ret (pe_callTy call_tuple_of (by rfl) B.tuple bt_tuple (pa_cons (pe_lc (own := [("row", 1)]) (g := gName 1) (tt := tYes) rfl nd
        (pi_list (pe_cl c2 hr (by decide) (by rfl) (pa_cons (pe_callTy call_list_of (by rfl) B.list bt_list (pa_cons (pv 0) pa_nil)) pa_nil))) (blkOk_by (N := ["sizes", "row"]) (sc := defScope sCurveOf) (by decide +kernel))
        (fun _ _ _ _ _ => pg_name (i := 1) nd rfl (Or.inl rfl)) (fun _ _ _ _ _ => pts_nil) (fun _ _ _ _ _ => pe_slice (r := rSlA K) (show SlR _ (rSlA K) from sl_tupA) (pv 1) po_none (po_some pe_int))) pa_nil)))), ?_⟩
  -- need_blocks((sizes,))
  refine ⟨_, rfl, by show 1 ≤ sizeLine; decide, fun p1 n1 => ?_⟩
  have s1 : Same H (upd H p1 (.tup [v])) := same_new n1
  refine ⟨_, [ss], rfl, tp_new n1 (tpa_one tv), ⟨Nat.le_refl _, by show 1 ≤ 8; decide, fun x hx => ?_⟩, fun H2 s2 => ?_⟩
  · rw [List.mem_singleton.mp hx]
    exact ⟨hlen, hside⟩
  have s12 := s1.trans s2
  obtain ⟨a, xs, rfl, ha, tx⟩ := tp_tup tv
  refine ⟨_, rfl, a, xs, rfl, .inr (same_sqT s12 ha), fun l nl => ?_⟩
  have s3 : Same H2 (upd H2 l (.lst xs)) := same_new nl
  refine ⟨Unit, noMore, l, xs, ss.map fun p => (p, ()), rfl, .inl (.inl upd_same), ?_, fun _ _ => rfl, fun b hb => ⟨rfl, ?_⟩, ?_, fun p ys srt H4 _ s4 hp ty hperm hord => ?_⟩
  · rw [← map_enc]
    exact tpa_kp tx (kp_same (s12.trans s3))
  · obtain ⟨z, _, rfl⟩ := List.mem_map.mp hb
    show (PyData.tuple [.int z.1, .int z.2]).depth ≤ 50
    simp [PyData.depth, PyData.depthAll]
  · rw [List.length_map]
    omega
  have fr := scan_front hord hperm
  have lsc : (scan srt).length ≤ 1000 := by
    have z := scan_len _ srt rfl
    have z2 := hperm.length_eq
    rw [List.length_map] at z2
    omega
  refine ⟨p, rfl, ⟨ys, .inl (.inl hp)⟩, fun Dl hD => cut_rows (show (1:Nat) < 2 by decide) hp ty hD lsc fun zs H5 s5 hz tz => ?_⟩
  refine ⟨Dl, zs, rfl, .inl ⟨.inl (.inl hz), fun t nt => ?_⟩⟩
  refine q _ _ ((scan srt).map Prod.fst) ((s12.trans s3).trans (s4.trans (s5.trans (same_new nt)))) (tp_new nt tz) (fr.lean (fun p ⟨x, hx, e⟩ => ?_) fun b hb => ?_)
  · obtain ⟨z, hz, rfl⟩ := List.mem_map.mp hx
    rw [← e]
    exact hz
  · exact ⟨b, ⟨(b, ()), List.mem_map.mpr ⟨b, hb, rfl⟩, rfl⟩, le_refl b⟩
end
end K4
set_option maxHeartbeats 4000000
/-! curve_in, curve -/
namespace K4
open PySem PySem.Spec PyProof.Rows L2 StX
section
variable {P : Program} {w : World} {K : PySem.W.Frag} {mg : Str → Option Value} {base : Heap}

def moreC (c : List (Nat × Nat)) : List PyData := [.tuple (c.map pairD)]
theorem rowD_enc (r : Row) : rowD r = encR moreC r := rfl
theorem map_rowD (rs : List Row) : rs.map rowD = rs.map (encR moreC) := rfl
theorem alike_pairs : ∀ x y : List (Nat × Nat), PySem.W.alikeAll (x.map pairD) (y.map pairD) = true
  | [], _ => by simp [PySem.W.alikeAll]
  | _ :: _, [] => by simp [PySem.W.alikeAll]
  | a :: x, b :: y => by
    have z := alike_pairs x y
    simp only [List.map_cons, PySem.W.alikeAll, z, Bool.and_true]
    simp [pairD, PySem.W.alike, PySem.W.alikeAll]
theorem alike_moreC (x y : List (Nat × Nat)) : PySem.W.alikeAll (moreC x) (moreC y) = true := by
  have z := alike_pairs x y
  simp [moreC, PySem.W.alike, PySem.W.alikeAll, z]
theorem row_lay (r : Row) : (encR moreC r).canLay0 = true ∧ (encR moreC r).depth ≤ 50 := by
  have a : PyData.canLayAll0 (r.2.map pairD) = true := lay_all fun d hd => by
    obtain ⟨x, _, rfl⟩ := List.mem_map.mp hd
    simp [pairD, PyData.canLay0, PyData.canLayAll0]
  have b : PyData.depthAll (r.2.map pairD) ≤ 4 := depth_all fun d hd => by
    obtain ⟨x, _, rfl⟩ := List.mem_map.mp hd
    simp [pairD, PyData.depth, PyData.depthAll]
  constructor
  · simp [encR, moreC, PyData.canLay0, PyData.canLayAll0, a]
  · simp only [encR, moreC, PyData.depth, PyData.depthAll]
    omega
/-- a node's front from the rows of its parts -/
theorem node_front {bs : List (List Sz)} {h : Bool} {l r : T} {f m : List Sz} (F : Front f (Has bs l)) (hg : f ≠ [] → ∃ g, Front g (Has bs r))
    (M : Front m fun p => ∃ a ∈ f, ∃ b, Least (Has bs r) b ∧ p = put h a b) : Front m (Has bs (.node h l r)) := by
  refine M.lean (fun p ⟨a, ha, b, hb, e⟩ => ⟨a, b, F.sub a ha, hb.1, e⟩) fun p ⟨p1, p2, h1, h2, e⟩ => ?_
  obtain ⟨a, ha, ea⟩ := F.cover p1 h1
  obtain ⟨g, G⟩ := hg (List.ne_nil_of_mem ha)
  obtain ⟨b, hb, eb⟩ := G.cover p2 h2
  refine ⟨put h a b, ⟨a, ha, b, (G.mem b).1 hb, rfl⟩, ?_⟩
  rw [e]
  exact put_mono ea eb
theorem row_at {H : Hp} {ys : List V} {rs : List Row} {i : Nat} {x : V} (h : TpAll K H ys (rs.map rowD)) (hx : ys[i]? = some x) : ∃ r, rs[i]? = some r ∧ Tp K H x (rowD r) := by
  obtain ⟨d, hd, tx⟩ := tpa_at h hx
  rw [List.getElem?_map] at hd
  obtain ⟨p, hp, e⟩ := Option.map_eq_some_iff.mp hd
  exact ⟨p, hp, by rw [e]; exact tx⟩
/-- a row's parts -/
theorem row_parts {H : Hp} {x : V} {r : Row} (h : Tp K H x (rowD r)) : ∃ a c cs, x = .ref a ∧ SqT K H a [.int r.1.1, .int r.1.2, .ref c] ∧ SqT K H c cs ∧ TpAll K H cs (r.2.map pairD) := by
  obtain ⟨a, xs, rfl, hs, tx⟩ := tp_tup h
  cases tx with
  | cons h1 h2 =>
    cases h2 with
    | cons h3 h4 =>
      obtain rfl := tp_int h1
      obtain rfl := tp_int h3
      obtain ⟨v, rfl, tv⟩ := tpa_single h4
      obtain ⟨c, cs, rfl, hc, tc⟩ := tp_tup tv
      exact ⟨a, c, cs, rfl, hs, hc, tc⟩

/-- the rows of a tree -/
structure RowsOk (bs : List (List Sz)) (t : T) (rs : List Row) : Prop where
  front : Front (rs.map Prod.fst) (Has bs t)
  len : rs.length ≤ 3 ^ (leaves t).length
  each : ∀ r ∈ rs, r.2.length = (leaves t).length
def spCurveIn (K : PySem.W.Frag) (n : Nat) : Sp := fun vs H Q _ => ∃ vb v bs t, vs = [vb, v] ∧ Tp K H vb (blocksD bs) ∧ Tp K H v (treeD t) ∧ depth t ≤ n ∧ (∀ b ∈ leaves t, b < bs.length) ∧ (∀ ss ∈ bs, ss.length ≤ 3) ∧ (leaves t).length ≤ 5 ∧
  ∀ p ys rs H', H p = none → Same H H' → H' p = some (.lst ys) → TpAll K H' ys (rs.map rowD) → RowsOk bs t rs → Q (.ref p) H'
theorem sc_curvein : FnScope ["blocks", "tree", "rows", "one", "other", "index", "size"] ["blocks", "tree"] (defScope sCurveIn) := ⟨rfl, rfl, rfl, by decide +kernel, rfl, by decide +kernel, by decide +kernel⟩
theorem depth_pos (t : T) : 1 ≤ depth t := by cases t <;> simp [depth]
/-- what kept's promise says of rows -/
theorem kept_len {rs srt : List Row} (hp : srt.Perm rs) : (scan srt).length ≤ rs.length ∧ ∀ r ∈ scan srt, lxe r.1 r.1 → True := ⟨by
  have z := scan_len _ srt rfl
  rw [hp.length_eq] at z
  exact z, fun _ _ _ => trivial⟩
theorem scan_sub {rs srt : List Row} (hp : srt.Perm rs) (ho : srt.Pairwise fun a b => lxe a.1 b.1) {r : Row} (h : r ∈ scan srt) : r ∈ rs := hp.mem_iff.mp ((kept_scan _ srt rfl ho).sub r h)
theorem pow_le {m n : Nat} (h : m ≤ n) : 3 ^ m ≤ 3 ^ n := Nat.pow_le_pow_right (by decide) h
theorem ok_curvein (D : Df K mg "curve_in" sCurveIn) (B : Blt mg) (c1 : Cl P w K mg base 1 "kept" (spKept K)) (c2 : Cl P w K mg base 1 "put" (spPut K)) : ∀ n, Cl P w K mg base (n + 1) "curve_in" (spCurveIn K n)
  | 0 => by
    refine D.ok sc_curvein (fun vs H Q E h => ?_) (fun _ _ _ _ _ _ us hl => match us, hl with | [_, _], _ => rfl) (fun f cdv A outer s H vs Q E hr h => ?_)
    · obtain ⟨vb, v, bs, t, rfl, _⟩ := h
      rfl
    · obtain ⟨vb, v, bs, t, rfl, _, _, hd, _⟩ := h
      have z := depth_pos t
      omega
  | n + 1 => by
    have ih := ok_curvein D B c1 c2 n
    refine D.ok sc_curvein (fun vs H Q E h => ?_) (fun _ _ _ _ _ _ us hl => match us, hl with | [_, _], _ => rfl) (fun f cdv A outer s H vs Q E hr h => ?_)
    · obtain ⟨vb, v, bs, t, rfl, _⟩ := h
      rfl
    obtain ⟨vb, v, bs, t, rfl, tb, tv, hd, hlv, h3, h5, q⟩ := h
    have nd := sc_curvein.nd
    refine ⟨_, pss_cons (ps_if (pt_not (pt_val (pe_callB call_isi (by rfl) B.isi bt_isi (pa_cons (pv 1) (pa_cons (pe_bltn (v := .ty "tuple") (by rfl) B.tuple bt_tuple rfl) pa_nil)))))
        (pss_one (ps_ret (pe_cl c1 hr (by omega) (by rfl) (pa_cons (pe_lc (own := [("index", 5), ("size", 6)]) (g := gTup K 2 (gCons (gName 5) (gCons (gName 6) gNil))) (tt := tYes)
          (te := tTup (tStar K (tVar 6) (tCons (tTup (tCons (tTup (tCons (tVar 1) (tCons (tVar 5) tNil))) tNil)) tNil))) rfl nd
          (pi_enumT (by rfl) B.enum (pa_cons (pe_ix ix_tup (pv 0) (pv 1) (fun _ _ => rfl)) pa_nil)) (blkOk_by (N := ["blocks", "tree", "rows", "one", "other", "index", "size"]) (sc := defScope sCurveIn) (by decide +kernel))
          (fun _ _ _ _ _ => pg_tup rfl (pgs_cons (pg_name (i := 5) nd rfl (Or.inl rfl)) (pgs_cons (pg_name (i := 6) nd rfl (Or.inl rfl)) pgs_nil))) (fun _ _ _ _ _ => pts_nil)
          (fun _ _ _ _ _ => pe_tup (by exact pa_star (pv 6) (pa_cons (pe_tup (pa_cons (pe_tup (pa_cons (pv 1) (pa_cons (pv 5) pa_nil))) pa_nil)) pa_nil)))) pa_nil)))) pss_nil)
      (pss_cons (ps_set (i := 2) nd rfl (.inl rfl) (pe_lst pa_nil))
      (pss_cons (ps_for PassesOwn.never rfl (pi_list (pe_cl ih hr (by omega) (by rfl) (pa_cons (pv 0) (pa_cons (pe_ix ix_tup (pv 1) pe_int (fun _ _ => rfl)) pa_nil)))) (pg_name (i := 3) nd rfl (.inl rfl))
        (pss_one (ps_for PassesOwn.never rfl (pi_list (pe_cl ih hr (by omega) (by rfl) (pa_cons (pv 0) (pa_cons (pe_ix ix_tup (pv 1) pe_int (fun _ _ => rfl)) pa_nil)))) (pg_name (i := 4) nd rfl (.inl rfl))
          (pss_one (ps_expr (pe_bm PySem.F.plainAttrs_list PySem.F.slot_list_append PySem.F.type_list_append mt_append (pv 2) (pa_cons (pe_tup (pa_star
            (pe_cl c2 hr (by omega) (by rfl) (pa_cons (pe_ix ix_tup (pv 1) pe_int (fun _ _ => rfl)) (pa_cons (pv 3) (pa_cons (pv 4) pa_nil))))
            (pa_cons (pe_op op_catA (pe_ix ix_tup (pv 3) pe_int (fun _ _ => rfl)) (pe_ix ix_tup (pv 4) pe_int (fun _ _ => rfl))) pa_nil))) pa_nil)))))))
      (pss_one (ps_ret (pe_cl c1 hr (by omega) (by rfl) (pa_cons (pv 2) pa_nil)))))), ?_⟩
    cases t with
    | leaf b =>
      obtain rfl := tp_int (i := (b : Nat)) tv
      obtain ⟨ba, bv, rfl, hba, tbv⟩ := tp_tup tb
      have hb : b < bs.length := hlv b List.mem_cons_self
      obtain ⟨ss, hss⟩ : ∃ ss, bs[b]? = some ss := ⟨_, List.getElem?_eq_getElem hb⟩
      have egd : bs.getD b [] = ss := by rw [List.getD_eq_getElem?_getD, hss]; rfl
      have lss := h3 ss (List.mem_of_getElem? hss)
      obtain ⟨vs, hvs, tvs⟩ := tpa_get (i := b) tbv (by rw [List.getElem?_map, hss]; rfl)
      obtain ⟨sa, sv, rfl, hsa, tsv⟩ := tp_tup tvs
      have lsv := tpa_len tsv
      rw [List.length_map] at lsv
      refine ⟨_, rfl, _, _, _, _, false, rfl, .ty _, ty_int, k_int_tuple, false, rfl, iteT ?_⟩
      refine ⟨_, rfl, _, rfl, ba, bv, (b : Nat), _, rfl, rfl, hba, atI_nat hvs, sa, sv, rfl, hsa, fun Dl hD => ?_⟩
      refine lc_it (walk_enumT (K := K) (a := sa) (xs := sv)) (fun i H' => Same H H' ∧ ∃ (zs : List V) (acc : List Row), H' Dl = some (.lst zs) ∧ zs.length = i ∧ TpAll K H' zs (acc.map rowD) ∧ acc.map Prod.fst = ss.take i ∧ ∀ r ∈ acc, r.2.length = 1)
        ⟨same_new hD, [], [], upd_same, rfl, .nil, rfl, fun r hr => by cases hr⟩ (fun i H' _ t => same_sqT t.1 hsa) ?_ ?_
      · rintro i x H1 H2 hi ⟨s1, zs, acc, hz, lz, tz, ef, el⟩ ⟨p, x1, x2, rfl, np, rfl, g1, g2⟩
        cases g1
        obtain ⟨sz, hsz, tsz⟩ := sz_at tsv g2
        have s2 : Same H1 (upd H1 p (.tup [.int (i : Nat), x2])) := same_new np
        obtain ⟨qa, qv, rfl, hqa, tqv⟩ := tp_tup (tp_kp tsz (kp_same (s1.trans s2)))
        obtain ⟨q1, q2, rfl, tq1, tq2⟩ := tpa_two tqv
        obtain rfl := tp_int tq1
        obtain rfl := tp_int tq2
        refine ⟨p, [.int (i : Nat), .ref qa], rfl, SqT.of upd_same, rfl, _, _, rfl, _, _, rfl, rfl, rfl, ?_⟩
        refine ⟨_, rfl, qa, _, rfl, .inl hqa, _, rfl, _, rfl, by show 2 ≤ sizeLine; decide, fun p1 n1 => ⟨by show 1 ≤ sizeLine; decide, fun p2 n2 => ⟨by show 3 ≤ sizeLine; decide, fun p3 n3 => ?_⟩⟩⟩
        have s3 := same_new (o := .tup [.int (b : Nat), .int (i : Nat)]) n1
        have s4 := same_new (o := .tup [.ref p1]) n2
        have s5 := same_new (o := .tup [.int sz.1, .int sz.2, .ref p2]) n3
        have hz5 := s5 _ _ (s4 _ _ (s3 _ _ (s2 _ _ hz)))
        refine ⟨zs, hz5, small1000 (by omega), same_mut (s1.trans (s2.trans (s3.trans (s4.trans s5)))) hD, _, acc ++ [(sz, [(b, i)])], upd_same, by rw [List.length_append, lz]; rfl, ?_, ?_, fun r hr => ?_⟩
        · rw [List.map_append]
          have t1 : Tp K _ (.ref p1) (pairD (b, i)) := tp_new n1 (.cons (.int _) (.cons (.int _) .nil))
          have t2 : Tp K _ (.ref p2) (.tuple [pairD (b, i)]) := tp_new n2 (tpa_one t1)
          have t3 : Tp K _ (.ref p3) (rowD (sz, [(b, i)])) := tp_new n3 (.cons (.int _) (.cons (.int _) (tpa_one t2)))
          exact tpa_kp (tpa_snoc (tpa_kp tz (kp_same (s2.trans (s3.trans (s4.trans s5))))) t3) (kp_lst hz5)
        · rw [List.map_append, ef, List.take_succ, hsz]
          rfl
        · rcases List.mem_append.mp hr with k | k
          · exact el r k
          · rw [List.mem_singleton.mp k]
            rfl
      · rintro H1 ⟨s1, zs, acc, hz, lz, tz, ef, el⟩
        rw [lsv, List.take_length] at ef
        have la : acc.length = ss.length := by rw [← ef, List.length_map]
        refine ⟨_, moreC, Dl, zs, acc, rfl, .inl (.inl hz), tz, alike_moreC, fun b _ => row_lay b, by omega, fun p ys srt H4 np s4 hp ty hperm hord => ?_⟩
        refine q p ys (scan srt) H4 (s1.free np) (s1.trans s4) hp ty ⟨?_, ?_, fun r hr => el r (scan_sub hperm hord hr)⟩
        · have mem : ∀ p, (∃ x ∈ acc, x.1 = p) ↔ p ∈ ss := fun p => by
            rw [← ef, List.mem_map]
          refine (scan_front hord hperm).lean (fun p hp => ?_) fun p hp => ?_
          · show p ∈ bs.getD b []
            rw [egd]
            exact (mem p).1 hp
          · have hp' : p ∈ bs.getD b [] := hp
            rw [egd] at hp'
            exact ⟨p, (mem p).2 hp', le_refl p⟩
        · have z := (kept_len hperm).1
          show _ ≤ 3 ^ 1
          omega
    | node h l r =>
      obtain ⟨ta, tx, rfl, hta, ttx⟩ := tp_tup tv
      obtain ⟨vl, vr, rfl, tvl, tvr⟩ : ∃ vl vr, tx = [.str (ltr h), vl, vr] ∧ Tp K H vl (treeD l) ∧ Tp K H vr (treeD r) := by
        cases ttx with
        | cons h1 h2 =>
          obtain ⟨vl, vr, rfl, a, b⟩ := tpa_two h2
          obtain rfl := tp_str h1
          exact ⟨vl, vr, rfl, a, b⟩
      have hdl : depth l ≤ n ∧ depth r ≤ n := by
        have z : max (depth l) (depth r) + 1 ≤ n + 1 := hd
        omega
      have hll : ∀ b ∈ leaves l, b < bs.length := fun b hb => hlv b (List.mem_append_left _ hb)
      have hlr : ∀ b ∈ leaves r, b < bs.length := fun b hb => hlv b (List.mem_append_right _ hb)
      obtain ⟨ll, ell⟩ : ∃ ll, (leaves l).length = ll := ⟨_, rfl⟩
      obtain ⟨lr, elr⟩ : ∃ lr, (leaves r).length = lr := ⟨_, rfl⟩
      have elv : (leaves (.node h l r)).length = ll + lr := by
        show (leaves l ++ leaves r).length = _
        rw [List.length_append, ell, elr]
      have pl := leaves_pos l
      have pr := leaves_pos r
      rw [elv] at h5
      have big : 3 ^ ll * 3 ^ lr ≤ 243 := by
        rw [← Nat.pow_add]
        exact pow_le h5
      refine ⟨_, rfl, _, _, _, _, true, rfl, .ty _, ty_sqT hta, k_tup_tup, true, rfl, iteF ?_⟩
      refine ⟨Nat.zero_le _, fun rl hrl => ?_⟩
      have s1 : Same H (upd H rl (.lst [])) := same_new hrl
      refine ⟨_, rfl, _, rfl, ta, _, 1, _, rfl, rfl, same_sqT s1 hta, at1 _ _ _, vb, vl, bs, l, rfl, tp_kp tb (kp_same s1), tp_kp tvl (kp_same s1), hdl.1, hll, h3, by omega, fun l1 xs1 rs1 H1 nl1 s2 hl1 tx1 ok1 => ?_⟩
      have ne1 : l1 ≠ rl := fun e => by
        rw [e, upd_same] at nl1
        cases nl1
      have hr1 := s2 _ _ (show (upd H rl (.lst [])) rl = _ from upd_same)
      have lx1 := tpa_len tx1
      rw [List.length_map] at lx1
      have lrs1 := ok1.len
      rw [ell] at lrs1
      refine ⟨l1, rfl, ⟨xs1, .inl (.inl hl1)⟩, for_list (K := K) (a := l1) (xs := xs1) (fun i σ H' => ∃ (y3 y4 : Option V) (acc : List Row) (ys : List V), σ = [some vb, some (.ref ta), some (.ref rl), y3, y4, none, none] ∧ Same H H' ∧ Kp K H1 H' ∧ H' rl = some (.lst ys) ∧ H' l1 = some (.lst xs1) ∧
          TpAll K H' ys (acc.map rowD) ∧ acc.length ≤ i * 3 ^ lr ∧ (∀ z ∈ acc, z.2.length = ll + lr) ∧ (∀ p, p ∈ acc.map Prod.fst ↔ ∃ a ∈ (rs1.take i).map Prod.fst, ∃ b, Least (Has bs r) b ∧ p = put h a b) ∧ (i = 0 ∨ ∃ g, Front g (Has bs r)))
        ⟨none, none, [], [], rfl, s1.trans s2, Kp.refl _, hr1, hl1, .nil, Nat.zero_le _, fun z hz => (by cases hz), fun p => ⟨fun hp => (by cases hp), fun ⟨a, ha, _⟩ => (by cases ha)⟩, .inl rfl⟩ (fun i σ H' _ ⟨_, _, _, _, _, _, _, _, k, _⟩ => .inl (.inl k)) ?_ ?_⟩
      · rintro i x σ H2 hx ⟨y3, y4, acc0, ys0, rfl, sm, kp, hrl2, hl12, tys0, lac0, each0, mem0, _⟩
        have hi : i < xs1.length := (List.getElem?_eq_some_iff.mp hx).1
        obtain ⟨row1, hrow1, tx1'⟩ := row_at tx1 hx
        have each1 := ok1.each row1 (List.mem_of_getElem? hrow1)
        rw [ell] at each1
        refine ⟨_, rfl, _, rfl, ta, _, 2, _, rfl, rfl, same_sqT sm hta, at2 _ _ _ _, vb, vr, bs, r, rfl, tp_kp tb (kp_same sm), tp_kp tvr (kp_same sm), hdl.2, hlr, h3, by omega, fun l2 xs2 rs2 H3 nl2 s3 hl2 tx2 ok2 => ?_⟩
        have ne2 : l2 ≠ rl := fun e => by
          rw [e, hrl2] at nl2
          cases nl2
        have lx2 := tpa_len tx2
        rw [List.length_map] at lx2
        have lrs2 := ok2.len
        rw [elr] at lrs2
        have lac0' : acc0.length + 3 ^ lr ≤ 243 := by
          have z : (i + 1) * 3 ^ lr ≤ 3 ^ ll * 3 ^ lr := Nat.mul_le_mul_right _ (by omega)
          rw [Nat.succ_mul] at z
          omega
        refine ⟨l2, rfl, ⟨xs2, .inl (.inl hl2)⟩, for_list (K := K) (a := l2) (xs := xs2) (fun j σ H' => ∃ (y4 : Option V) (acc : List Row) (ys : List V), σ = [some vb, some (.ref ta), some (.ref rl), some x, y4, none, none] ∧ Same H H' ∧ Kp K H3 H' ∧ H' rl = some (.lst ys) ∧ H' l1 = some (.lst xs1) ∧ H' l2 = some (.lst xs2) ∧
            TpAll K H' ys (acc.map rowD) ∧ (∀ z ∈ acc, z.2.length = ll + lr) ∧ acc.map Prod.fst = acc0.map Prod.fst ++ (rs2.take j).map (fun z => put h row1.1 z.1))
          ⟨_, acc0, ys0, rfl, sm.trans s3, Kp.refl _, s3 _ _ hrl2, s3 _ _ hl12, hl2, tpa_kp tys0 (kp_same s3), each0, by simp⟩ (fun i σ H' _ ⟨_, _, _, _, _, _, _, _, k, _⟩ => .inl (.inl k)) ?_ ?_⟩
        · rintro j x2 σ H4 hx2 ⟨y4, acc, ys, rfl, sm4, kp4, hrl4, hl14, hl24, tys, each, eacc⟩
          have hj : j < xs2.length := (List.getElem?_eq_some_iff.mp hx2).1
          obtain ⟨row2, hrow2, tx2'⟩ := row_at tx2 hx2
          have each2 := ok2.each row2 (List.mem_of_getElem? hrow2)
          rw [elr] at each2
          have k14 : Kp K H1 H4 := kp.trans ((kp_same s3).trans kp4)
          obtain ⟨a1, ca1, cs1, rfl, ha1, hca1, tcs1⟩ := row_parts (tp_kp tx1' k14)
          obtain ⟨a2, ca2, cs2, rfl, ha2, hca2, tcs2⟩ := row_parts (tp_kp tx2' kp4)
          have lcs1 := tpa_len tcs1
          have lcs2 := tpa_len tcs2
          rw [List.length_map, each1] at lcs1
          rw [List.length_map, each2] at lcs2
          refine ⟨_, rfl, .inl ⟨rfl, _, .inl (.inl hrl4)⟩, _, rfl, ta, _, 0, _, rfl, rfl, same_sqT sm4 hta, at0 _ _, _, rfl, _, rfl, h, _, _, row1.1, row2.1, rfl, ⟨a1, _, rfl, ha1⟩, ⟨a2, _, rfl, ha2⟩, fun pp H5 s5 hpp => ?_⟩
          refine ⟨pp, _, rfl, .inl (SqT.of hpp), _, rfl, a1, _, 2, _, rfl, rfl, same_sqT s5 ha1, at2 _ _ _ _, _, rfl, a2, _, 2, _, rfl, rfl, same_sqT s5 ha2, at2 _ _ _ _, ca1, ca2, cs1, cs2, rfl, rfl, same_sqT s5 hca1, same_sqT s5 hca2, Nat.le_trans (by omega) (show 10 ≤ sizeLine by decide), fun e => ?_, fun _ e => ?_, fun _ _ p1 n1 => ?_⟩
          · rw [e] at lcs1
            have z : 0 = ll := lcs1
            omega
          · rw [e] at lcs2
            have z : 0 = lr := lcs2
            omega
          refine ⟨by show 3 ≤ sizeLine; decide, fun p2 n2 => ?_⟩
          have s6 := same_new (o := .tup (cs1 ++ cs2)) n1
          have s7 := same_new (o := .tup [.int (put h row1.1 row2.1).1, .int (put h row1.1 row2.1).2, .ref p1]) n2
          have s47 := s5.trans (s6.trans s7)
          have hrl7 := s47 _ _ hrl4
          have ln : acc.length ≤ 243 := by
            have z := congrArg List.length eacc
            rw [List.length_map, List.length_append, List.length_map, List.length_map, List.length_take] at z
            omega
          have lys := tpa_len tys
          rw [List.length_map] at lys
          refine ⟨rl, ys, _, rfl, rfl, hrl7, small1000 (by omega), ?_⟩
          have k7 : Kp K _ _ := kp_lst (K := K) (o := .lst (ys ++ [.ref p2])) hrl7
          refine ⟨_, acc ++ [(put h row1.1 row2.1, row1.2 ++ row2.2)], _, rfl, same_mut (sm4.trans s47) hrl, kp4.trans ((kp_same s47).trans k7), upd_same, by rw [upd_ne ne1]; exact s47 _ _ hl14, by rw [upd_ne ne2]; exact s47 _ _ hl24, ?_, fun z hz => ?_, ?_⟩
          · rw [List.map_append]
            have t1 : Tp K _ (.ref p1) (.tuple ((row1.2 ++ row2.2).map pairD)) := tp_new n1 (by
              rw [List.map_append]
              exact tpa_append (tpa_kp tcs1 (kp_same s5)) (tpa_kp tcs2 (kp_same s5)))
            have t2 : Tp K _ (.ref p2) (rowD (put h row1.1 row2.1, row1.2 ++ row2.2)) := tp_new n2 (.cons (.int _) (.cons (.int _) (tpa_one t1)))
            exact tpa_kp (tpa_snoc (tpa_kp tys (kp_same s47)) t2) k7
          · rcases List.mem_append.mp hz with k | k
            · exact each z k
            · rw [List.mem_singleton.mp k]
              show (row1.2 ++ row2.2).length = _
              rw [List.length_append, each1, each2]
          · rw [List.map_append, eacc, List.take_succ, hrow2, List.map_append, List.append_assoc]
            rfl
        · rintro σ H4 ⟨y4, acc, ys, rfl, sm4, kp4, hrl4, hl14, hl24, tys, each, eacc⟩
          rw [lx2, List.take_length] at eacc
          refine ⟨_, _, acc, ys, rfl, sm4, kp.trans ((kp_same s3).trans kp4), hrl4, hl14, tys, ?_, each, fun p => ?_, .inr ⟨_, ok2.front⟩⟩
          · have z := congrArg List.length eacc
            rw [List.length_map, List.length_append, List.length_map, List.length_map] at z
            rw [Nat.succ_mul]
            omega
          · rw [eacc, List.mem_append, mem0, List.take_succ, hrow1, List.map_append]
            constructor
            · rintro (⟨a, ha, k⟩ | k)
              · exact ⟨a, List.mem_append_left _ ha, k⟩
              · obtain ⟨z, hz, e⟩ := List.mem_map.mp k
                exact ⟨row1.1, List.mem_append_right _ List.mem_cons_self, z.1, (ok2.front.mem _).1 (List.mem_map.mpr ⟨z, hz, rfl⟩), e.symm⟩
            · rintro ⟨a, ha, b, hb, e⟩
              rcases List.mem_append.mp ha with k | k
              · exact .inl ⟨a, k, b, hb, e⟩
              · have ea : a = row1.1 := List.mem_singleton.mp k
                obtain ⟨z, hz, ez⟩ := List.mem_map.mp ((ok2.front.mem b).2 hb)
                exact .inr (List.mem_map.mpr ⟨z, hz, by rw [e, ea, ← ez]⟩)
      · rintro σ H2 ⟨y3, y4, acc, ys, rfl, sm, kp, hrl2, hl12, tys, lac, each, mem, hg⟩
        rw [lx1, List.take_length] at mem
        rw [lx1] at lac hg
        have lac' : acc.length ≤ 3 ^ ll * 3 ^ lr := Nat.le_trans lac (Nat.mul_le_mul_right _ lrs1)
        refine ⟨_, rfl, _, moreC, rl, ys, acc, rfl, .inl (.inl hrl2), tys, alike_moreC, fun b _ => row_lay b, by omega, fun p zs srt H4 np s4 hp ty hperm hord => ?_⟩
        refine q p zs (scan srt) H4 (sm.free np) (sm.trans s4) hp ty ⟨?_, ?_, fun z hz => by rw [elv]; exact each z (scan_sub hperm hord hz)⟩
        · refine node_front ok1.front (fun hne => ?_) ?_
          · rcases hg with e | g
            · rw [List.eq_nil_of_length_eq_zero e] at hne
              exact absurd rfl hne
            · exact g
          · have m2 : ∀ p, (∃ x ∈ acc, x.1 = p) ↔ ∃ a ∈ rs1.map Prod.fst, ∃ b, Least (Has bs r) b ∧ p = put h a b := fun p => by
              rw [← mem, List.mem_map]
            exact (scan_front hord hperm).lean (fun p hp => (m2 p).1 hp) fun p hp => ⟨p, (m2 p).2 hp, le_refl p⟩
        · rw [elv, Nat.pow_add]
          exact Nat.le_trans (kept_len hperm).1 lac'
end
end K4
set_option maxHeartbeats 4000000
/-! curve -/
namespace K4
open PySem PySem.Spec PyProof.Rows L2 StX
section
variable {P : Program} {w : World} {K : PySem.W.Frag} {mg : Str → Option Value} {base : Heap}
def spCurve (K : PySem.W.Frag) : Sp := fun vs H Q _ => ∃ vb vw bs wd t, vs = [vb, vw] ∧ Tp K H vb (blocksD bs) ∧ Tp K H vw (wordD wd) ∧ BlocksOk bs ∧ (∀ ss ∈ bs, ss.length ≤ 3) ∧ WordOk wd t bs.length ∧ bs.length ≤ 5 ∧
  ∀ v' H' l, Same H H' → Tp K H' v' (sizesD l) → Front l (Has bs t) → Q v' H'
theorem sc_curve : FnScope ["blocks", "word", "row"] ["blocks", "word"] (defScope sCurve) := ⟨rfl, rfl, rfl, by decide +kernel, rfl, by decide +kernel, by decide +kernel⟩
theorem ok_curve (D : Df K mg "curve" sCurve) (B : Blt mg) (c1 : Cl P w K mg base 5 "need_fit" (spNeedFit K)) (c2 : Cl P w K mg base 1 "tree_of" (spTree K)) (c3 : Cl P w K mg base 6 "curve_in" (spCurveIn K 5)) : Cl P w K mg base 7 "curve" (spCurve K) := by
  refine D.ok sc_curve (fun vs H Q E h => ?_) (fun _ _ _ _ _ _ us hl => match us, hl with | [_, _], _ => rfl) (fun f cdv A outer s H vs Q E hr h => ?_)
  · obtain ⟨vb, vw, bs, wd, t, rfl, _⟩ := h
    rfl
  obtain ⟨vb, vw, bs, wd, t, rfl, tb, tw, BO, h3, W, h5, q⟩ := h
  have nd := sc_curve.nd
  refine ⟨_, pss_cons (ps_expr (pe_cl c1 hr (by decide) (by rfl) (pa_cons (pv 0) (pa_cons (pv 1) pa_nil))))
    (pss_one (ps_ret (pe_callTy call_tuple_of (by rfl) B.tuple bt_tuple (pa_cons (pe_lc (own := [("row", 2)]) (g := gName 2) (tt := tYes) rfl nd
        (pi_list (pe_cl c3 hr (by decide) (by rfl) (pa_cons (pv 0) (pa_cons (pe_cl c2 hr (by decide) (by rfl) (pa_cons (pv 1) pa_nil)) pa_nil)))) (blkOk_by (N := ["blocks", "word", "row"]) (sc := defScope sCurve) (by decide +kernel))
        (fun _ _ _ _ _ => pg_name (i := 2) nd rfl (Or.inl rfl)) (fun _ _ _ _ _ => pts_nil) (fun _ _ _ _ _ => pe_slice (r := rSlA K) (show SlR _ (rSlA K) from sl_tupA) (pv 2) po_none (po_some pe_int))) pa_nil)))), ?_⟩
  refine ⟨_, rfl, _, rfl, vb, vw, bs, wd, t, rfl, tb, tw, BO, W, fun H1 s1 => ?_⟩
  have lv := W.leaves
  have ll : (leaves t).length = bs.length := by rw [lv.length_eq, List.length_range]
  have hw := W.len
  refine ⟨_, rfl, _, rfl, vw, wd, t, rfl, tp_kp tw (kp_same s1), W.run, by omega, fun vt H2 s2 tt => ?_⟩
  have s12 := s1.trans s2
  refine ⟨vb, vt, bs, t, rfl, tp_kp tb (kp_same s12), tt, by have z := depth_le t; omega, fun b hb => List.mem_range.mp (lv.mem_iff.mp hb), h3, by omega, fun p ys rs H3 np s3 hp ty ok => ?_⟩
  have lrs := ok.len
  have big : 3 ^ (leaves t).length ≤ 3 ^ 5 := pow_le (by omega)
  refine ⟨p, rfl, ⟨ys, .inl (.inl hp)⟩, fun Dl hD => cut_rows (more := moreC) (rs := rs) (show (2:Nat) < 3 by decide) hp ty hD (by omega) fun zs H5 s5 hz tz => ?_⟩
  refine ⟨Dl, zs, rfl, .inl ⟨.inl (.inl hz), fun t nt => ?_⟩⟩
  exact q _ _ (rs.map Prod.fst) (s12.trans (s3.trans (s5.trans (same_new nt)))) (tp_new nt tz) ok.front
end
end K4
set_option maxHeartbeats 4000000
/-! _law_taken, _law_pick -/
namespace K4
open PySem PySem.Spec PyProof.Rows L2
section
variable {P : Program} {w : World} {K : PySem.W.Frag} {mg : Str → Option Value} {base : Heap}
/-- the row that the law draws from: the script at a, its place, two numbers -/
structure RowOk (K : PySem.W.Frag) (H : Hp) (r a : Addr) (ns : List Int) : Prop where
  ex : ∃ (i s g : Int), H r = some (.lst [.ref a, .int i, .int s, .int g]) ∧ SqL K H a (ns.map V.int) ∧ 0 ≤ i
theorem sqL_but {H H' : Hp} {r a b : Addr} {xs : List V} {ns : List Int} (e : But r H H') (hr : H r = some (.lst (.ref b :: xs))) (h : SqL K H a (ns.map V.int)) : SqL K H' a (ns.map V.int) := by
  rcases h with (h | ⟨ob, h⟩) | h
  · refine .inl (.inl (e _ _ (fun z => ?_) h))
    rw [z, hr] at h
    cases ns with
    | nil => cases h
    | cons n ns => cases h
  · refine .inl (.inr ⟨ob, e _ _ (fun z => ?_) h⟩)
    rw [z, hr] at h
    cases h
  · exact .inr h
variable {H H' : Hp} {r a : Addr} {ns : List Int}
theorem RowOk.same (R : RowOk K H r a ns) (e : Same H H') : RowOk K H' r a ns := by
  obtain ⟨i, s, g, hr, ha, hi⟩ := R.ex
  exact ⟨i, s, g, e _ _ hr, e.seq ha, hi⟩
theorem RowOk.kp (R : RowOk K H r a ns) (e : But r H H') : Kp K H H' := by
  obtain ⟨i, s, g, hr, _⟩ := R.ex
  exact kp_but e hr
theorem RowOk.ne {p : Addr} (R : RowOk K H r a ns) (hp : H p = none) : p ≠ r := fun e => by
  obtain ⟨i, s, g, hr, _⟩ := R.ex
  rw [e, hr] at hp
  cases hp
/-- what H does not know may change -/
theorem RowOk.mut {p : Addr} {o : HO} (R : RowOk K H r a ns) (b : But r H H') (R1 : RowOk K H' r a ns) (hp : H p = none) : RowOk K (upd H' p o) r a ns := by
  obtain ⟨i, s, g, hr, ha, hi⟩ := R.ex
  obtain ⟨i', s', g', hr', ha', hi'⟩ := R1.ex
  refine ⟨i', s', g', ?_, sqL_but (b.mut hp) hr ha, hi'⟩
  rw [upd_ne (R.ne hp).symm]
  exact hr'
theorem at3 {α : Type} (x y z u : α) (r : List α) : atI (x :: y :: z :: u :: r) 3 = some u := atI_nat (j := 3) rfl
def spTaken (K : PySem.W.Frag) : Sp := fun vs H Q _ => ∃ r m a ns, vs = [.ref r, .int m] ∧ RowOk K H r a ns ∧ (0 < m ∧ m < 1000) ∧ ∀ z H', 0 ≤ z → z < m → But r H H' → RowOk K H' r a ns → Q (.int z) H'
theorem sc_taken : FnScope ["_law_row", "_law_many", "_law_found", "_law_cell"] ["_law_row", "_law_many"] (defScope sTaken) := ⟨rfl, rfl, rfl, by decide +kernel, rfl, by decide +kernel, by decide +kernel⟩
theorem ok_taken (D : Df K mg "_law_taken" sTaken) (B : Blt mg) : Cl P w K mg base 1 "_law_taken" (spTaken K) := by
  refine D.ok sc_taken (fun vs H Q E h => ?_) (fun _ _ _ _ _ _ us hl => match us, hl with | [_, _], _ => rfl) (fun f cdv A outer s H vs Q E hr h => ?_)
  · obtain ⟨r, m, a, ns, rfl, _⟩ := h
    rfl
  obtain ⟨r, m, a, ns, rfl, R, ⟨hm0, hm1⟩, q⟩ := h
  have nd := sc_taken.nd
  refine ⟨_, pss_cons (ps_if (pt_cmpR op_gt (pe_ix ix_list (pv 0) pe_int (fun _ _ => rfl)) pe_int (nomark _))
      (pss_cons (ps_set (i := 2) nd rfl (.inl rfl) (pe_op op_mod (pe_callTy call_int1 (by rfl) B.int bt_int (pa_cons (pe_ix ix_list (pv 0) pe_int (fun _ _ => rfl)) pa_nil)) (pv 1)))
      (pss_cons (ps_asg (pe_op op_fdiv (pe_ix ix_list (pv 0) pe_int (fun _ _ => rfl)) (pv 1)) (pg_sub (pv 0) pe_int set_list))
      (pss_one (ps_ret (pv 2))))) pss_nil)
    (pss_cons (ps_asg (pe_op op_add (pe_ix ix_list (pv 0) pe_int (fun _ _ => rfl)) pe_int) (pg_sub (pv 0) pe_int set_list))
    (pss_cons (ps_if (pt_cmpR op_gt (pe_ix ix_list (pv 0) pe_int (fun _ _ => rfl)) (pe_callB call_len_seq (by rfl) B.len bt_len (pa_cons (pe_ix ix_list (pv 0) pe_int (fun _ _ => rfl)) pa_nil)) (nomark _))
      (pss_cons (ps_asg (pe_op op_mod (pe_callTy call_int1 (by rfl) B.int bt_int (pa_cons (pe_op op_add (pe_op op_mul (pe_ix ix_list (pv 0) pe_int (fun _ _ => rfl)) pe_int) pe_int) pa_nil)) pe_int) (pg_sub (pv 0) pe_int set_list))
      (pss_one (ps_ret (pe_op op_mod (pe_callTy call_int1 (by rfl) B.int bt_int (pa_cons (pe_op op_fdiv (pe_ix ix_list (pv 0) pe_int (fun _ _ => rfl)) pe_int) pa_nil)) (pv 1))))) pss_nil)
    (pss_cons (ps_set (i := 3) nd rfl (.inl rfl) (pe_ix ix_list (pe_ix ix_list (pv 0) pe_int (fun _ _ => rfl)) (pe_op op_sub (pe_ix ix_list (pv 0) pe_int (fun _ _ => rfl)) pe_int) (fun _ _ => rfl)))
    (pss_cons (ps_asg (pe_op op_mod (pe_callTy call_int1 (by rfl) B.int bt_int (pa_cons (pe_op op_add (pe_op op_add (pe_op op_mul (pe_ix ix_list (pv 0) pe_int (fun _ _ => rfl)) pe_int) (pv 3)) pe_int) pa_nil)) pe_int) (pg_sub (pv 0) pe_int set_list))
    (pss_cons (ps_if (pt_cmpR op_ge (pv 3) (pe_op op_pow pe_int pe_int) (nomark _)) (pss_one (ps_asg (pe_op op_fdiv (pv 3) (pv 1)) (pg_sub (pv 0) pe_int set_list))) pss_nil)
    (pss_one (ps_ret (pe_op op_mod (pe_callTy call_int1 (by rfl) B.int bt_int (pa_cons (pv 3) pa_nil)) (pv 1))))))))), ?_⟩
  obtain ⟨i, s, g, hrow, ha, hi⟩ := R.ex
  have md : ∀ z : Int, 0 ≤ z % m ∧ z % m < m := fun z => ⟨Int.emod_nonneg _ (by omega), Int.emod_lt_of_pos _ hm0⟩
  refine ⟨_, rfl, r, _, 3, _, rfl, rfl, .inl (.inl hrow), at3 _ _ _ _ _, _, _, rfl, rfl, _, rfl, ?_⟩
  refine isTrue_iff (fun c => ?_) (fun c => ?_)
  · refine ⟨_, rfl, r, _, 3, _, rfl, rfl, .inl (.inl hrow), at3 _ _ _ _ _, .inl ⟨g, rfl, _, rfl, g, m, rfl, rfl, hm0, ?_⟩⟩
    refine ⟨_, rfl, r, _, 3, _, rfl, rfl, .inl (.inl hrow), at3 _ _ _ _ _, _, rfl, g, m, rfl, rfl, ⟨hm0, by omega⟩, ?_⟩
    refine ⟨_, rfl, r, _, 3, 3, rfl, rfl, hrow, rfl, ?_⟩
    refine ⟨_, rfl, q _ _ (md g).1 (md g).2 but_at ⟨i, s, _, upd_same, sqL_but but_at hrow ha, hi⟩⟩
  · refine ⟨_, rfl, r, _, 1, _, rfl, rfl, .inl (.inl hrow), at1 _ _ _, i, 1, rfl, rfl, ?_⟩
    refine ⟨_, rfl, r, _, 1, 1, rfl, rfl, hrow, rfl, ?_⟩
    have b1 : ∀ ys, But r H (upd H r (.lst ys)) := fun ys => but_at
    have ha1 : ∀ ys, SqL K (upd H r (.lst ys)) a (ns.map V.int) := fun ys => sqL_but but_at hrow ha
    have b2 : ∀ ys zs, But r H (upd (upd H r (.lst ys)) r (.lst zs)) := fun ys zs => but_at.trans but_at
    have ha2 : ∀ ys zs, SqL K (upd (upd H r (.lst ys)) r (.lst zs)) a (ns.map V.int) := fun ys zs => sqL_but (b2 _ _) hrow ha
    have b3 : ∀ ys zs us, But r H (upd (upd (upd H r (.lst ys)) r (.lst zs)) r (.lst us)) := fun ys zs us => (b2 _ _).trans but_at
    have ha3 : ∀ ys zs us, SqL K (upd (upd (upd H r (.lst ys)) r (.lst zs)) r (.lst us)) a (ns.map V.int) := fun ys zs us => sqL_but (b3 _ _ _) hrow ha
    refine ⟨_, rfl, r, _, 1, _, rfl, rfl, .inl (.inl upd_same), at1 _ _ _, _, rfl, r, _, 0, _, rfl, rfl, .inl (.inl upd_same), at0 _ _, a, _, rfl, .inl (ha1 _), _, _, rfl, rfl, _, rfl, ?_⟩
    refine isTrue_iff (fun c => ?_) (fun c => ?_)
    · refine ⟨_, rfl, r, _, 2, _, rfl, rfl, .inl (.inl upd_same), at2 _ _ _ _, s, 48271, rfl, rfl, .inr ⟨by decide, by decide⟩, _, 11, rfl, rfl, .inl ⟨_, rfl, _, 2147483647, rfl, rfl, (show (0 : Int) < 2147483647 by decide), ?_⟩⟩
      refine ⟨_, rfl, r, _, 2, 2, rfl, rfl, upd_same, rfl, ?_⟩
      refine ⟨_, rfl, r, _, 2, _, rfl, rfl, .inl (.inl upd_same), at2 _ _ _ _, _, 7, rfl, rfl, ⟨by decide, by decide⟩, .inl ⟨_, rfl, _, rfl, _, m, rfl, rfl, hm0, ?_⟩⟩
      exact q _ _ (md _).1 (md _).2 (b2 _ _) ⟨i + 1, _, g, upd_same, ha2 _ _, by omega⟩
    · have c' := of_decide_eq_false c
      rw [List.length_map] at c'
      obtain ⟨k, rfl⟩ := Int.eq_ofNat_of_zero_le hi
      have hk : k < ns.length := by omega
      have hc : (ns.map V.int)[k]? = some (.int ns[k]) := by rw [List.getElem?_map, List.getElem?_eq_getElem hk]; rfl
      have hat : atI (ns.map V.int) ((k : Int) + 1 - 1) = some (.int ns[k]) := by
        rw [show (k : Int) + 1 - 1 = (k : Nat) by omega]
        exact atI_nat hc
      refine ⟨_, rfl, r, _, 0, _, rfl, rfl, .inl (.inl upd_same), at0 _ _, _, rfl, r, _, 1, _, rfl, rfl, .inl (.inl upd_same), at1 _ _ _, _, 1, rfl, rfl, a, _, _, _, rfl, rfl, ha1 _, hat, ?_⟩
      refine ⟨_, rfl, r, _, 2, _, rfl, rfl, .inl (.inl upd_same), at2 _ _ _ _, s, 48271, rfl, rfl, .inr ⟨by decide, by decide⟩, _, rfl, _, _, rfl, rfl, _, 11, rfl, rfl, .inl ⟨_, rfl, _, 2147483647, rfl, rfl, (show (0 : Int) < 2147483647 by decide), ?_⟩⟩
      refine ⟨_, rfl, r, _, 2, 2, rfl, rfl, upd_same, rfl, ?_⟩
      refine ⟨_, rfl, 10, 18, rfl, rfl, ⟨by decide, by decide, by decide⟩, _, _, rfl, rfl, _, rfl, ?_⟩
      refine isTrue_iff (fun d => ?_) (fun d => ?_)
      · refine ⟨_, rfl, _, rfl, _, m, rfl, rfl, ⟨hm0, by omega⟩, ?_⟩
        refine ⟨_, rfl, r, _, 3, 3, rfl, rfl, upd_same, rfl, ?_⟩
        refine ⟨_, rfl, .inl ⟨_, rfl, _, rfl, _, m, rfl, rfl, hm0, ?_⟩⟩
        exact q _ _ (md _).1 (md _).2 (b3 _ _ _) ⟨_, _, _, upd_same, ha3 _ _ _, by omega⟩
      · refine ⟨_, rfl, .inl ⟨_, rfl, _, rfl, _, m, rfl, rfl, hm0, ?_⟩⟩
        exact q _ _ (md _).1 (md _).2 (b2 _ _) ⟨_, _, _, upd_same, ha2 _ _, by omega⟩

/-! ### _law_pick -/
def spPick (K : PySem.W.Frag) : Sp := fun vs H Q _ => ∃ r b xs a ns, vs = [.ref r, .ref b] ∧ RowOk K H r a ns ∧ H b = some (.lst xs) ∧ b ≠ r ∧ (0 < xs.length ∧ xs.length < 1000) ∧ ∀ v H', v ∈ xs → But r H H' → RowOk K H' r a ns → Q v H'
theorem sc_pick : FnScope ["_law_row", "_law_things"] ["_law_row", "_law_things"] (defScope sPick) := ⟨rfl, rfl, rfl, by decide +kernel, rfl, by decide +kernel, by decide +kernel⟩
theorem ok_pick (D : Df K mg "_law_pick" sPick) (B : Blt mg) (c1 : Cl P w K mg base 1 "_law_taken" (spTaken K)) : Cl P w K mg base 2 "_law_pick" (spPick K) := by
  refine D.ok sc_pick (fun vs H Q E h => ?_) (fun _ _ _ _ _ _ us hl => match us, hl with | [_, _], _ => rfl) (fun f cdv A outer s H vs Q E hr h => ?_)
  · obtain ⟨r, b, xs, a, ns, rfl, _⟩ := h
    rfl
  obtain ⟨r, b, xs, a, ns, rfl, R, hb, ne, ⟨h1, h2⟩, q⟩ := h
  have nd := sc_pick.nd
  refine ⟨_, pss_one (ps_ret (pe_ix ix_list (pv 1) (pe_cl c1 hr (by decide) (by rfl) (pa_cons (pv 0) (pa_cons (pe_callB call_len_seq (by rfl) B.len bt_len (pa_cons (pv 1) pa_nil)) pa_nil))) (fun _ _ => rfl))), ?_⟩
  refine ⟨_, rfl, _, rfl, _, rfl, b, xs, rfl, .inl (.inl (.inl hb)), r, _, a, ns, rfl, R, ⟨by omega, by omega⟩, fun z H1 z0 z1 b1 R1 => ?_⟩
  obtain ⟨k, rfl⟩ := Int.eq_ofNat_of_zero_le z0
  have hk : k < xs.length := by omega
  refine ⟨b, xs, _, _, rfl, rfl, .inl (.inl (b1 _ _ ne hb)), atI_nat (List.getElem?_eq_getElem hk), q _ _ (List.getElem_mem hk) b1 R1⟩
end
end K4
set_option maxHeartbeats 4000000
/-! _law_word -/
namespace K4
open PySem PySem.Spec PyProof.Rows L2
section
variable {P : Program} {w : World} {K : PySem.W.Frag} {mg : Str → Option Value} {base : Heap}
theorem seqIx_nat {k n : Nat} (h : k < n) : seqIndex? (k : Int) n = some k := by
  unfold seqIndex?
  simp
  omega
/-- t + (x,) -/
theorem cat_one {H : Hp} {fv y : V} {ds : List PyData} {d : PyData} {pb : Addr} {Q : VK} (hf : Tp K H fv (.tuple ds)) (hb : SqT K H pb [y]) (ty : Tp K H y d) (hl : ds.length ≤ 1000) (q : ∀ v H', Same H H' → Tp K H' v (.tuple (ds ++ [d])) → Q v H') : rCatA K fv (.ref pb) H Q := by
  obtain ⟨a, xs, rfl, ha, tx⟩ := tp_tup hf
  have lx := tpa_len tx
  refine ⟨a, pb, xs, [y], rfl, rfl, ha, hb, Nat.le_trans (show xs.length + 1 ≤ 1001 by omega) (by decide), fun e => ?_, fun _ e => (by cases e), fun _ _ p np => ?_⟩
  · have ed : ds = [] := by
      rw [e] at lx
      exact List.eq_nil_of_length_eq_zero lx.symm
    rw [ed] at q
    exact q _ _ (Same.refl _) (.tup hb (tpa_one ty))
  · exact q _ _ (same_new np) (tp_new np (tpa_snoc tx ty))
/-- a statement's test, for any end -/
theorem if_cut {tt : TT} {ts te : TS} {D : Ends} {σ : L2.St} {H : Hp} {PA PB : Hp → Prop} (test : ∀ R : Bool → Hp → Prop, (∀ H2, PA H2 → R true H2) → (∀ H2, PB H2 → R false H2) → tt σ H R) (ha : ∀ H2, PA H2 → ts D σ H2) (hb : ∀ H2, PB H2 → te D σ H2) : tIfS tt ts te D σ H :=
  test _ (fun H2 h => iteT (ha H2 h)) (fun H2 h => iteF (hb H2 h))
/-- what stands in a turn of _law_word -/
structure WHi (K : PySem.W.Frag) (H : Hp) (r a : Addr) (ns : List Int) (lf : Addr) (left : List Nat) (fv : V) (wd : List Tok) (H' : Hp) : Prop where
  but : But r H H'
  row : RowOk K H' r a ns
  lft : H' lf = some (.lst (left.map fun (b : Nat) => .int (b : Nat)))
  fnd : Tp K H' fv (wordD wd)
variable {H H1 H2 : Hp} {r a lf : Addr} {ns : List Int} {left : List Nat} {fv : V} {wd : List Tok}
theorem WHi.same (W : WHi K H r a ns lf left fv wd H1) (e : Same H1 H2) : WHi K H r a ns lf left fv wd H2 := ⟨W.but.trans (Same.but e), W.row.same e, e _ _ W.lft, tp_kp W.fnd (kp_same e)⟩
theorem WHi.but' (W : WHi K H r a ns lf left fv wd H1) (ne : lf ≠ r) (e : But r H1 H2) (R : RowOk K H2 r a ns) : WHi K H r a ns lf left fv wd H2 := ⟨W.but.trans e, R, e _ _ ne W.lft, tp_kp W.fnd (W.row.kp e)⟩
theorem erase_perm : ∀ {left : List Nat} {k b : Nat}, left[k]? = some b → ([b] ++ left.eraseIdx k).Perm left
  | [], k, b, h => by simp at h
  | x :: l, 0, b, h => by
    cases (show some x = some b from h)
    exact List.Perm.refl _
  | x :: l, k + 1, b, h => by
    have z := erase_perm (left := l) (k := k) h
    exact (List.Perm.swap x b (l.eraseIdx k)).trans (z.cons x)
theorem erase_map {α β : Type} {f : α → β} : ∀ (l : List α) (k : Nat), (l.map f).eraseIdx k = (l.eraseIdx k).map f
  | [], _ => rfl
  | _ :: _, 0 => rfl
  | x :: l, k + 1 => congrArg (f x :: ·) (erase_map l k)
theorem rgV_range (n : Nat) : rgV 0 (n : Int) = (List.range n).map fun (b : Nat) => V.int (b : Nat) := by
  unfold rgV
  rw [Int.sub_zero, Int.toNat_natCast]
  refine List.map_congr_left fun b _ => ?_
  rw [Int.zero_add]
def spLWord (K : PySem.W.Frag) : Sp := fun vs H Q _ => ∃ r a ns, vs = [.ref r, .int 5] ∧ RowOk K H r a ns ∧ ∀ v H' wd t n, But r H H' → RowOk K H' r a ns → Tp K H' v (wordD wd) → WordOk wd t n → n ≤ 5 → Q v H'
theorem sc_lword : FnScope ["_law_row", "_law_most", "_law_many", "_law_left", "_law_found", "_law_deep", "_law_turn"] ["_law_row", "_law_most"] (defScope sWord) := ⟨rfl, rfl, rfl, by decide +kernel, rfl, by decide +kernel, by decide +kernel⟩
theorem ok_lword (D : Df K mg "_law_word" sWord) (B : Blt mg) (c1 : Cl P w K mg base 1 "_law_taken" (spTaken K)) (c2 : Cl P w K mg base 2 "_law_pick" (spPick K)) : Cl P w K mg base 3 "_law_word" (spLWord K) := by
  refine D.ok sc_lword (fun vs H Q E h => ?_) (fun _ _ _ _ _ _ us hl => match us, hl with | [_, _], _ => rfl) (fun f cdv A outer s H vs Q E hr h => ?_)
  · obtain ⟨r, a, ns, rfl, _⟩ := h
    rfl
  obtain ⟨r, a, ns, rfl, R, q⟩ := h
  have hu := hr.units
  have nd := sc_lword.nd
  refine ⟨_, pss_cons (ps_set (i := 2) nd rfl (.inl rfl) (pe_op op_add pe_int (pe_cl c1 hr (by decide) (by rfl) (pa_cons (pv 0) (pa_cons (pv 1) pa_nil)))))
    (pss_cons (ps_par3 (i := 3) (j := 4) (l := 5) rfl nd rfl rfl rfl (by decide) (by decide) (by decide) rfl rfl rfl (pa_cons (pe_listRg rfl (by rfl) B.list (prg_1 (by rfl) B.range (pv 2))) (pa_cons (pe_tup pa_nil) (pa_cons pe_int pa_nil))) (by rfl))
    (pss_cons (ps_for PassesOwn.never rfl (pi_range1 (by rfl) B.range (pa_cons (pe_op op_sub (pe_op op_mul pe_int (pv 2)) pe_int) pa_nil)) (pg_name (i := 6) nd rfl (.inl rfl))
      (pss_one (ps_if (PW.pt (pw_and (pt_cmpR (op_neD hu) (pv 3) (pe_lst pa_nil) (nomark _)) (pw_and1 (PW.pt (pw_or (pt_cmpR op_lt (pv 5) pe_int (nomark _)) (pw_or1 (pt_cmpR op_eq (pe_cl c1 hr (by decide) (by rfl) (pa_cons (pv 0) (pa_cons pe_int pa_nil))) pe_int (nomark _))))))))
        (pss_one (ps_par (i := 4) (j := 5) rfl nd rfl rfl (by decide) rfl rfl (pa_cons (pe_op op_catA (pv 4) (pe_tup (pa_cons (pe_bm PySem.F.plainAttrs_list PySem.F.slot_list_pop PySem.F.type_list_pop mt_popAt (pv 3)
            (pa_cons (pe_cl c1 hr (by decide) (by rfl) (pa_cons (pv 0) (pa_cons (pe_callB call_len_seq (by rfl) B.len bt_len (pa_cons (pv 3) pa_nil)) pa_nil))) pa_nil)) pa_nil))) (pa_cons (pe_op op_add (pv 5) pe_int) pa_nil)) (by rfl)))
        (pss_one (ps_par (i := 4) (j := 5) rfl nd rfl rfl (by decide) rfl rfl (pa_cons (pe_op op_catA (pv 4) (pe_tup (pa_cons (pe_cl c2 hr (by decide) (by rfl) (pa_cons (pv 0) (pa_cons (pe_lst (pa_cons pe_str (pa_cons pe_str pa_nil))) pa_nil))) pa_nil))) (pa_cons (pe_op op_sub (pv 5) pe_int) pa_nil)) (by rfl))))))
    (pss_one (ps_ret (pv 4))))), ?_⟩
  refine ⟨_, rfl, _, rfl, r, 5, a, ns, rfl, R, ⟨by decide, by decide⟩, fun z H1 z0 z1 b1 R1 => ⟨1, z, rfl, rfl, ?_⟩⟩
  obtain ⟨m, rfl⟩ := Int.eq_ofNat_of_zero_le z0
  refine ⟨_, rfl, _, rfl, RgOk.of_le (by omega) (by omega) (by omega) (by omega), fun lf nlf => ⟨Nat.zero_le _, fun tp ntp => ?_⟩⟩
  refine ⟨_, _, _, rfl, ?_⟩
  obtain ⟨n, en⟩ : ∃ n : Nat, (1 : Int) + (m : Int) = (n : Nat) := ⟨m + 1, by omega⟩
  have hn : 1 ≤ n ∧ n ≤ 5 := by omega
  have hlf : H lf = none := but_fresh b1 (fun z => by obtain ⟨_, _, _, k, _⟩ := R1.ex; rw [k] at z; cases z) nlf
  have ne : lf ≠ r := R.ne hlf
  have netp : tp ≠ lf := fun e => by
    rw [e, upd_same] at ntp
    cases ntp
  have s1 : Same H1 (upd H1 lf (.lst (rgV 0 (1 + (m : Int))))) := same_new nlf
  have s2 : Same (upd H1 lf (.lst (rgV 0 (1 + (m : Int))))) (upd (upd H1 lf (.lst (rgV 0 (1 + (m : Int))))) tp (.tup [])) := same_new ntp
  refine ⟨_, rfl, 2, _, rfl, rfl, .inl ⟨by decide, by decide⟩, _, 1, rfl, rfl, _, rfl, by omega, by omega, for_range (fun i σ H' => ∃ (ts : List T) (left : List Nat) (wd : List Tok) (fv : V) (y6 : Option V), σ = [some (.ref r), some (.int 5), some (.int (1 + (m : Int))), some (.ref lf), some fv, some (.int (ts.length : Nat)), y6] ∧
      WHi K H r a ns lf left fv wd H' ∧ wd.length = i ∧ Run [] wd ts ∧ (nums wd ++ left).Perm (List.range n))
    ⟨[], List.range n, [], _, none, rfl, ⟨b1.trans (Same.but (s1.trans s2)), R1.same (s1.trans s2), ?_, ?_⟩, rfl, .nil _, List.Perm.refl _⟩ ?_ ?_⟩
  · rw [upd_ne netp.symm, upd_same, en, rgV_range]
  · exact .tup (SqT.of upd_same) .nil
  · rintro i σ H2 hi ⟨ts, left, wd, fv, y6, rfl, W, hwl, run, perm⟩
    have hcount := run.count
    have hperm := perm.length_eq
    rw [List.length_append, List.length_range] at hperm
    rw [List.length_nil, Nat.zero_add] at hcount
    have hi2 : i < 2 * n - 1 := by omega
    refine if_cut (PA := fun H2 => WHi K H r a ns lf left fv wd H2 ∧ left ≠ []) (PB := fun H2 => WHi K H r a ns lf left fv wd H2 ∧ 2 ≤ ts.length) (fun R' ra rb => ?_) ?_ ?_
    · refine ⟨_, rfl, Nat.zero_le _, fun e he => ?_⟩
      have se : Same H2 (upd H2 e (.lst [])) := same_new he
      have We := W.same se
      refine ⟨.list (left.map fun (b : Nat) => .int (b : Nat)), .list [], .lst (.inl (.inl We.lft)) ?_, .lst (.inl (.inl upd_same)) .nil, shaped_list fun d hd => ?_, shaped_nil, _, rfl, ?_⟩
      · have z : TpAll K (upd H2 e (.lst [])) ((left.map fun (b : Nat) => (b : Int)).map V.int) ((left.map fun (b : Nat) => (b : Int)).map PyData.int) := tpa_ints _
        rw [List.map_map, List.map_map] at z
        exact tpa_dp z
      · obtain ⟨b, _, rfl⟩ := List.mem_map.mp hd
        exact ⟨rfl, by simp [PyData.depth]⟩
      rw [eqv_nil]
      rcases List.eq_nil_or_concat left with el | ⟨l', b', el⟩
      · subst el
        have z2 : 2 ≤ ts.length := by
          have z : ([] : List Nat).length = 0 := rfl
          omega
        exact iteF (rb _ ⟨We, z2⟩)
      · have ne2 : left ≠ [] := by rw [el]; simp
        have em : ((left.map fun (b : Nat) => PyData.int (b : Nat)).isEmpty) = false := by
          rw [List.isEmpty_eq_false_iff]
          simpa using ne2
        rw [em]
        refine iteT ?_
        refine ⟨_, rfl, _, 2, rfl, rfl, _, rfl, ?_⟩
        refine isTrue_iff (fun c => ra _ ⟨We, ne2⟩) (fun c => ?_)
        have c' := of_decide_eq_false c
        refine ⟨_, rfl, r, 2, a, ns, rfl, We.row, ⟨by decide, by decide⟩, fun z H3 z0 z1 b3 R3 => ?_⟩
        have W3 := We.but' ne b3 R3
        refine ⟨rfl, _, rfl, ?_⟩
        by_cases d : z = 0
        · rw [d, decide_eq_true rfl]
          exact ra _ ⟨W3, ne2⟩
        · rw [decide_eq_false (fun e => d (by injection e))]
          exact rb _ ⟨W3, by omega⟩
    · rintro H3 ⟨W3, hne⟩
      have lpos := List.length_pos_iff.mpr hne
      refine ⟨_, rfl, _, rfl, .inl ⟨rfl, _, .inl (.inl W3.lft)⟩, _, rfl, _, rfl, lf, _, rfl, .inl (.inl (.inl W3.lft)), r, _, a, ns, rfl, W3.row, ⟨by rw [List.length_map]; omega, by rw [List.length_map]; omega⟩, fun z H4 z0 z1 b4 R4 => ?_⟩
      have W4 := W3.but' ne b4 R4
      obtain ⟨k, rfl⟩ := Int.eq_ofNat_of_zero_le z0
      rw [List.length_map] at z1
      have hk : k < left.length := by omega
      obtain ⟨b, hb⟩ : ∃ b, left[k]? = some b := ⟨_, List.getElem?_eq_getElem hk⟩
      refine ⟨lf, _, (k : Nat), k, .int (b : Nat), rfl, rfl, W4.lft, by omega, by omega, seqIx_nat (by rw [List.length_map]; exact hk), by rw [List.getElem?_map, hb]; rfl, by show 1 ≤ sizeLine; decide, fun p np => ?_⟩
      have k5 : Kp K H4 (upd H4 lf (.lst ((left.map fun (b : Nat) => V.int (b : Nat)).eraseIdx k))) := kp_lst W4.lft
      have s5 := same_new (o := .tup [V.int (b : Nat)]) np
      have lwd := W4.fnd
      refine cat_one (ds := wd.map tokD) (d := tokD (.num b)) (tp_kp W4.fnd (k5.trans (kp_same s5))) (SqT.of upd_same) (.int _) (by rw [List.length_map]; omega) fun v H6 s6 tv => ?_
      refine ⟨_, rfl, _, 1, rfl, rfl, _, _, rfl, ?_⟩
      have b5 : But r H (upd H4 lf (.lst ((left.map fun (b : Nat) => V.int (b : Nat)).eraseIdx k))) := W4.but.mut hlf
      have R5 : RowOk K (upd H4 lf (.lst ((left.map fun (b : Nat) => V.int (b : Nat)).eraseIdx k))) r a ns := R.mut W4.but W4.row hlf
      have s56 := s5.trans s6
      have el : (left.map fun (b : Nat) => V.int (b : Nat)).eraseIdx k = (left.eraseIdx k).map fun (b : Nat) => V.int (b : Nat) := erase_map _ _
      refine ⟨ts ++ [.leaf b], left.eraseIdx k, wd ++ [.num b], v, some (.int (0 + (i : Nat))), ?_, ⟨b5.trans (Same.but s56), R5.same s56, ?_, ?_⟩, by rw [List.length_append, hwl]; rfl, run.append (.num b (.nil _)), ?_⟩
      · rw [List.length_append]
        rfl
      · rw [← el]
        exact s56 _ _ upd_same
      · have z : wordD (wd ++ [.num b]) = .tuple (wd.map tokD ++ [tokD (.num b)]) := by
          unfold wordD
          rw [List.map_append]
          rfl
        rw [z]
        exact tv
      · rw [nums_append]
        have z : (nums wd ++ nums [.num b] ++ left.eraseIdx k).Perm (nums wd ++ left) := by
          rw [List.append_assoc]
          exact List.Perm.append_left _ (erase_perm hb)
        exact z.trans perm
    · rintro H3 ⟨W3, h2⟩
      obtain ⟨st, l, r', ets⟩ : ∃ st l r', ts = st ++ [l, r'] := by
        rcases List.eq_nil_or_concat ts with e | ⟨t1, r', e⟩
        · rw [e] at h2
          have z : ([] : List T).length = 0 := rfl
          omega
        · have e' : ts = t1 ++ [r'] := by simpa using e
          rcases List.eq_nil_or_concat t1 with e1 | ⟨t0, l, e1⟩
          · rw [e', e1] at h2
            have z : ([] ++ [r'] : List T).length = 1 := rfl
            omega
          · have e1' : t1 = t0 ++ [l] := by simpa using e1
            exact ⟨t0, l, r', by rw [e', e1', List.append_assoc]; rfl⟩
      refine ⟨_, rfl, _, rfl, by show 2 ≤ sizeLine; decide, fun e he => ?_⟩
      have se := same_new (o := .lst [.str "H", .str "V"]) he
      have We := W3.same se
      have nee : e ≠ r := We.row.ne (p := e) |> fun _ => W3.row.ne he
      refine ⟨r, e, _, a, ns, rfl, We.row, upd_same, nee, ⟨by decide, by decide⟩, fun v H4 hv b4 R4 => ?_⟩
      have W4 := We.but' ne b4 R4
      obtain ⟨h, rfl⟩ : ∃ h, v = .str (ltr h) := by
        rcases List.mem_cons.mp hv with e | e
        · exact ⟨true, e⟩
        · exact ⟨false, List.mem_singleton.mp e⟩
      refine ⟨by show 1 ≤ sizeLine; decide, fun p np => ?_⟩
      have s5 := same_new (o := .tup [V.str (ltr h)]) np
      refine cat_one (ds := wd.map tokD) (d := tokD (.op h)) (tp_kp W4.fnd (kp_same s5)) (SqT.of upd_same) (.str _) (by rw [List.length_map]; omega) fun v H6 s6 tv => ?_
      refine ⟨_, rfl, _, 1, rfl, rfl, _, _, rfl, ?_⟩
      have W6 := W4.same (s5.trans s6)
      refine ⟨st ++ [.node h l r'], left, wd ++ [.op h], v, some (.int (0 + (i : Nat))), ?_, ⟨W6.but, W6.row, W6.lft, ?_⟩, by rw [List.length_append, hwl]; rfl, ?_, ?_⟩
      · have ez : ((ts.length : Int) - 1) = (((st ++ [T.node h l r']).length : Nat) : Int) := by
          rw [ets, List.length_append, List.length_append]
          show (((st.length + 2 : Nat) : Int) - 1) = ((st.length + 1 : Nat) : Int)
          omega
        rw [← ez]
        rfl
      · have z : wordD (wd ++ [.op h]) = .tuple (wd.map tokD ++ [tokD (.op h)]) := by
          unfold wordD
          rw [List.map_append]
          rfl
        rw [z]
        exact tv
      · rw [ets] at run
        exact run.append (.op h l r' (.nil _))
      · rw [nums_append]
        have z : nums wd ++ nums [.op h] = nums wd := List.append_nil _
        rw [z]
        exact perm
  · rintro σ H2 ⟨ts, left, wd, fv, y6, rfl, W, hwl, run, perm⟩
    have hcount := run.count
    have hperm := perm.length_eq
    rw [List.length_append, List.length_range] at hperm
    rw [List.length_nil, Nat.zero_add] at hcount
    have e1 : ts.length = 1 := by omega
    have e0 : left.length = 0 := by omega
    obtain ⟨t, et⟩ := List.length_eq_one_iff.mp e1
    have el := List.eq_nil_of_length_eq_zero e0
    rw [el, List.append_nil] at perm
    rw [et] at run
    exact ⟨_, rfl, q fv H2 wd t n W.but W.row W.fnd ⟨run, perm, hn.1⟩ hn.2⟩
end
end K4
set_option maxHeartbeats 4000000
/-! _law_size, _law_choices -/
namespace K4
open PySem PySem.Spec PyProof.Rows L2
section
variable {P : Program} {w : World} {K : PySem.W.Frag} {mg : Str → Option Value} {base : Heap}
theorem depth_pos' (t : T) : 1 ≤ depth t := by cases t <;> simp [depth]
def spLSize (K : PySem.W.Frag) (n : Nat) : Sp := fun vs H Q _ => ∃ a v xs ss t, vs = [.ref a, v] ∧ SqL K H a xs ∧ TpAll K H xs (ss.map szD) ∧ Tp K H v (treeD t) ∧ depth t ≤ n ∧ (∀ b ∈ leaves t, b < ss.length) ∧
  ∀ v' H', Same H H' → Tp K H' v' (szD (sizeT ss t)) → Q v' H'
theorem sc_lsize : FnScope ["_law_sizes", "_law_tree_here"] ["_law_sizes", "_law_tree_here"] (defScope sLSize) := ⟨rfl, rfl, rfl, by decide +kernel, rfl, by decide +kernel, by decide +kernel⟩
theorem ok_lsize (D : Df K mg "_law_size" sLSize) (B : Blt mg) (c1 : Cl P w K mg base 1 "_law_put" (spPut K)) : ∀ n, Cl P w K mg base (n + 1) "_law_size" (spLSize K n)
  | 0 => by
    refine D.ok sc_lsize (fun vs H Q E h => ?_) (fun _ _ _ _ _ _ us hl => match us, hl with | [_, _], _ => rfl) (fun f cdv A outer s H vs Q E hr h => ?_)
    · obtain ⟨a, v, xs, ss, t, rfl, _⟩ := h
      rfl
    · obtain ⟨a, v, xs, ss, t, rfl, _, _, _, hd, _⟩ := h
      have z := depth_pos' t
      omega
  | n + 1 => by
    have ih := ok_lsize D B c1 n
    refine D.ok sc_lsize (fun vs H Q E h => ?_) (fun _ _ _ _ _ _ us hl => match us, hl with | [_, _], _ => rfl) (fun f cdv A outer s H vs Q E hr h => ?_)
    · obtain ⟨a, v, xs, ss, t, rfl, _⟩ := h
      rfl
    obtain ⟨a, v, xs, ss, t, rfl, ha, tx, tv, hd, hlv, q⟩ := h
    have nd := sc_lsize.nd
    refine ⟨_, pss_cons (ps_if (pt_not (pt_val (pe_callB call_isi (by rfl) B.isi bt_isi (pa_cons (pv 1) (pa_cons (pe_bltn (v := .ty "tuple") (by rfl) B.tuple bt_tuple rfl) pa_nil)))))
        (pss_one (ps_ret (pe_ix ix_list (pv 0) (pv 1) (fun _ _ => rfl)))) pss_nil)
      (pss_one (ps_ret (pe_cl c1 hr (by omega) (by rfl) (pa_cons (pe_ix ix_tup (pv 1) pe_int (fun _ _ => rfl))
        (pa_cons (pe_cl ih hr (by omega) (by rfl) (pa_cons (pv 0) (pa_cons (pe_ix ix_tup (pv 1) pe_int (fun _ _ => rfl)) pa_nil)))
        (pa_cons (pe_cl ih hr (by omega) (by rfl) (pa_cons (pv 0) (pa_cons (pe_ix ix_tup (pv 1) pe_int (fun _ _ => rfl)) pa_nil))) pa_nil)))))), ?_⟩
    cases t with
    | leaf b =>
      obtain rfl := tp_int (i := (b : Nat)) tv
      have hb : b < ss.length := hlv b List.mem_cons_self
      obtain ⟨p, hp⟩ : ∃ p, ss[b]? = some p := ⟨_, List.getElem?_eq_getElem hb⟩
      obtain ⟨vs, hvs, tvs⟩ := tpa_get (i := b) tx (by rw [List.getElem?_map, hp]; rfl)
      refine ⟨_, rfl, _, _, _, _, false, rfl, .ty _, ty_int, k_int_tuple, false, rfl, iteT ?_⟩
      refine ⟨_, rfl, _, rfl, a, xs, (b : Nat), vs, rfl, rfl, ha, atI_nat hvs, q _ _ (Same.refl _) ?_⟩
      have e : sizeT ss (.leaf b) = p := by
        show ss.getD b (0, 0) = p
        rw [List.getD_eq_getElem?_getD, hp]
        rfl
      rw [e]
      exact tvs
    | node h l r =>
      obtain ⟨ta, tx', rfl, hta, ttx⟩ := tp_tup tv
      obtain ⟨vl, vr, rfl, tvl, tvr⟩ : ∃ vl vr, tx' = [.str (ltr h), vl, vr] ∧ Tp K H vl (treeD l) ∧ Tp K H vr (treeD r) := by
        cases ttx with
        | cons h1 h2 =>
          obtain ⟨vl, vr, rfl, a, b⟩ := tpa_two h2
          obtain rfl := tp_str h1
          exact ⟨vl, vr, rfl, a, b⟩
      have hdl : depth l ≤ n ∧ depth r ≤ n := by
        have z : max (depth l) (depth r) + 1 ≤ n + 1 := hd
        omega
      refine ⟨_, rfl, _, _, _, _, true, rfl, .ty _, ty_sqT hta, k_tup_tup, true, rfl, iteF ?_⟩
      refine ⟨_, rfl, ta, _, 0, _, rfl, rfl, hta, at0 _ _, ?_⟩
      refine ⟨_, rfl, _, rfl, ta, _, 1, _, rfl, rfl, hta, at1 _ _ _, a, vl, xs, ss, l, rfl, ha, tx, tvl, hdl.1, fun b hb => hlv b (List.mem_append_left _ hb), fun v1 H1 s1 t1 => ?_⟩
      refine ⟨_, rfl, _, rfl, ta, _, 2, _, rfl, rfl, same_sqT s1 hta, at2 _ _ _ _, a, vr, xs, ss, r, rfl, s1.seq ha, tpa_kp tx (kp_same s1), tp_kp tvr (kp_same s1), hdl.2, fun b hb => hlv b (List.mem_append_right _ hb), fun v2 H2 s2 t2 => ?_⟩
      refine ⟨h, v1, v2, _, _, rfl, tp_hd (tp_kp t1 (kp_same s2)), tp_hd t2, fun p H3 s3 hp => ?_⟩
      exact q _ _ (s1.trans (s2.trans s3)) (.tup (SqT.of hp) (.cons (.int _) (.cons (.int _) .nil)))

/-! ### _law_choices -/
theorem choiceD_snoc (c : List Nat) (k : Nat) : choiceD (c ++ [k]) = .tuple (c.map (fun (a : Nat) => PyData.int (a : Nat)) ++ [.int (k : Nat)]) := by
  unfold choiceD
  rw [List.map_append]
  rfl
/-- each one of some, longer by the indexes below n -/
theorem longer_take {found : List (List Nat)} {n j : Nat} {one : List Nat} (h : found[j]? = some one) : longer (found.take (j + 1)) n = longer (found.take j) n ++ (List.range n).map fun a => one ++ [a] := by
  unfold longer
  rw [List.take_succ, h, List.flatMap_append]
  simp
theorem choices_each : ∀ (k : Nat) (lens : List Nat), lens.length = k → ∀ c ∈ choices lens, c.length = k := fun k lens h c hc => by
  have z := ((mem_choices k lens h c).1 hc).1
  omega
def spChoices (K : PySem.W.Frag) : Sp := fun vs H Q _ => ∃ v bs, vs = [v] ∧ Tp K H v (blocksD bs) ∧ (∀ ss ∈ bs, ss.length ≤ 3) ∧ bs.length ≤ 5 ∧
  ∀ p ys H', H p = none → Same H H' → H' p = some (.lst ys) → TpAll K H' ys ((choices (bs.map List.length)).map choiceD) → Q (.ref p) H'
theorem sc_choices : FnScope ["_law_blocks_here", "_law_found", "_law_sizes", "_law_longer", "_law_one", "_law_at"] ["_law_blocks_here"] (defScope sChoices) := ⟨rfl, rfl, rfl, by decide +kernel, rfl, by decide +kernel, by decide +kernel⟩
theorem ok_choices (D : Df K mg "_law_choices" sChoices) (B : Blt mg) : Cl P w K mg base 1 "_law_choices" (spChoices K) := by
  refine D.ok sc_choices (fun vs H Q E h => ?_) (fun _ _ _ _ _ _ us hl => match us, hl with | [_], _ => rfl) (fun f cdv A outer s H vs Q E hr h => ?_)
  · obtain ⟨v, bs, rfl, _⟩ := h
    rfl
  obtain ⟨v, bs, rfl, tv, h3, h5, q⟩ := h
  have nd := sc_choices.nd
  obtain ⟨a, xs, rfl, ha, tx⟩ := tp_tup tv
  have lx := tpa_len tx
  rw [List.length_map] at lx
  refine ⟨_, pss_cons (ps_set (i := 1) nd rfl (.inl rfl) (pe_lst (pa_cons (pe_tup pa_nil) pa_nil)))
    (pss_cons (ps_for PassesOwn.never rfl (pi_tup (pv 0)) (pg_name (i := 2) nd rfl (.inl rfl))
      (pss_cons (ps_set (i := 3) nd rfl (.inl rfl) (pe_lst pa_nil))
      (pss_cons (ps_for PassesOwn.never rfl (pi_list (pv 1)) (pg_name (i := 4) nd rfl (.inr rfl))
        (pss_one (ps_set (i := 3) nd rfl (.inl rfl) (pe_op op_cat (pv 3) (pe_lc (own := [("_law_at", 5)]) (g := gName 5) (tt := tYes)
          (te := tOp (rCatA K) (tVar 4) (tTup (tCons (tVar 5) tNil))) rfl nd
          (pi_range1 (by rfl) B.range (pa_cons (pe_callB call_len_seq (by rfl) B.len bt_len (pa_cons (pv 2) pa_nil)) pa_nil)) (blkOk_by (N := ["_law_blocks_here", "_law_found", "_law_sizes", "_law_longer", "_law_one", "_law_at"]) (sc := defScope sChoices) (by decide +kernel))
          (fun _ _ _ _ _ => pg_name (i := 5) nd rfl (Or.inl rfl)) (fun _ _ _ _ _ => pts_nil)
          (fun _ _ _ _ _ => pe_op (by exact op_catA) (pv 4) (pe_tup (pa_cons (pv 5) pa_nil))))))))
      (pss_one (ps_set (i := 1) nd rfl (.inl rfl) (pv 3))))))
    (pss_one (ps_ret (pv 1)))), ?_⟩
  refine ⟨Nat.zero_le _, fun tp ntp => ⟨by show 1 ≤ sizeLine; decide, fun fd nfd => ?_⟩⟩
  have s1 := same_new (o := .tup []) ntp
  have s2 := same_new (o := .lst [.ref tp]) nfd
  have lens3 : ∀ i, ∀ n ∈ (bs.take i).map List.length, n ≤ 3 := fun i n hn => by
    obtain ⟨ss, hss, rfl⟩ := List.mem_map.mp hn
    exact h3 ss (List.mem_of_mem_take hss)
  have chl : ∀ i, i ≤ bs.length → (choices ((bs.take i).map List.length)).length ≤ 243 := fun i hi => by
    have z := choices_len3 i ((bs.take i).map List.length) (by rw [List.length_map, List.length_take]; omega) (lens3 i)
    exact Nat.le_trans z (Nat.pow_le_pow_right (by decide) (Nat.le_trans hi h5))
  refine ⟨.ref a, rfl, a, rfl, ⟨_, same_sqT (s1.trans s2) ha⟩, for_tup (K := K) (a := a) (xs := xs) (fun i σ H' => ∃ (y2 y3 y4 y5 : Option V) (fd : Addr) (ys : List V), σ = [some (.ref a), some (.ref fd), y2, y3, y4, y5] ∧ Same H H' ∧ H' fd = some (.lst ys) ∧ TpAll K H' ys ((choices ((bs.take i).map List.length)).map choiceD) ∧ H fd = none)
    ⟨none, none, none, none, fd, _, rfl, s1.trans s2, upd_same, ?_, s1.free nfd⟩ (fun i σ H' _ ⟨_, _, _, _, _, _, _, k, _⟩ => same_sqT k ha) ?_ ?_⟩
  · exact tpa_one (tp_kp (tp_new ntp .nil) (kp_same s2))
  · rintro i x σ H2 hx ⟨y2, y3, y4, y5, fd, ys, rfl, sm, hf, tys, _⟩
    obtain ⟨ss, hss, tss⟩ := bl_at tx hx
    have hi : i < bs.length := (List.getElem?_eq_some_iff.mp hss).1
    have lss := h3 ss (List.mem_of_getElem? hss)
    obtain ⟨sa, sv, rfl, hsa, tsv⟩ := tp_tup tss
    have lsv := tpa_len tsv
    rw [List.length_map] at lsv
    obtain ⟨found, efd⟩ : ∃ found, found = choices ((bs.take i).map List.length) := ⟨_, rfl⟩
    rw [← efd] at tys
    have lfd : found.length ≤ 243 := by rw [efd]; exact chl i (by omega)
    have each : ∀ c ∈ found, c.length ≤ 5 := fun c hc => by
      rw [efd] at hc
      have z := choices_each i _ (by rw [List.length_map, List.length_take]; omega) c hc
      omega
    have lys := tpa_len tys
    rw [List.length_map] at lys
    have enext : choices ((bs.take (i + 1)).map List.length) = longer found ss.length := by
      rw [List.take_succ, hss, List.map_append, efd]
      exact choices_snoc _ _
    have lnext : (longer found ss.length).length ≤ 729 := by
      rw [longer_len]
      exact Nat.mul_le_mul lfd lss
    refine ⟨Nat.zero_le _, fun lg nlg => ?_⟩
    have s3 := same_new (o := .lst []) nlg
    refine ⟨_, rfl, fd, rfl, ⟨ys, .inl (.inl (s3 _ _ hf))⟩, for_list (K := K) (a := fd) (xs := ys) (fun j σ H' => ∃ (y4 y5 : Option V) (lg : Addr) (zs : List V), σ = [some (.ref a), some (.ref fd), some (.ref sa), some (.ref lg), y4, y5] ∧ Same H2 H' ∧ H' lg = some (.lst zs) ∧ TpAll K H' zs ((longer (found.take j) ss.length).map choiceD) ∧ H lg = none)
      ⟨_, _, lg, [], rfl, s3, upd_same, .nil, sm.free nlg⟩ (fun j σ H' _ ⟨_, _, _, _, _, k, _⟩ => .inl (.inl (k _ _ hf))) ?_ ?_⟩
    · rintro j x σ H3 hx3 ⟨y4, y5, lg, zs, rfl, sm3, hlg, tzs, _⟩
      obtain ⟨d, hd, tx3⟩ := tpa_at tys hx3
      rw [List.getElem?_map] at hd
      obtain ⟨one, hone, rfl⟩ := Option.map_eq_some_iff.mp hd
      have lone := each one (List.mem_of_getElem? hone)
      have sm23 := sm.trans sm3
      have lzs := tpa_len tzs
      rw [List.length_map] at lzs
      have lzs2 : zs.length + ss.length ≤ 729 := by
        have z : longer (found.take (j + 1)) ss.length = _ := longer_take hone
        have z1 := congrArg List.length z
        rw [longer_len, List.length_append, List.length_map, List.length_range, ← lzs, List.length_take] at z1
        have z2 : min (j + 1) found.length * ss.length ≤ 243 * 3 := Nat.mul_le_mul (by omega) lss
        omega
      refine ⟨_, rfl, _, rfl, sa, sv, rfl, .inr (same_sqT sm23 hsa), _, rfl, by omega, by omega, fun Dl hD => ?_⟩
      rw [Int.toNat_natCast, lsv]
      refine lc_range (fun k H' => Same H3 H' ∧ ∃ us, H' Dl = some (.lst us) ∧ us.length = k ∧ TpAll K H' us (((List.range k).map fun a => one ++ [a]).map choiceD)) ⟨same_new hD, [], upd_same, rfl, .nil⟩ ?_ ?_
      · rintro k H4 hk ⟨s4, us, hus, lus, tus⟩
        refine ⟨rfl, ?_⟩
        refine ⟨_, rfl, _, rfl, by show 1 ≤ sizeLine; decide, fun p np => ?_⟩
        have s5 := same_new (o := .tup [V.int (0 + (k : Nat))]) np
        have ek : (0 : Int) + (k : Nat) = (k : Nat) := by omega
        refine cat_one (ds := one.map fun (a : Nat) => PyData.int (a : Nat)) (d := .int (k : Nat)) (tp_kp tx3 (kp_same (sm3.trans (s4.trans s5)))) (SqT.of upd_same) (by rw [ek]; exact .int _) (by rw [List.length_map]; omega) fun v H6 s6 tv => ?_
        have hus6 := s6 _ _ (s5 _ _ hus)
        refine ⟨us, hus6, small1000 (by omega), same_mut (s4.trans (s5.trans s6)) hD, us ++ [v], upd_same, by rw [List.length_append, lus]; rfl, ?_⟩
        rw [List.range_succ, List.map_append, List.map_append]
        have tv' : Tp K H6 v (choiceD (one ++ [k])) := by
          rw [choiceD_snoc]
          exact tv
        have k6 : Kp K H6 (upd H6 Dl (.lst (us ++ [v]))) := kp_lst hus6
        exact tpa_snoc (tpa_kp tus ((kp_same (s5.trans s6)).trans k6)) (tp_kp tv' k6)
      · rintro H4 ⟨s4, us, hus, lus, tus⟩
        refine ⟨lg, Dl, zs, us, rfl, rfl, s4 _ _ hlg, hus, Nat.le_trans (show zs.length + us.length ≤ 729 by omega) (by decide), fun p np => ?_⟩
        have s5 := same_new (o := .lst (zs ++ us)) np
        refine ⟨_, _, p, _, rfl, sm3.trans (s4.trans s5), upd_same, ?_, (sm23.trans s4).free np⟩
        rw [longer_take hone, List.map_append]
        exact tpa_append (tpa_kp tzs (kp_same (s4.trans s5))) (tpa_kp tus (kp_same s5))
    · rintro σ H3 ⟨y4, y5, lg, zs, rfl, sm3, hlg, tzs, hfree⟩
      rw [lys, List.take_length, ← enext] at tzs
      exact ⟨_, rfl, _, _, _, _, lg, zs, rfl, sm.trans sm3, hlg, tzs, hfree⟩
  · rintro σ H2 ⟨y2, y3, y4, y5, fd, ys, rfl, sm, hf, tys, hfree⟩
    rw [lx, List.take_length] at tys
    exact ⟨_, rfl, q fd ys H2 hfree sm hf tys⟩
end
end K4
set_option maxHeartbeats 4000000
/-! _law_blocks -/
namespace K4
open PySem PySem.Spec PyProof.Rows L2
section
variable {P : Program} {w : World} {K : PySem.W.Frag} {mg : Str → Option Value} {base : Heap}
theorem seq_cut {t u : TS} {D : Ends} {σ : L2.St} {H : Hp} (M : L2.St → Hp → Prop) (h1 : ∀ N : L2.St → Hp → Prop, (∀ σ' H', M σ' H' → N σ' H') → t { D with nx := N } σ H) (h2 : ∀ σ' H', M σ' H' → u D σ' H') : tSeq t u D σ H := h1 _ h2
theorem cut_first {α : Type} (x : V) (r : List V) : cutV (x :: r) none (some 1) = [x] := by
  unfold cutV
  have e0 : HT.sIx (x :: r).length 0 none = 0 := rfl
  have e1 : HT.sIx (x :: r).length (x :: r).length (some 1) = 1 := by
    rw [show ((1 : Int)) = ((1 : Nat) : Int) from rfl, HT.sIx_nat]
    simp only [List.length_cons]
    omega
  rw [e0, e1]
  rfl
def GoodB (bs : List (List Sz)) : Prop := ∀ ss ∈ bs, (1 ≤ ss.length ∧ ss.length ≤ 3) ∧ ∀ p ∈ ss, SideOk p
theorem goodB_snoc {bs : List (List Sz)} {ss : List Sz} (h : GoodB bs) (k : (1 ≤ ss.length ∧ ss.length ≤ 3) ∧ ∀ p ∈ ss, SideOk p) : GoodB (bs ++ [ss]) := fun x hx => by
  rcases List.mem_append.mp hx with z | z
  · exact h x z
  · rw [List.mem_singleton.mp z]
    exact k
def spLBlocks (K : PySem.W.Frag) : Sp := fun vs H Q _ => ∃ (r a : Addr) (ns : List Int) (many : Nat) (most : Int), vs = [.ref r, .int (many : Nat), .int most] ∧ RowOk K H r a ns ∧ (1 ≤ many ∧ many ≤ 5) ∧ (1 ≤ most ∧ most ≤ 30) ∧
  ∀ v H' bs, But r H H' → RowOk K H' r a ns → Tp K H' v (blocksD bs) → bs.length = many → GoodB bs → Q v H'
theorem sc_lblocks : FnScope ["_law_row", "_law_many", "_law_most", "_law_found", "_law_block", "_law_sizes", "_law_turn"] ["_law_row", "_law_many", "_law_most"] (defScope sBlocks) := ⟨rfl, rfl, rfl, by decide +kernel, rfl, by decide +kernel, by decide +kernel⟩
theorem ok_lblocks (D : Df K mg "_law_blocks" sBlocks) (B : Blt mg) (c1 : Cl P w K mg base 1 "_law_taken" (spTaken K)) : Cl P w K mg base 2 "_law_blocks" (spLBlocks K) := by
  refine D.ok sc_lblocks (fun vs H Q E h => ?_) (fun _ _ _ _ _ _ us hl => match us, hl with | [_, _, _], _ => rfl) (fun f cdv A outer s H vs Q E hr h => ?_)
  · obtain ⟨r, a, ns, many, most, rfl, _⟩ := h
    rfl
  obtain ⟨r, a, ns, many, most, rfl, R, hmany, hmost, q⟩ := h
  have nd := sc_lblocks.nd
  refine ⟨_, pss_cons (ps_set (i := 3) nd rfl (.inl rfl) (pe_lst pa_nil))
    (pss_cons (ps_for PassesOwn.never rfl (pi_range1 (by rfl) B.range (pa_cons (pv 1) pa_nil)) (pg_name (i := 4) nd rfl (.inl rfl))
      (pss_cons (ps_setLc (i := 5) (own := [("_law_turn", 6)]) (g := gName 6) (tt := tYes) rfl nd rfl rfl (sw_true rfl rfl rfl (by decide +kernel))
          (pi_range1 (by rfl) B.range (pa_cons (pe_op op_add pe_int (pe_cl c1 hr (by decide) (by rfl) (pa_cons (pv 0) (pa_cons pe_int pa_nil)))) pa_nil)) (blkOk_by (N := ["_law_row", "_law_many", "_law_most", "_law_found", "_law_block", "_law_sizes", "_law_turn"]) (sc := defScope sBlocks) (by decide +kernel))
          (fun _ _ _ _ _ => pg_name (i := 6) nd rfl (Or.inl rfl)) (fun _ _ _ _ _ => pts_nil)
          (fun _ _ _ _ _ => pe_tup (pa_cons (pe_op op_add pe_int (pe_cl c1 hr (by decide) (by rfl) (pa_cons (pv 0) (pa_cons (pv 2) pa_nil)))) (pa_cons (pe_op op_add pe_int (pe_cl c1 hr (by decide) (by rfl) (pa_cons (pv 0) (pa_cons (pv 2) pa_nil)))) pa_nil))))
      (pss_cons (ps_if (pt_cmpR op_eq (pe_cl c1 hr (by decide) (by rfl) (pa_cons (pv 0) (pa_cons pe_int pa_nil))) pe_int (nomark _))
        (pss_one (ps_set (i := 5) nd rfl (.inl rfl) (pe_op op_cat (pe_slice sl_list (pv 5) po_none (po_some pe_int)) (pe_lst (pa_cons (pe_tup (pa_cons (pe_ix ix_tup (pe_ix ix_list (pv 5) pe_int (fun _ _ => rfl)) pe_int (fun _ _ => rfl)) (pa_cons (pe_ix ix_tup (pe_ix ix_list (pv 5) pe_int (fun _ _ => rfl)) pe_int (fun _ _ => rfl)) pa_nil))) pa_nil))))) pss_nil)
      (pss_one (ps_expr (pe_bm PySem.F.plainAttrs_list PySem.F.slot_list_append PySem.F.type_list_append mt_append (pv 3) (pa_cons (pe_callTy call_tuple_of (by rfl) B.tuple bt_tuple (pa_cons (pv 5) pa_nil)) pa_nil)))))))
    (pss_one (ps_ret (pe_callTy call_tuple_of (by rfl) B.tuple bt_tuple (pa_cons (pv 3) pa_nil))))), ?_⟩
  refine ⟨Nat.zero_le _, fun fd hfd => ?_⟩
  have s1 := same_new (o := .lst []) hfd
  have nef : fd ≠ r := R.ne hfd
  refine ⟨_, rfl, _, rfl, by omega, by omega, for_range (fun i σ H' => ∃ (y4 y5 y6 : Option V) (ys : List V) (bs : List (List Sz)), σ = [some (.ref r), some (.int (many : Nat)), some (.int most), some (.ref fd), y4, y5, y6] ∧ But r H H' ∧ RowOk K H' r a ns ∧ H' fd = some (.lst ys) ∧ TpAll K H' ys (bs.map sizesD) ∧ bs.length = i ∧ GoodB bs)
    ⟨none, none, none, [], [], rfl, Same.but s1, R.same s1, upd_same, .nil, rfl, fun x hx => by cases hx⟩ ?_ ?_⟩
  · rintro i σ H1 hi ⟨y4, y5, y6, ys, bs, rfl, b1, R1, hf1, ty1, lbs, gb⟩
    have lys := tpa_len ty1
    rw [List.length_map] at lys
    refine seq_cut (fun σ' H' => ∃ (y4 y6 : Option V) (sl : Addr) (us : List V) (ss : List Sz), σ' = [some (.ref r), some (.int (many : Nat)), some (.int most), some (.ref fd), y4, some (.ref sl), y6] ∧ But r H1 H' ∧ RowOk K H' r a ns ∧ H' sl = some (.lst us) ∧ TpAll K H' us (ss.map szD) ∧ (1 ≤ ss.length ∧ ss.length ≤ 3) ∧ ∀ p ∈ ss, SideOk p) (fun N hN => ?_) ?_
    · -- the sizes
      refine ⟨_, rfl, r, 3, a, ns, rfl, R1, ⟨by decide, by decide⟩, fun z H2 z0 z1 b2 R2 => ⟨1, z, rfl, rfl, _, rfl, by omega, by omega, fun Dl hD => ?_⟩⟩
      obtain ⟨m, rfl⟩ := Int.eq_ofNat_of_zero_le z0
      have em : ((1 : Int) + (m : Nat)).toNat = m + 1 := by omega
      rw [em]
      have s2 := same_new (o := .lst []) hD
      have neD : Dl ≠ r := R2.ne hD
      refine lc_range (fun k H' => But r H2 H' ∧ RowOk K H' r a ns ∧ ∃ us ss, H' Dl = some (.lst us) ∧ TpAll K H' us (ss.map szD) ∧ ss.length = k ∧ ∀ p ∈ ss, SideOk p) ⟨Same.but s2, R2.same s2, [], [], upd_same, .nil, rfl, fun x hx => by cases hx⟩ ?_ ?_
      · rintro k H3 hk ⟨b3, R3, us, ss, hus, tus, lss, sides⟩
        have lus := tpa_len tus
        rw [List.length_map] at lus
        refine ⟨rfl, ?_⟩
        refine ⟨_, rfl, _, rfl, r, most, a, ns, rfl, R3, ⟨by omega, by omega⟩, fun x H4 x0 x1 b4 R4 => ⟨1, x, rfl, rfl, ?_⟩⟩
        refine ⟨_, rfl, _, rfl, r, most, a, ns, rfl, R4, ⟨by omega, by omega⟩, fun y H5 y0 y1 b5 R5 => ⟨1, y, rfl, rfl, ?_⟩⟩
        refine ⟨by show 2 ≤ sizeLine; decide, fun p np => ?_⟩
        have s6 := same_new (o := .tup [V.int (1 + x), V.int (1 + y)]) np
        have b345 := b4.trans b5
        have hus5 := b345 _ _ neD hus
        have b25 := b3.trans b345
        refine ⟨us, s6 _ _ hus5, small1000 (by omega), (b25.trans (Same.but s6)).mut hD, R2.mut (b25.trans (Same.but s6)) (R5.same s6) hD, us ++ [.ref p], ss ++ [(1 + x, 1 + y)], upd_same, ?_, by rw [List.length_append, lss]; rfl, fun p hp => ?_⟩
        · have k7 : Kp K (upd H5 p (.tup [V.int (1 + x), V.int (1 + y)])) (upd (upd H5 p (.tup [V.int (1 + x), V.int (1 + y)])) Dl (.lst (us ++ [.ref p]))) := kp_lst (s6 _ _ hus5)
          have tp : Tp K (upd H5 p (.tup [V.int (1 + x), V.int (1 + y)])) (.ref p) (szD (1 + x, 1 + y)) := tp_new np (.cons (.int _) (.cons (.int _) .nil))
          rw [List.map_append]
          exact tpa_snoc (tpa_kp tus ((R3.kp b345).trans ((kp_same s6).trans k7))) (tp_kp tp k7)
        · rcases List.mem_append.mp hp with z | z
          · exact sides p z
          · rw [List.mem_singleton.mp z]
            exact ⟨⟨by show 1 ≤ 1 + x; omega, by show 1 + x ≤ 100; omega⟩, ⟨by show 1 ≤ 1 + y; omega, by show 1 + y ≤ 100; omega⟩⟩
      · rintro H3 ⟨b3, R3, us, ss, hus, tus, lss, sides⟩
        exact hN _ _ ⟨_, _, Dl, us, ss, rfl, b2.trans b3, R3, hus, tus, ⟨by omega, by omega⟩, sides⟩
    · rintro σ H2 ⟨y4, y6, sl, us, ss, rfl, b2, R2, hus, tus, lss, sides⟩
      refine seq_cut (fun σ' H' => ∃ (y4 y6 : Option V) (sl : Addr) (us : List V) (ss : List Sz), σ' = [some (.ref r), some (.int (many : Nat)), some (.int most), some (.ref fd), y4, some (.ref sl), y6] ∧ But r H1 H' ∧ RowOk K H' r a ns ∧ H' sl = some (.lst us) ∧ TpAll K H' us (ss.map szD) ∧ (1 ≤ ss.length ∧ ss.length ≤ 3) ∧ ∀ p ∈ ss, SideOk p) (fun N hN => ?_) ?_
      · -- a size turned
        have nes : sl ≠ r := fun e => by
          obtain ⟨_, _, _, hrow, _⟩ := R2.ex
          rw [e, hrow] at hus
          cases hus
          cases ss with
          | nil => cases tus
          | cons p ss =>
            cases ss with
            | nil => cases tus with | cons _ h => cases h
            | cons p2 ss =>
              cases tus with
              | cons _ h =>
                cases h with
                | cons h _ => cases h
        refine ⟨_, rfl, r, 2, a, ns, rfl, R2, ⟨by decide, by decide⟩, fun z H3 z0 z1 b3 R3 => ⟨rfl, _, rfl, ?_⟩⟩
        have hus3 := b3 _ _ nes hus
        have tus3 := tpa_kp tus (R2.kp b3)
        refine isTrue_iff (fun _ => ?_) (fun _ => hN _ _ ⟨_, _, sl, us, ss, rfl, b2.trans b3, R3, hus3, tus3, lss, sides⟩)
        obtain ⟨p1, rest, ess⟩ : ∃ p1 rest, ss = p1 :: rest := by
          cases ss with
          | nil => exact absurd lss.1 (by decide)
          | cons p1 rest => exact ⟨_, _, rfl⟩
        subst ess
        obtain ⟨u1, ur, eus, tu1⟩ : ∃ u1 ur, us = u1 :: ur ∧ Tp K H3 u1 (szD p1) := by
          cases tus3 with
          | cons h1 h2 => exact ⟨_, _, rfl, h1⟩
        subst eus
        refine ⟨_, rfl, 1, rfl, sl, _, rfl, .inl (.inl hus3), fun p np => ?_⟩
        rw [cut_first (α := Unit)]
        have s4 := same_new (o := .lst [u1]) np
        have tu4 := tp_kp tu1 (kp_same s4)
        obtain ⟨ua, uv, rfl, hua, tuv⟩ := tp_tup tu4
        obtain ⟨w1, w2, rfl, tw1, tw2⟩ := tpa_two tuv
        obtain rfl := tp_int tw1
        obtain rfl := tp_int tw2
        have hus4 := s4 _ _ hus3
        refine ⟨_, rfl, sl, _, 0, _, rfl, rfl, .inl (.inl hus4), at0 _ _, ua, _, 1, _, rfl, rfl, hua, at1 _ _ _, _, rfl, sl, _, 0, _, rfl, rfl, .inl (.inl hus4), at0 _ _, ua, _, 0, _, rfl, rfl, hua, at0 _ _, by show 2 ≤ sizeLine; decide, fun p2 np2 => ⟨by show 1 ≤ sizeLine; decide, fun p3 np3 => ?_⟩⟩
        have s5 := same_new (o := .tup [V.int p1.2, V.int p1.1]) np2
        have s6 := same_new (o := .lst [V.ref p2]) np3
        refine ⟨p, p3, _, _, rfl, rfl, s6 _ _ (s5 _ _ upd_same), upd_same, by show 2 ≤ sizeLine; decide, fun p4 np4 => ?_⟩
        have s7 := same_new (o := .lst ([V.ref ua] ++ [V.ref p2])) np4
        have s47 := s4.trans (s5.trans (s6.trans s7))
        have h1 := sides p1 List.mem_cons_self
        refine hN _ _ ⟨_, _, p4, _, [p1, (p1.2, p1.1)], rfl, b2.trans (b3.trans (Same.but s47)), R3.same s47, upd_same, ?_, ⟨show 1 ≤ 2 by decide, show 2 ≤ 3 by decide⟩, fun p hp => ?_⟩
        · have t2 : Tp K _ (.ref p2) (szD (p1.2, p1.1)) := tp_new np2 (.cons (.int _) (.cons (.int _) .nil))
          exact .cons (tp_kp tu1 (kp_same s47)) (.cons (tp_kp t2 (kp_same (s6.trans s7))) .nil)
        · rcases List.mem_cons.mp hp with z | z
          · rw [z]; exact h1
          · rw [List.mem_singleton.mp z]
            exact ⟨h1.2, h1.1⟩
      · rintro σ H3 ⟨y4, y6, sl, us, ss, rfl, b3, R3, hus, tus, lss, sides⟩
        have hf3 := b3 _ _ nef hf1
        have ty3 := tpa_kp ty1 (R1.kp b3)
        refine ⟨_, rfl, .inl ⟨rfl, _, .inl (.inl hf3)⟩, _, rfl, sl, us, rfl, .inl ⟨.inl (.inl hus), fun p np => ?_⟩⟩
        have s4 := same_new (o := .tup us) np
        have hf4 := s4 _ _ hf3
        have b14 := b1.trans (b3.trans (Same.but s4))
        refine ⟨fd, ys, _, rfl, rfl, hf4, small1000 (by omega), ?_⟩
        have k5 : Kp K (upd H3 p (.tup us)) (upd (upd H3 p (.tup us)) fd (.lst (ys ++ [.ref p]))) := kp_lst hf4
        have tp : Tp K (upd H3 p (.tup us)) (.ref p) (sizesD ss) := tp_new np tus
        refine ⟨_, _, _, ys ++ [.ref p], bs ++ [ss], rfl, b14.mut hfd, R.mut b14 (R3.same s4) hfd, upd_same, ?_, by rw [List.length_append, lbs]; rfl, goodB_snoc gb ⟨lss, sides⟩⟩
        rw [List.map_append]
        exact tpa_snoc (tpa_kp ty3 ((kp_same s4).trans k5)) (tp_kp tp k5)
  · rintro σ H1 ⟨y4, y5, y6, ys, bs, rfl, b1, R1, hf1, ty1, lbs, gb⟩
    refine ⟨_, rfl, fd, ys, rfl, .inl ⟨.inl (.inl hf1), fun p np => ?_⟩⟩
    have s2 := same_new (o := .tup ys) np
    refine q _ _ bs (b1.trans (Same.but s2)) (R1.same s2) (tp_new np ty1) (by rw [lbs]; omega) gb
end
end K4
set_option maxHeartbeats 4000000
/-! _law_kept -/
namespace K4
open PySem PySem.Spec PyProof.Rows L2
section
variable {P : Program} {w : World} {K : PySem.W.Frag} {mg : Str → Option Value} {base : Heap}
theorem eqv_sz (o p : Sz) : PyData.eqv (szD o) (szD p) = decide (o = p) := by
  obtain ⟨a, b⟩ := o
  obtain ⟨c, d⟩ := p
  rw [Bool.eq_iff_iff]
  simp [szD, PyData.eqv, PyData.eqvAll]
theorem shaped_sz (o : Sz) : SeqAt.shaped (szD o) = true := rfl
def keyOf (p : Sz) : List Int := [p.1, p.2]
def szOf (q : Addr × List Int) : Sz := (q.2.getD 0 0, q.2.getD 1 0)
/-- the places and keys of a list of sizes -/
theorem sz_keys {H : Hp} : ∀ {ss : List Sz} {xs : List V}, TpAll K H xs (ss.map szD) → ∃ ks : List (Addr × List Int), xs = ks.map (fun p => V.ref p.1) ∧ ks.map (·.2) = ss.map keyOf ∧ ∀ p ∈ ks, SqT K H p.1 (p.2.map V.int)
  | [], _, h => by
    cases h
    exact ⟨[], rfl, rfl, fun p hp => by cases hp⟩
  | s :: ss, _, h => by
    have h' : TpAll K H _ (szD s :: ss.map szD) := h
    cases h' with
    | cons h1 h2 =>
      obtain ⟨ks, e1, e2, e3⟩ := sz_keys h2
      obtain ⟨a, vs, rfl, ha, tv⟩ := tp_tup h1
      obtain ⟨v1, v2, rfl, t1, t2⟩ := tpa_two tv
      obtain rfl := tp_int t1
      obtain rfl := tp_int t2
      refine ⟨(a, keyOf s) :: ks, by rw [e1]; rfl, by rw [List.map_cons, e2]; rfl, fun p hp => ?_⟩
      rcases List.mem_cons.mp hp with z | z
      · rw [z]
        exact ha
      · exact e3 p z
theorem keys_tpa {H : Hp} : ∀ {L : List (Addr × List Int)}, (∀ q ∈ L, SqT K H q.1 (q.2.map V.int)) → (∀ q ∈ L, ∃ s : Sz, q.2 = keyOf s) → TpAll K H (L.map fun q => V.ref q.1) ((L.map szOf).map szD)
  | [], _, _ => .nil
  | q :: L, h, k => by
    refine .cons ?_ (keys_tpa (fun x hx => h x (List.mem_cons_of_mem _ hx)) fun x hx => k x (List.mem_cons_of_mem _ hx))
    obtain ⟨s, e⟩ := k q List.mem_cons_self
    have z := h q List.mem_cons_self
    have es : szOf q = s := by
      unfold szOf
      rw [e]
      rfl
    rw [es]
    rw [e] at z
    exact .tup z (.cons (.int _) (.cons (.int _) .nil))
theorem szOf_key {q : Addr × List Int} {s : Sz} (h : q.2 = keyOf s) : szOf q = s := by
  unfold szOf
  rw [h]
  rfl
theorem le_of_key {q r : Addr × List Int} {s t : Sz} (hq : q.2 = keyOf s) (hr : r.2 = keyOf t) (h : PySem.W.dataLe false tupD q r = true) : lxe s t := by
  have e1 : tupD q = szD s := by
    show PyData.tuple (q.2.map .int) = _
    rw [hq]
    rfl
  have e2 : tupD r = szD t := by
    show PyData.tuple (r.2.map .int) = _
    rw [hr]
    rfl
  refine order_of (enc := szD) (sz := fun s => s) (more := fun _ => []) (fun b => rfl) (a := s) (b := t) ?_
  have z : (!PySem.W.dataLt (tupD r) (tupD q)) = true := h
  rw [e1, e2] at z
  exact z
theorem lx_of {s t : Sz} (h : lxe s t) (n : s ≠ t) : lx s t := by
  rcases h with h | ⟨h1, h2⟩
  · exact .inl h
  · refine .inr ⟨h1, ?_⟩
    rcases Int.lt_or_eq_of_le h2 with z | z
    · exact z
    · exact absurd (Prod.ext h1 z) n
/-- the sizes of what sorted(set(..)) gives -/
theorem asc_sizes {ks L L' : List (Addr × List Int)} {ss : List Sz} (ek : ks.map (·.2) = ss.map keyOf) (sub : ∀ p ∈ L, p ∈ ks) (all : ∀ p ∈ ks, p.2 ∈ L.map (·.2)) (nd : (L.map (·.2)).Nodup) (pm : L'.Perm L) (pw : L'.Pairwise (fun q r => PySem.W.dataLe false tupD q r = true)) :
    (∀ q ∈ L', ∃ s ∈ ss, q.2 = keyOf s) ∧ (L'.map szOf).Pairwise lx ∧ ∀ p, p ∈ L'.map szOf ↔ p ∈ ss := by
  have key : ∀ q ∈ L', ∃ s ∈ ss, q.2 = keyOf s := fun q hq => by
    have z : q.2 ∈ ks.map (·.2) := List.mem_map.mpr ⟨q, sub q (pm.mem_iff.mp hq), rfl⟩
    rw [ek] at z
    obtain ⟨s, hs, e⟩ := List.mem_map.mp z
    exact ⟨s, hs, e.symm⟩
  refine ⟨key, ?_, fun p => ⟨fun hp => ?_, fun hp => ?_⟩⟩
  · have nd' : (L'.map (·.2)).Nodup := (pm.map _).nodup_iff.mpr nd
    have nd2 : L'.Pairwise fun q r => q.2 ≠ r.2 := List.pairwise_map.mp nd'
    refine List.pairwise_map.mpr ((pw.and nd2).imp_of_mem fun {q r} hq hr h => ?_)
    obtain ⟨s, _, e1⟩ := key q hq
    obtain ⟨t, _, e2⟩ := key r hr
    rw [szOf_key e1, szOf_key e2]
    refine lx_of (le_of_key e1 e2 h.1) fun e => h.2 ?_
    rw [e1, e2, e]
  · obtain ⟨q, hq, e⟩ := List.mem_map.mp hp
    obtain ⟨s, hs, e1⟩ := key q hq
    rw [← e, szOf_key e1]
    exact hs
  · have z : keyOf p ∈ ks.map (·.2) := by
      rw [ek]
      exact List.mem_map.mpr ⟨p, hp, rfl⟩
    obtain ⟨x, hx, e⟩ := List.mem_map.mp z
    obtain ⟨q, hq, e2⟩ := List.mem_map.mp (all x hx)
    refine List.mem_map.mpr ⟨q, pm.mem_iff.mpr hq, szOf_key ?_⟩
    rw [e2, e]
theorem others_take {ss : List Sz} {k : Nat} {o one : Sz} (h : ss[k]? = some o) : others (ss.take (k + 1)) one = others (ss.take k) one ++ (if (decide (o ≠ one) && (decide (o.1 ≤ one.1) && decide (o.2 ≤ one.2))) = true then [o] else []) := by
  unfold others
  rw [List.take_succ, h, List.filter_append, show (some o).toList = [o] from rfl, List.filter_cons, List.filter_nil]
theorem kept_take {srt ss : List Sz} {k : Nat} {one : Sz} (h : srt[k]? = some one) : lawKept (srt.take (k + 1)) ss = lawKept (srt.take k) ss ++ (if decide (others ss one = []) = true then [one] else []) := by
  unfold lawKept
  rw [List.take_succ, h, List.filter_append, show (some one).toList = [one] from rfl, List.filter_cons, List.filter_nil]
theorem nodup_len {α : Type} [DecidableEq α] : ∀ {l m : List α}, l.Nodup → (∀ x ∈ l, x ∈ m) → l.length ≤ m.length
  | [], m, _, _ => Nat.zero_le _
  | x :: l, m, h, k => by
    obtain ⟨h1, h2⟩ := List.nodup_cons.mp h
    have hx := k x List.mem_cons_self
    have z := nodup_len (l := l) (m := m.erase x) h2 fun y hy => by
      refine (List.mem_erase_of_ne (fun e => h1 (by rw [← e]; exact hy))).mpr (k y (List.mem_cons_of_mem _ hy))
    rw [List.length_erase_of_mem hx] at z
    have p := List.length_pos_of_mem hx
    rw [List.length_cons]
    omega
def spLKept (K : PySem.W.Frag) : Sp := fun vs H Q _ => ∃ a xs ss, vs = [.ref a] ∧ SqL K H a xs ∧ TpAll K H xs (ss.map szD) ∧ ss.length ≤ 300 ∧
  ∀ v' H' srt, Same H H' → Tp K H' v' (sizesD (lawKept srt ss)) → srt.Pairwise lx → (∀ p, p ∈ srt ↔ p ∈ ss) → Q v' H'
theorem sc_lkept : FnScope ["_law_some", "_law_found", "_law_one", "_law_other"] ["_law_some"] (defScope sLKept) := ⟨rfl, rfl, rfl, by decide +kernel, rfl, by decide +kernel, by decide +kernel⟩
theorem ok_lkept (D : Df K mg "_law_kept" sLKept) (B : Blt mg) : Cl P w K mg base 1 "_law_kept" (spLKept K) := by
  refine D.ok sc_lkept (fun vs H Q E h => ?_) (fun _ _ _ _ _ _ us hl => match us, hl with | [_], _ => rfl) (fun f cdv A outer s H vs Q E hr h => ?_)
  · obtain ⟨a, xs, ss, rfl, _⟩ := h
    rfl
  obtain ⟨a, xs, ss, rfl, ha, tx, h300, q⟩ := h
  have hu := hr.units
  have nd := sc_lkept.nd
  refine ⟨_, pss_cons (ps_set (i := 1) nd rfl (.inl rfl) (pe_lst pa_nil))
    (pss_cons (ps_for PassesOwn.never rfl (pi_list (pe_callB (cr_sortedSet rfl hu) (by rfl) B.sorted bt_sorted (pa_cons (pe_callTy (cr_setOf rfl hu) (by rfl) B.set bt_set (pa_cons (pv 0) pa_nil)) pa_nil))) (pg_name (i := 2) nd rfl (.inr rfl))
      (pss_one (ps_if (pt_cmpR (op_eqD hu) (pe_lc (own := [("_law_other", 3)]) (g := gName 3)
            (tt := tAnd (tTest (tOp (rNeD K) (tVar 3) (tVar 2))) (tAnd (tTest (tOp (rI0 fun i j => .bl (decide (i ≤ j))) (tOp (rIxT K) (tVar 3) (tC (.int 0))) (tOp (rIxT K) (tVar 2) (tC (.int 0))))) (tTest (tOp (rI0 fun i j => .bl (decide (i ≤ j))) (tOp (rIxT K) (tVar 3) (tC (.int 1))) (tOp (rIxT K) (tVar 2) (tC (.int 1)))))))
            (te := tVar 3) rfl nd (pi_list (pv 0)) (blkOk_by (N := ["_law_some", "_law_found", "_law_one", "_law_other"]) (sc := defScope sLKept) (by decide +kernel))
            (fun _ _ _ _ _ => pg_name (i := 3) nd rfl (Or.inl rfl))
            (fun _ _ _ _ _ => pts_one (PW.pt (pw_and (pt_cmpR (by exact op_neD hu) (pv 3) (pv 2) (nomark _)) (pw_and (pt_cmpR op_le (by exact pe_ix ix_tup (pv 3) pe_int (fun _ _ => rfl)) (by exact pe_ix ix_tup (pv 2) pe_int (fun _ _ => rfl)) (nomark _)) (pw_and1 (pt_cmpR op_le (by exact pe_ix ix_tup (pv 3) pe_int (fun _ _ => rfl)) (by exact pe_ix ix_tup (pv 2) pe_int (fun _ _ => rfl)) (nomark _)))))))
            (fun _ _ _ _ _ => pv 3)) (pe_lst pa_nil) (nomark _))
        (pss_one (ps_expr (pe_bm PySem.F.plainAttrs_list PySem.F.slot_list_append PySem.F.type_list_append mt_append (pv 1) (pa_cons (pv 2) pa_nil)))) pss_nil)))
    (pss_one (ps_ret (pe_callTy call_tuple_of (by rfl) B.tuple bt_tuple (pa_cons (pv 1) pa_nil))))), ?_⟩
  refine ⟨Nat.zero_le _, fun fd hfd => ?_⟩
  have s1 : Same H (upd H fd (.lst [])) := same_new hfd
  obtain ⟨ks, exs, ek, hk⟩ := sz_keys tx
  have lks : ks.length = ss.length := by
    have z := congrArg List.length ek
    rw [List.length_map, List.length_map] at z
    exact z
  refine ⟨_, rfl, a, ks, rfl, by rw [← exs]; exact s1.seq ha, fun p hp => same_sqT s1 (hk p hp), by omega, fun sa L nsa sub all nodup => ?_⟩
  have s2 := same_new (o := setO P w sa L) nsa
  have s12 := s1.trans s2
  have keyL : ∀ q ∈ L, ∃ s : Sz, q.2 = keyOf s := fun q hq => by
    have z : q.2 ∈ ks.map (·.2) := List.mem_map.mpr ⟨q, sub q hq, rfl⟩
    rw [ek] at z
    obtain ⟨s, _, e⟩ := List.mem_map.mp z
    exact ⟨s, e.symm⟩
  refine ⟨sa, L, rfl, upd_same, fun p hp => same_sqT s12 (hk p (sub p hp)), fun p hp => ?_, fun L' p perm pw np => ?_⟩
  · obtain ⟨s, e⟩ := keyL p hp
    rw [e]
    exact fun z => by cases z
  obtain ⟨key, plx, mem⟩ := asc_sizes ek sub all nodup perm pw
  obtain ⟨srt, esrt⟩ : ∃ srt, srt = L'.map szOf := ⟨_, rfl⟩
  obtain ⟨ys, eys⟩ : ∃ ys, ys = L'.map fun q => V.ref q.1 := ⟨_, rfl⟩
  rw [← esrt] at plx mem
  rw [← eys]
  have s3 := same_new (o := .lst ys) np
  have s13 := s12.trans s3
  have ty : TpAll K (upd (upd (upd H fd (.lst [])) sa (setO P w sa L)) p (.lst ys)) ys (srt.map szD) := by
    have z := keys_tpa (K := K) (H := upd (upd (upd H fd (.lst [])) sa (setO P w sa L)) p (.lst ys)) (L := L') (fun q hq => same_sqT s13 (hk q (sub q (perm.mem_iff.mp hq)))) fun q hq => keyL q (perm.mem_iff.mp hq)
    rw [← eys, ← esrt] at z
    exact z
  have ly := tpa_len ty
  rw [List.length_map] at ly
  have lsrt : srt.length ≤ 300 := by
    have z : (L.map (·.2)).length ≤ (ks.map (·.2)).length := nodup_len nodup fun x hx => by
      obtain ⟨q, hq, rfl⟩ := List.mem_map.mp hx
      exact List.mem_map.mpr ⟨q, sub q hq, rfl⟩
    rw [List.length_map, List.length_map] at z
    rw [esrt, List.length_map, perm.length_eq]
    omega
  have npf : p ≠ fd := fun e => by
    have z : (upd (upd H fd (.lst [])) sa (setO P w sa L)) fd = some (.lst []) := s2 _ _ upd_same
    have np' : (upd (upd H fd (.lst [])) sa (setO P w sa L)) p = none := np
    rw [e, z] at np'
    cases np'
  refine ⟨p, rfl, ⟨ys, .inl (.inl upd_same)⟩, for_list (K := K) (a := p) (xs := ys) (fun i σ H' => ∃ (fs : List V) (y2 y3 : Option V), σ = [some (.ref a), some (.ref fd), y2, y3] ∧ Same H H' ∧ H' p = some (.lst ys) ∧ H' fd = some (.lst fs) ∧
      TpAll K H' ys (srt.map szD) ∧ TpAll K H' fs ((lawKept (srt.take i) ss).map szD))
    ⟨[], none, none, rfl, s13, upd_same, s3 _ _ (s2 _ _ upd_same), ty, .nil⟩ (fun i σ H' _ ⟨_, _, _, _, _, h, _⟩ => .inl (.inl h)) ?_ ?_⟩
  · rintro i x σ H' hx ⟨fs, y2, y3, rfl, sm, hp, hf, tys, tfs⟩
    obtain ⟨one, hone, tone⟩ := sz_at tys hx
    have hi : i < srt.length := (List.getElem?_eq_some_iff.mp hone).1
    have lfs := tpa_len tfs
    rw [List.length_map] at lfs
    have lfs2 : fs.length ≤ srt.length := by
      rw [lfs]
      unfold lawKept
      exact Nat.le_trans (List.length_filter_le _ _) (by rw [List.length_take]; omega)
    refine ⟨_, rfl, a, rfl, ⟨xs, sm.seq ha⟩, fun Dl hD => ?_⟩
    refine lc_list (K := K) (a := a) (xs := xs) (fun k H3 => Same H' H3 ∧ ∃ us, H3 Dl = some (.lst us) ∧ us.length ≤ k ∧ TpAll K H3 us ((others (ss.take k) one).map szD)) ⟨same_new hD, [], upd_same, Nat.le_refl _, .nil⟩ (fun k H3 _ t => (sm.trans t.1).seq ha) ?_ ?_
    · rintro k o H3 ho ⟨s4, us, hus, lus, tus⟩
      obtain ⟨osz, hosz, to⟩ := sz_at tx ho
      have hk3 : k < ss.length := (List.getElem?_eq_some_iff.mp hosz).1
      have to3 := tp_kp to (kp_same (sm.trans s4))
      have tone3 := tp_kp tone (kp_same s4)
      have et := others_take (one := one) hosz
      have yes : (decide (osz ≠ one) && (decide (osz.1 ≤ one.1) && decide (osz.2 ≤ one.2))) = true → ∃ acc, H3 Dl = some (.lst acc) ∧ acc.length < sizeLine ∧ Same H' (upd H3 Dl (.lst (acc ++ [o]))) ∧ ∃ us, (upd H3 Dl (.lst (acc ++ [o]))) Dl = some (.lst us) ∧ us.length ≤ k + 1 ∧ TpAll K (upd H3 Dl (.lst (acc ++ [o]))) us ((others (ss.take (k + 1)) one).map szD) := fun c => by
        rw [if_pos c] at et
        refine ⟨us, hus, small1000 (by omega), same_mut s4 hD, us ++ [o], upd_same, by rw [List.length_append]; exact Nat.succ_le_succ lus, ?_⟩
        rw [et, List.map_append]
        exact tpa_snoc (tpa_kp tus (kp_lst hus)) (tp_kp to3 (kp_lst hus))
      have no : (decide (osz ≠ one) && (decide (osz.1 ≤ one.1) && decide (osz.2 ≤ one.2))) = false → Same H' H3 ∧ ∃ us, H3 Dl = some (.lst us) ∧ us.length ≤ k + 1 ∧ TpAll K H3 us ((others (ss.take (k + 1)) one).map szD) := fun c => by
        rw [if_neg (by rw [c]; exact Bool.false_ne_true), List.append_nil] at et
        exact ⟨s4, us, hus, by omega, by rw [et]; exact tus⟩
      obtain ⟨oa, ov, rfl, hoa, tov⟩ := tp_tup to3
      obtain ⟨o1, o2, rfl, to1, to2⟩ := tpa_two tov
      obtain rfl := tp_int to1
      obtain rfl := tp_int to2
      obtain ⟨na, nv, rfl, hna, tnv⟩ := tp_tup tone3
      obtain ⟨n1, n2, rfl, tn1, tn2⟩ := tpa_two tnv
      obtain rfl := tp_int tn1
      obtain rfl := tp_int tn2
      refine ⟨rfl, ?_⟩
      refine ⟨_, rfl, _, rfl, szD osz, szD one, tp_dp to3, tp_dp tone3, shaped_sz _, shaped_sz _, _, rfl, ?_⟩
      rw [eqv_sz]
      by_cases c1 : osz = one
      · rw [decide_eq_true c1]
        have z := no (by rw [decide_eq_false (fun n => n c1)]; rfl)
        exact z
      · rw [decide_eq_false c1]
        refine iteT ?_
        refine ⟨_, rfl, oa, _, 0, _, rfl, rfl, hoa, at0 _ _, _, rfl, na, _, 0, _, rfl, rfl, hna, at0 _ _, _, _, rfl, rfl, _, rfl, ?_⟩
        by_cases c2 : osz.1 ≤ one.1
        · rw [decide_eq_true c2]
          refine iteT ?_
          refine ⟨_, rfl, oa, _, 1, _, rfl, rfl, hoa, at1 _ _ _, _, rfl, na, _, 1, _, rfl, rfl, hna, at1 _ _ _, _, _, rfl, rfl, _, rfl, ?_⟩
          by_cases c3 : osz.2 ≤ one.2
          · rw [decide_eq_true c3]
            refine iteT ⟨_, rfl, ?_⟩
            exact yes (by rw [decide_eq_true c1, decide_eq_true c2, decide_eq_true c3]; rfl)
          · rw [decide_eq_false c3]
            refine iteF (no (by rw [decide_eq_false c3]; simp))
        · rw [decide_eq_false c2]
          refine iteF (iteF (no (by rw [decide_eq_false c2]; simp)))
    · rintro H3 ⟨s4, us, hus, lus, tus⟩
      have lxs := tpa_len tx
      rw [List.length_map] at lxs
      rw [lxs, List.take_length] at tus
      refine ⟨Nat.zero_le _, fun e he => ?_⟩
      have s5 := same_new (o := .lst []) he
      refine ⟨.list ((others ss one).map szD), .list [], .lst (.inl (.inl (s5 _ _ hus))) (tpa_dp (tpa_kp tus (kp_same s5))), .lst (.inl (.inl upd_same)) .nil, shaped_list (fun d hd => ?_), shaped_nil, _, rfl, ?_⟩
      · obtain ⟨z, _, rfl⟩ := List.mem_map.mp hd
        refine ⟨rfl, ?_⟩
        show (PyData.tuple [.int z.1, .int z.2]).depth ≤ 60
        simp [PyData.depth, PyData.depthAll]
      rw [eqv_nil]
      have s45 := s4.trans s5
      have hp5 := s45 _ _ hp
      have hf5 := s45 _ _ hf
      have tys5 := tpa_kp tys (kp_same s45)
      have tfs5 := tpa_kp tfs (kp_same s45)
      have tone5 := tp_kp tone (kp_same s45)
      have kt := kept_take (ss := ss) hone
      by_cases c : others ss one = []
      · rw [c]
        rw [if_pos (decide_eq_true c)] at kt
        refine iteT ⟨_, rfl, .inl ⟨rfl, _, .inl (.inl hf5)⟩, _, rfl, fd, fs, _, rfl, rfl, hf5, small1000 (by omega), ?_⟩
        refine ⟨fs ++ [x], _, _, rfl, same_mut (sm.trans s45) hfd, by rw [upd_ne npf]; exact hp5, upd_same, tpa_kp tys5 (kp_lst hf5), ?_⟩
        rw [kt, List.map_append]
        exact tpa_snoc (tpa_kp tfs5 (kp_lst hf5)) (tp_kp tone5 (kp_lst hf5))
      · have em : ((others ss one).map szD).isEmpty = false := by
          rw [List.isEmpty_eq_false_iff]
          simpa using c
        rw [em]
        rw [if_neg (fun z => c (of_decide_eq_true z)), List.append_nil] at kt
        refine iteF ⟨fs, _, _, rfl, sm.trans s45, hp5, hf5, tys5, by rw [kt]; exact tfs5⟩
  · rintro σ H' ⟨fs, y2, y3, rfl, sm, hp, hf, tys, tfs⟩
    rw [ly, List.take_length] at tfs
    refine ⟨_, rfl, fd, fs, rfl, .inl ⟨.inl (.inl hf), fun t nt => ?_⟩⟩
    exact q _ _ srt (sm.trans (same_new nt)) (tp_new nt tfs) plx mem
end
end K4
set_option maxHeartbeats 4000000
/-! _law_alike, of equal data -/
namespace K4
open PySem PySem.Spec PyProof.Rows L2
section
variable {P : Program} {w : World} {K : PySem.W.Frag} {mg : Str → Option Value} {base : Heap}
/-- numbers in tuples, less than n deep -/
def Nar : Nat → PyData → Prop
  | n + 1, .int _ => True
  | n + 1, .tuple ds => ds.length ≤ 1000 ∧ ∀ d ∈ ds, Nar n d
  | _, _ => False
theorem nar_int {n : Nat} {i : Int} : Nar (n + 1) (.int i) := trivial
theorem nar_sz {n : Nat} (p : Sz) : Nar (n + 2) (szD p) := ⟨by show 2 ≤ 1000; decide, fun d hd => by
  rcases List.mem_cons.mp hd with z | z
  · rw [z]; trivial
  · rw [List.mem_singleton.mp z]; trivial⟩
theorem nar_sizes {n : Nat} {ss : List Sz} (h : ss.length ≤ 1000) : Nar (n + 3) (sizesD ss) := ⟨by rw [List.length_map]; exact h, fun d hd => by
  obtain ⟨p, _, rfl⟩ := List.mem_map.mp hd
  exact nar_sz p⟩
def spAlike (K : PySem.W.Frag) (n : Nat) : Sp := fun vs H Q _ => ∃ v1 v2 d, vs = [v1, v2] ∧ Tp K H v1 d ∧ Tp K H v2 d ∧ Nar n d ∧ ∀ H', Same H H' → Q (.bl true) H'
theorem sc_alike : FnScope ["_law_found", "_law_due", "_law_k"] ["_law_found", "_law_due"] (defScope sAlike) := ⟨rfl, rfl, rfl, by decide +kernel, rfl, by decide +kernel, by decide +kernel⟩
theorem ok_alike (D : Df K mg "_law_alike" sAlike) (B : Blt mg) : ∀ n, Cl P w K mg base (n + 1) "_law_alike" (spAlike K n)
  | 0 => by
    refine D.ok sc_alike (fun vs H Q E h => ?_) (fun _ _ _ _ _ _ us hl => match us, hl with | [_, _], _ => rfl) (fun f cdv A outer s H vs Q E hr h => ?_)
    · obtain ⟨v1, v2, d, rfl, _⟩ := h
      rfl
    · obtain ⟨v1, v2, d, rfl, _, _, hd, _⟩ := h
      cases d <;> cases hd
  | n + 1 => by
    have ih := ok_alike D B n
    refine D.ok sc_alike (fun vs H Q E h => ?_) (fun _ _ _ _ _ _ us hl => match us, hl with | [_, _], _ => rfl) (fun f cdv A outer s H vs Q E hr h => ?_)
    · obtain ⟨v1, v2, d, rfl, _⟩ := h
      rfl
    obtain ⟨v1, v2, d, rfl, t1, t2, hd, q⟩ := h
    have hu := hr.units
    have nd := sc_alike.nd
    refine ⟨_, pss_cons (ps_if (pt_val (pe_callB call_isiT (by rfl) B.isi bt_isi (pa_cons (pv 1) (pa_cons (pe_tup (pa_cons (pe_bltn (v := .ty "tuple") (by rfl) B.tuple bt_tuple rfl) (pa_cons (pe_bltn (v := .ty "list") (by rfl) B.list bt_list rfl) pa_nil))) pa_nil))))
        (pss_cons (ps_if (PW.pt (pw_or (pt_not (pt_val (pe_callB call_isiT (by rfl) B.isi bt_isi (pa_cons (pv 0) (pa_cons (pe_tup (pa_cons (pe_bltn (v := .ty "tuple") (by rfl) B.tuple bt_tuple rfl) (pa_cons (pe_bltn (v := .ty "list") (by rfl) B.list bt_list rfl) pa_nil))) pa_nil)))))
            (pw_or1 (pt_cmpR op_ne (pe_callB call_isi (by rfl) B.isi bt_isi (pa_cons (pv 0) (pa_cons (pe_bltn (v := .ty "list") (by rfl) B.list bt_list rfl) pa_nil))) (pe_callB call_isi (by rfl) B.isi bt_isi (pa_cons (pv 1) (pa_cons (pe_bltn (v := .ty "list") (by rfl) B.list bt_list rfl) pa_nil))) (nomark _))))) (pss_one ps_never) pss_nil)
        (pss_cons (ps_if (pt_cmpR op_ne (pe_callB call_len_seq (by rfl) B.len bt_len (pa_cons (pv 0) pa_nil)) (pe_callB call_len_seq (by rfl) B.len bt_len (pa_cons (pv 1) pa_nil)) (nomark _)) (pss_one ps_never) pss_nil)
        (pss_one (ps_ret (pe_cmpR (op_eqD hu) (pe_lc (own := [("_law_k", 2)]) (g := gName 2)
            (tt := tNot (tB (tCall (spAlike K n) [] E0 (tCons (tOp (rIxT K) (tVar 0) (tVar 2)) (tCons (tOp (rIxT K) (tVar 1) (tVar 2)) tNil))))) (te := tVar 2) rfl nd
            (pi_range1 (by rfl) B.range (pa_cons (pe_callB call_len_seq (by rfl) B.len bt_len (pa_cons (pv 1) pa_nil)) pa_nil)) (blkOk_by (N := ["_law_found", "_law_due", "_law_k"]) (sc := defScope sAlike) (by decide +kernel))
            (fun _ _ _ _ _ => pg_name (i := 2) nd rfl (Or.inl rfl))
            (fun _ _ _ _ _ => pts_one (pt_not (pt_val (by exact pe_cl ih hr (Nat.le_refl _) (by rfl) (pa_cons (pe_ix ix_tup (pv 0) (pv 2) (fun _ _ => rfl)) (pa_cons (pe_ix ix_tup (pv 1) (pv 2) (fun _ _ => rfl)) pa_nil))))))
            (fun _ _ _ _ _ => pv 2)) (pe_lst pa_nil) (nomark _)))))) pss_nil)
      (pss_cons (ps_if (PW.pt (pw_or (pt_cmp (pc_isN (pv 1))) (pw_or1 (pt_val (pe_callB call_isi (by rfl) B.isi bt_isi (pa_cons (pv 1) (pa_cons (pe_bltn (v := .ty "str") (by rfl) B.str bt_str rfl) pa_nil))))))) (pss_one ps_never) pss_nil)
      (pss_one (ps_ret (pe_and (pe_callB call_isi (by rfl) B.isi bt_isi (pa_cons (pv 0) (pa_cons (pe_bltn (v := .ty "int") (by rfl) B.int bt_int rfl) pa_nil)))
        (pe_and (pe_cmpR op_eq (pe_callB call_isi (by rfl) B.isi bt_isi (pa_cons (pv 0) (pa_cons (pe_bltn (v := .ty "bool") (by rfl) B.bool bt_bool rfl) pa_nil))) (pe_callB call_isi (by rfl) B.isi bt_isi (pa_cons (pv 1) (pa_cons (pe_bltn (v := .ty "bool") (by rfl) B.bool bt_bool rfl) pa_nil))) (nomark _))
        (pe_one (pe_cmpR op_eq (pv 0) (pv 1) (nomark _)))))))), ?_⟩
    have cases_d : (∃ i, d = .int i) ∨ ∃ ds, d = .tuple ds := by
      cases d with
      | int i => exact .inl ⟨i, rfl⟩
      | tuple ds => exact .inr ⟨ds, rfl⟩
      | none => cases hd
      | bool b => cases hd
      | str x => cases hd
      | list x => cases hd
      | dict x => cases hd
    rcases cases_d with ⟨i, rfl⟩ | ⟨ds, rfl⟩
    · obtain rfl := tp_int t1
      obtain rfl := tp_int t2
      refine ⟨_, rfl, by show 2 ≤ sizeLine; decide, fun tp ntp => ?_⟩
      have s1 := same_new (o := .tup [V.ty "tuple", V.ty "list"]) ntp
      refine ⟨_, tp, _, _, _, false, rfl, upd_same, ty2, ty_int, k_int_two, false, rfl, iteF ?_⟩
      refine ⟨_, rfl, _, rfl, ?_⟩
      rw [decide_eq_false (show ¬ V.int i = V.non from fun z => by cases z)]
      refine iteF ?_
      refine ⟨_, rfl, _, _, _, _, false, rfl, .ty _, ty_int, k_int_str, false, rfl, iteF ?_⟩
      refine ⟨_, rfl, _, _, _, _, true, rfl, .ty _, ty_int, k_int_int, true, rfl, iteT ?_⟩
      refine ⟨_, rfl, _, _, _, _, false, rfl, .ty _, ty_int, k_int_bool, _, rfl, _, _, _, _, false, rfl, .ty _, ty_int, k_int_bool, rfl, _, rfl, ?_⟩
      rw [decide_eq_true rfl]
      refine iteT ⟨_, rfl, _, rfl, rfl, ?_⟩
      rw [decide_eq_true rfl]
      exact q _ s1
    · obtain ⟨hlen, each⟩ : ds.length ≤ 1000 ∧ ∀ d ∈ ds, Nar n d := hd
      obtain ⟨a1, x1, rfl, h1, tx1⟩ := tp_tup t1
      obtain ⟨a2, x2, rfl, h2, tx2⟩ := tp_tup t2
      have l1 := tpa_len tx1
      have l2 := tpa_len tx2
      refine ⟨_, rfl, by show 2 ≤ sizeLine; decide, fun tp ntp => ?_⟩
      have s1 := same_new (o := .tup [V.ty "tuple", V.ty "list"]) ntp
      refine ⟨_, tp, _, _, _, true, rfl, upd_same, ty2, ty_sqT (same_sqT s1 h2), k_tup_two, true, rfl, iteT ?_⟩
      refine ⟨_, rfl, by show 2 ≤ sizeLine; decide, fun tq ntq => ?_⟩
      have s2 := same_new (o := .tup [V.ty "tuple", V.ty "list"]) ntq
      have s12 := s1.trans s2
      refine ⟨_, tq, _, _, _, true, rfl, upd_same, ty2, ty_sqT (same_sqT s12 h1), k_tup_two, true, rfl, iteF ?_⟩
      refine ⟨_, rfl, _, _, _, _, false, rfl, .ty _, ty_sqT (same_sqT s12 h1), k_tup_list, _, rfl, _, _, _, _, false, rfl, .ty _, ty_sqT (same_sqT s12 h2), k_tup_list, rfl, _, rfl, ?_⟩
      refine iteNS rfl ?_
      refine ⟨_, rfl, a1, x1, rfl, .inr (same_sqT s12 h1), _, rfl, a2, x2, rfl, .inr (same_sqT s12 h2), rfl, _, rfl, iteNS (by rw [l1, l2]) ?_⟩
      refine ⟨_, rfl, a2, x2, rfl, .inr (same_sqT s12 h2), _, rfl, by omega, by omega, fun Dl hD => ?_⟩
      refine lc_range (fun i H' => Same (upd (upd H tp (.tup [V.ty "tuple", V.ty "list"])) tq (.tup [V.ty "tuple", V.ty "list"])) H' ∧ H' Dl = some (.lst [])) ⟨same_new hD, upd_same⟩ ?_ ?_
      · rintro i H' hi ⟨s3, hDl⟩
        rw [Int.toNat_natCast] at hi
        have hi1 : i < x1.length := by omega
        have e0 : (0 : Int) + (i : Nat) = (i : Nat) := by omega
        obtain ⟨d, hd, ti1⟩ := tpa_at tx1 (List.getElem?_eq_getElem hi1)
        obtain ⟨d', hd', ti2⟩ := tpa_at tx2 (List.getElem?_eq_getElem hi)
        rw [hd] at hd'
        cases hd'
        have s123 := s12.trans s3
        have g1 : atI x1 ((0 : Int) + (i : Nat)) = some x1[i] := by rw [e0]; exact atI_nat (List.getElem?_eq_getElem hi1)
        have g2 : atI x2 ((0 : Int) + (i : Nat)) = some x2[i] := by rw [e0]; exact atI_nat (List.getElem?_eq_getElem hi)
        refine ⟨rfl, ?_⟩
        refine ⟨_, rfl, _, rfl, a1, x1, _, _, rfl, rfl, same_sqT s123 h1, g1, _, rfl, _, rfl, a2, x2, _, _, rfl, rfl, same_sqT s123 h2, g2, _, _, d, rfl, tp_kp ti1 (kp_same s123), tp_kp ti2 (kp_same s123), each d (List.mem_of_getElem? hd), fun H4 s4 => ?_⟩
        exact ⟨true, rfl, iteF ⟨s3.trans s4, s4 _ _ hDl⟩⟩
      · rintro H' ⟨s3, hDl⟩
        refine ⟨Nat.zero_le _, fun e he => ?_⟩
        have s4 := same_new (o := .lst []) he
        refine ⟨.list [], .list [], .lst (.inl (.inl (s4 _ _ hDl))) .nil, .lst (.inl (.inl upd_same)) .nil, shaped_nil, shaped_nil, ?_⟩
        exact q _ (s12.trans (s3.trans s4))
end
end K4
set_option maxHeartbeats 4000000
/-! law -/
namespace K4
open PySem PySem.Spec PyProof.Rows L2
section
variable {P : Program} {w : World} {K : PySem.W.Frag} {mg : Str → Option Value} {base : Heap}
theorem choice_at {H : Hp} {x : V} {c : List Nat} (h : Tp K H x (choiceD c)) : ∃ a, x = .ref a ∧ SqT K H a (c.map fun (b : Nat) => V.int (b : Nat)) := by
  obtain ⟨a, xs, rfl, hs, tx⟩ := tp_tup h
  have e : (c.map fun (b : Nat) => PyData.int (b : Nat)) = (c.map fun (b : Nat) => (b : Int)).map PyData.int := by
    rw [List.map_map]
    rfl
  rw [e] at tx
  have z := tpa_ints_eq tx
  rw [List.map_map] at z
  rw [z] at hs
  exact ⟨a, rfl, hs⟩
theorem stair_len {l ss : List Sz} (F : Front l fun p => p ∈ ss) : l.length ≤ ss.length :=
  nodup_len (show l.Nodup from List.Pairwise.imp (fun {a b} (h : lx a b) (e : a = b) => lx_irrefl b (by rw [e] at h; exact h)) F.stair.lx) F.sub
/-- list(t) -/
def rListOf (K : PySem.W.Frag) : List V → Hp → VK → Prop := fun xs H Q => ∃ p ys, xs = [V.ref p] ∧ (SqL K H p ys ∨ SqT K H p ys) ∧ ∀ l, H l = none → Q (.ref l) (upd H l (.lst ys))
theorem cr_listOf {X : Cx} : CallR X (.type "list") (rListOf X.K) := call_list_of
def spLaw (K : PySem.W.Frag) : Sp := fun vs H Q _ => ∃ (l : Addr) (ns : List Int), vs = [.ref l] ∧ SqL K H l (ns.map V.int) ∧ ∀ H', Q (.bl true) H'
theorem sc_law : FnScope ["_law_script", "_law_row", "_law_word_here", "_law_blocks_here", "_law_tree_here", "_law_some", "_law_choice", "_law_at", "_law_sizes"] ["_law_script"] (defScope sLaw) := ⟨rfl, rfl, rfl, by decide +kernel, rfl, by decide +kernel, by decide +kernel⟩
theorem ok_law {fa : Addr} {fd : FuncData} (F : Fun K "law" "law" sLaw fa fd) (B : Blt mg) (cw : Cl P w K mg base 3 "_law_word" (spLWord K)) (cb : Cl P w K mg base 2 "_law_blocks" (spLBlocks K)) (cp : Cl P w K mg base 2 "_law_pick" (spPick K)) (ct : Cl P w K mg base 1 "_law_tree" (spTree K))
    (cc : Cl P w K mg base 1 "_law_choices" (spChoices K)) (cs : Cl P w K mg base 6 "_law_size" (spLSize K 5)) (ca : Cl P w K mg base 4 "_law_alike" (spAlike K 3)) (cv : Cl P w K mg base 7 "curve" (spCurve K)) (ck : Cl P w K mg base 1 "_law_kept" (spLKept K)) (co : Cl P w K mg base 5 "curve_of" (spCurveOf K)) : FnOk P w K mg base CX0 8 fa fd ["_law_script"] (spLaw K) := by
  refine F.ok sc_law (fun vs H Q E h => ?_) (fun cdv A outer s H vs Q E hr h => ?_)
  · obtain ⟨l, ns, rfl, _⟩ := h
    rfl
  obtain ⟨l, ns, rfl, hl, q⟩ := h
  have hu := hr.units
  have nd := sc_law.nd
  refine ⟨_, pss_cons (ps_set (i := 1) nd rfl (.inl rfl) (pe_lst (pa_cons (pv 0) (pa_cons pe_int (pa_cons pe_int (pa_cons pe_int pa_nil))))))
    (pss_cons (ps_set (i := 2) nd rfl (.inl rfl) (pe_cl cw hr (by decide) (by rfl) (pa_cons (pv 1) (pa_cons pe_int pa_nil))))
    (pss_cons (ps_set (i := 3) nd rfl (.inr rfl) (pe_cl cb hr (by decide) (by rfl) (pa_cons (pv 1) (pa_cons (pe_op op_fdiv (pe_op op_add (pe_callB call_len_seq (by rfl) B.len bt_len (pa_cons (pv 2) pa_nil)) pe_int) pe_int)
        (pa_cons (pe_cl cp hr (by decide) (by rfl) (pa_cons (pv 1) (pa_cons (pe_lst (pa_cons pe_int (pa_cons pe_int (pa_cons pe_int pa_nil)))) pa_nil))) pa_nil)))))
    (pss_cons (ps_par (i := 4) (j := 5) rfl nd rfl rfl (by decide) rfl rfl (pa_cons (pe_cl ct hr (by decide) (by rfl) (pa_cons (pv 2) pa_nil)) (pa_cons (pe_lst pa_nil) pa_nil)) (by rfl))
    (pss_cons (ps_for PassesOwn.never rfl (pi_list (pe_cl cc hr (by decide) (by rfl) (pa_cons (pv 3) pa_nil))) (pg_name (i := 6) nd rfl (.inr rfl))
      (pss_one (ps_expr (pe_bm PySem.F.plainAttrs_list PySem.F.slot_list_append PySem.F.type_list_append mt_append (pv 5) (pa_cons (pe_cl cs hr (by decide) (by rfl)
        (pa_cons (pe_lc (own := [("_law_at", 7)]) (g := gName 7) (tt := tYes) (te := tOp (rIxT K) (tOp (rIxT K) (tVar 3) (tVar 7)) (tOp (rIxT K) (tVar 6) (tVar 7))) rfl nd
            (pi_range1 (by rfl) B.range (pa_cons (pe_callB call_len_seq (by rfl) B.len bt_len (pa_cons (pv 3) pa_nil)) pa_nil)) (blkOk_by (N := ["_law_script", "_law_row", "_law_word_here", "_law_blocks_here", "_law_tree_here", "_law_some", "_law_choice", "_law_at", "_law_sizes"]) (sc := defScope sLaw) (by decide +kernel))
            (fun _ _ _ _ _ => pg_name (i := 7) nd rfl (Or.inl rfl)) (fun _ _ _ _ _ => pts_nil)
            (fun _ _ _ _ _ => by exact pe_ix ix_tup (pe_ix ix_tup (pv 3) (pv 7) (fun _ _ => rfl)) (pe_ix ix_tup (pv 6) (pv 7) (fun _ _ => rfl)) (fun _ _ => rfl))) (pa_cons (pv 4) pa_nil))) pa_nil)))))
    (pss_cons (ps_if (pt_not (pt_val (pe_cl ca hr (by decide) (by rfl) (pa_cons (pe_cl cv hr (by decide) (by rfl) (pa_cons (pv 3) (pa_cons (pv 2) pa_nil))) (pa_cons (pe_cl ck hr (by decide) (by rfl) (pa_cons (pv 5) pa_nil)) pa_nil))))) (pss_one ps_never) pss_nil)
    (pss_one (ps_ret (pe_cmpR (op_eqD hu) (pe_lc (own := [("_law_sizes", 8)]) (g := gName 8)
        (tt := tNot (tB (tCall (spAlike K 3) [] E0 (tCons (tCall (spCurveOf K) [] E0 (tCons (tVar 8) tNil)) (tCons (tCall (spLKept K) [] E0 (tCons (tCB (rListOf K) (tCons (tVar 8) tNil)) tNil)) tNil))))) (te := tVar 8) rfl nd
        (pi_tup (pv 3)) (blkOk_by (N := ["_law_script", "_law_row", "_law_word_here", "_law_blocks_here", "_law_tree_here", "_law_some", "_law_choice", "_law_at", "_law_sizes"]) (sc := defScope sLaw) (by decide +kernel))
        (fun _ _ _ _ _ => pg_name (i := 8) nd rfl (Or.inl rfl))
        (fun _ _ _ _ _ => pts_one (pt_not (pt_val (by exact pe_cl ca hr (by decide) (by rfl) (pa_cons (pe_cl co hr (by decide) (by rfl) (pa_cons (pv 8) pa_nil)) (pa_cons (pe_cl ck hr (by decide) (by rfl) (pa_cons (pe_callTy cr_listOf (by rfl) B.list bt_list (pa_cons (pv 8) pa_nil)) pa_nil)) pa_nil))))))
        (fun _ _ _ _ _ => pv 8)) (pe_lst pa_nil) (nomark _))))))))), ?_⟩
  refine ⟨_, rfl, by show 4 ≤ sizeLine; decide, fun r nr => ?_⟩
  have R1 : RowOk K (upd H r (.lst [.ref l, .int 0, .int 3804, .int 0])) r l ns := ⟨0, 3804, 0, upd_same, (same_new nr).seq hl, Int.le_refl _⟩
  refine ⟨_, rfl, r, l, ns, rfl, R1, fun vw H2 wd t n b2 R2 tw WO hn5 => ?_⟩
  have hlen := WO.len
  have hpos := WO.pos
  obtain ⟨wa, wx, ew, hwa, twx⟩ := tp_tup tw
  have lwx := tpa_len twx
  rw [List.length_map] at lwx
  have e2 : ((wx.length : Int) + 1) / 2 = (n : Nat) := by omega
  refine ⟨_, rfl, _, rfl, wa, wx, by rw [ew], .inr hwa, _, 1, rfl, rfl, _, 2, rfl, rfl, ⟨by decide, by decide⟩, ?_⟩
  refine ⟨_, rfl, by show 3 ≤ sizeLine; decide, fun e ne => ?_⟩
  have s3 := same_new (o := .lst [V.int 3, V.int 8, V.int 30]) ne
  refine ⟨r, e, _, l, ns, rfl, R2.same s3, upd_same, R2.ne ne, ⟨by decide, by decide⟩, fun v H3 hv b3 R3 => ?_⟩
  obtain ⟨most, rfl, hmost⟩ : ∃ most : Int, v = .int most ∧ 1 ≤ most ∧ most ≤ 30 := by
    rcases List.mem_cons.mp hv with z | z
    · exact ⟨3, z, by decide, by decide⟩
    · rcases List.mem_cons.mp z with z | z
      · exact ⟨8, z, by decide, by decide⟩
      · exact ⟨30, List.mem_singleton.mp z, by decide, by decide⟩
  refine ⟨r, l, ns, n, most, by show [V.ref r, V.int (((wx.length : Int) + 1) / 2), V.int most] = _; rw [e2], R3, ⟨hpos, hn5⟩, hmost, fun vb H4 bs b4 R4 tb lb gb => ?_⟩
  have tw4 : Tp K H4 vw (wordD wd) := tp_kp tw ((kp_same s3).trans (((R2.same s3).kp b3).trans (R3.kp b4)))
  refine ⟨_, rfl, vw, wd, t, rfl, tw4, WO.run, by omega, fun vt H5 s5 tt => ⟨Nat.zero_le _, fun sm nsm => ⟨_, _, rfl, ?_⟩⟩⟩
  have s6 := same_new (o := .lst []) nsm
  have tb5 := tp_kp tb (kp_same s5)
  have tw5 := tp_kp tw4 (kp_same s5)
  obtain ⟨ba, bx, rfl, hba, tbx⟩ := tp_tup tb5
  have lbx := tpa_len tbx
  rw [List.length_map] at lbx
  have g3 : ∀ ss ∈ bs, ss.length ≤ 3 := fun ss hss => (gb ss hss).1.2
  have lv := WO.leaves
  have lvl : (leaves t).length = n := by rw [lv.length_eq, List.length_range]
  have lvb : ∀ b ∈ leaves t, b < bs.length := fun b hb => by
    have z := List.mem_range.mp (lv.mem_iff.mp hb)
    omega
  have lvn : (leaves t).Nodup := lv.nodup_iff.mpr List.nodup_range
  have chl : (choices (bs.map List.length)).length ≤ 243 := by
    have z := choices_len3 n (bs.map List.length) (by rw [List.length_map, lb]) fun k hk => by
      obtain ⟨ss, hss, rfl⟩ := List.mem_map.mp hk
      exact g3 ss hss
    exact Nat.le_trans z (Nat.pow_le_pow_right (by decide) hn5)
  refine ⟨_, rfl, .ref ba, bs, rfl, tp_kp tb5 (kp_same s6), g3, by omega, fun cp ys H7 ncp s7 hcp tys => ?_⟩
  have s67 := s6.trans s7
  have lys := tpa_len tys
  rw [List.length_map] at lys
  have nec : cp ≠ sm := fun e => by
    rw [e, upd_same] at ncp
    cases ncp
  refine ⟨cp, rfl, ⟨ys, .inl (.inl hcp)⟩, for_list (K := K) (a := cp) (xs := ys) (fun i σ H' => ∃ (y6 : Option V) (us : List V), σ = [some (.ref l), some (.ref r), some vw, some (.ref ba), some vt, some (.ref sm), y6, none, none] ∧ Same H5 H' ∧ Kp K H7 H' ∧ H' cp = some (.lst ys) ∧ H' sm = some (.lst us) ∧
      TpAll K H' us ((((choices (bs.map List.length)).take i).map fun c => sizeT (pick bs c) t).map szD))
    ⟨none, [], rfl, s67, Kp.refl _, hcp, s7 _ _ upd_same, .nil⟩ (fun i σ H' _ ⟨_, _, _, _, _, k, _⟩ => .inl (.inl k)) ?_ ?_⟩
  · rintro i x σ H' hx ⟨y6, us, rfl, sA, kp, hcp', hsm, tus⟩
    obtain ⟨d, hd, tx⟩ := tpa_at tys hx
    rw [List.getElem?_map] at hd
    obtain ⟨c, hc, rfl⟩ := Option.map_eq_some_iff.mp hd
    have hi : i < (choices (bs.map List.length)).length := (List.getElem?_eq_some_iff.mp hc).1
    obtain ⟨q1, q2⟩ := (mem_choices _ _ rfl c).1 (List.mem_of_getElem? hc)
    obtain ⟨ca, rfl, hca⟩ := choice_at (tp_kp tx kp)
    have lus := tpa_len tus
    rw [List.length_map, List.length_map, List.length_take] at lus
    refine ⟨_, rfl, .inl ⟨rfl, _, .inl (.inl hsm)⟩, _, rfl, ba, bx, rfl, .inr (same_sqT sA hba), _, rfl, by omega, by omega, fun Dl hD => ?_⟩
    rw [Int.toNat_natCast]
    refine lc_range (fun k H3 => Same H' H3 ∧ ∃ us, H3 Dl = some (.lst us) ∧ us.length = k ∧ TpAll K H3 us (((List.range k).map fun i => (bs.getD i []).getD (c.getD i 0) (0, 0)).map szD)) ⟨same_new hD, [], upd_same, rfl, .nil⟩ ?_ ?_
    · rintro k H3 hk ⟨sB, zs, hzs, lzs, tzs⟩
      have hk1 : k < bs.length := by omega
      obtain ⟨ss, hss⟩ : ∃ ss, bs[k]? = some ss := ⟨_, List.getElem?_eq_getElem hk1⟩
      obtain ⟨a, ha, halt⟩ := q2 k ss.length (by rw [List.getElem?_map, hss]; rfl)
      obtain ⟨sz, hsz⟩ : ∃ sz, ss[a]? = some sz := ⟨_, List.getElem?_eq_getElem halt⟩
      have sAB := sA.trans sB
      obtain ⟨v1, hv1, tv1⟩ := tpa_get (i := k) (tpa_kp tbx (kp_same sAB)) (by rw [List.getElem?_map, hss]; rfl)
      obtain ⟨sa, sv, rfl, hsa, tsv⟩ := tp_tup tv1
      obtain ⟨v2, hv2, tv2⟩ := tpa_get (i := a) tsv (by rw [List.getElem?_map, hsz]; rfl)
      have ek : (0 : Int) + (k : Nat) = (k : Nat) := by omega
      have g1 : atI bx ((0 : Int) + (k : Nat)) = some (.ref sa) := by rw [ek]; exact atI_nat hv1
      have g2 : atI (c.map fun (b : Nat) => V.int (b : Nat)) ((0 : Int) + (k : Nat)) = some (.int (a : Nat)) := by
        rw [ek]
        exact atI_nat (by rw [List.getElem?_map, ha]; rfl)
      refine ⟨rfl, ?_⟩
      refine ⟨_, rfl, _, rfl, ba, bx, _, _, rfl, rfl, same_sqT sAB hba, g1, _, rfl, _, rfl, ca, _, _, _, rfl, rfl, same_sqT sB hca, g2, sa, sv, (a : Nat), v2, rfl, rfl, hsa, atI_nat hv2, ?_⟩
      refine ⟨zs, hzs, small1000 (by omega), same_mut sB hD, zs ++ [v2], upd_same, by rw [List.length_append, lzs]; rfl, ?_⟩
      have ep : (bs.getD k []).getD (c.getD k 0) (0, 0) = sz := by
        rw [List.getD_eq_getElem?_getD (l := bs), hss, List.getD_eq_getElem?_getD (l := c), ha]
        show ss.getD a (0, 0) = sz
        rw [List.getD_eq_getElem?_getD, hsz]
        rfl
      rw [List.range_succ, List.map_append, List.map_append]
      have tl : Tp K (upd H3 Dl (.lst (zs ++ [v2]))) v2 (szD ((bs.getD k []).getD (c.getD k 0) (0, 0))) := by
        rw [ep]
        exact tp_kp tv2 (kp_lst hzs)
      exact tpa_snoc (tpa_kp tzs (kp_lst hzs)) tl
    · rintro H3 ⟨sB, zs, hzs, lzs, tzs⟩
      rw [lbx] at tzs
      have sAB := sA.trans sB
      have lp : (pick bs c).length = bs.length := by unfold pick; rw [List.length_map, List.length_range]
      refine ⟨_, rfl, Dl, vt, zs, pick bs c, t, rfl, .inl (.inl hzs), tzs, tp_kp tt (kp_same sAB), by have z := depth_le t; omega, fun b hb => by rw [lp]; exact lvb b hb, fun v' H8 s8 tv => ?_⟩
      have hsm8 := s8 _ _ (sB _ _ hsm)
      refine ⟨sm, us, v', rfl, rfl, hsm8, small1000 (by omega), ?_⟩
      have k9 : Kp K H8 (upd H8 sm (.lst (us ++ [v']))) := kp_lst hsm8
      refine ⟨_, us ++ [v'], rfl, same_mut (sAB.trans s8) nsm, kp.trans ((kp_same (sB.trans s8)).trans k9), by rw [upd_ne nec]; exact s8 _ _ (sB _ _ hcp'), upd_same, ?_⟩
      rw [List.take_succ, hc, List.map_append, List.map_append]
      exact tpa_snoc (tpa_kp tus ((kp_same (sB.trans s8)).trans k9)) (tp_kp tv k9)
  · rintro σ H' ⟨y6, us, rfl, sA, kp, hcp', hsm, tus⟩
    rw [lys, List.take_length] at tus
    have BO : BlocksOk bs := ⟨by omega, by omega, fun ss hss => ⟨⟨(gb ss hss).1.1, by have z := (gb ss hss).1.2; omega⟩, (gb ss hss).2⟩⟩
    have WO' : WordOk wd t bs.length := by rw [lb]; exact WO
    refine ⟨_, rfl, _, rfl, .ref ba, vw, bs, wd, t, rfl, tp_kp tb5 (kp_same sA), tp_kp tw5 (kp_same sA), BO, g3, WO', by omega, fun v1 H8 l1 s8 t1 F1 => ?_⟩
    have hsm8 := s8 _ _ hsm
    have h0 : ∀ ss ∈ bs, ss ≠ [] := fun ss hss e => by
      have z := (gb ss hss).1.1
      rw [e] at z
      exact absurd z (by decide)
    refine ⟨_, rfl, sm, us, allSizes bs t, rfl, .inl (.inl hsm8), tpa_kp tus (kp_same s8), ?_, fun v2 H9 srt s9 t2 plx mem => ?_⟩
    · show ((choices (bs.map List.length)).map fun c => sizeT (pick bs c) t).length ≤ 300
      rw [List.length_map]
      omega
    have F2 : Front l1 fun p => p ∈ allSizes bs t := F1.lean (fun p hp => (mem_all lvn lvb h0 p).2 hp) fun b hb => ⟨b, (mem_all lvn lvb h0 b).1 hb, le_refl b⟩
    have e1 : lawKept srt (allSizes bs t) = l1 := law_front F2 plx mem
    rw [e1] at t2
    have ll1 : l1.length ≤ 300 := by
      have z := stair_len F2
      have z2 : (allSizes bs t).length ≤ 300 := by
        show ((choices (bs.map List.length)).map fun c => sizeT (pick bs c) t).length ≤ 300
        rw [List.length_map]
        omega
      omega
    refine ⟨v1, v2, sizesD l1, rfl, tp_kp t1 (kp_same s9), t2, nar_sizes (by omega), fun H10 s10 => ⟨true, rfl, iteF ?_⟩⟩
    have sX := sA.trans (s8.trans (s9.trans s10))
    refine ⟨_, rfl, ba, rfl, ⟨_, same_sqT sX hba⟩, fun Dl hD => ?_⟩
    refine lc_tup (K := K) (a := ba) (xs := bx) (fun i H3 => Same H10 H3 ∧ H3 Dl = some (.lst [])) ⟨same_new hD, upd_same⟩ (fun i H3 _ t => same_sqT (sX.trans t.1) hba) ?_ ?_
    · rintro i x H3 hx ⟨sY, hDl⟩
      obtain ⟨ss, hss, ts⟩ := bl_at (tpa_kp tbx (kp_same (sX.trans sY))) hx
      have gs := gb ss (List.mem_of_getElem? hss)
      refine ⟨rfl, ?_⟩
      refine ⟨_, rfl, x, ss, rfl, ts, ⟨gs.1.1, by omega⟩, gs.2, fun v1 H11 l1 s11 t1 F1 => ?_⟩
      obtain ⟨sa, sv, rfl, hsa, tsv⟩ := tp_tup (tp_kp ts (kp_same s11))
      refine ⟨_, rfl, sa, sv, rfl, .inr hsa, fun lp nlp => ?_⟩
      have s12 := same_new (o := .lst sv) nlp
      refine ⟨lp, sv, ss, rfl, .inl (.inl upd_same), tpa_kp tsv (kp_same s12), by omega, fun v2 H13 srt s13 t2 plx mem => ?_⟩
      have e1 : lawKept srt ss = l1 := law_front F1 plx mem
      rw [e1] at t2
      have ll1 := stair_len F1
      refine ⟨v1, v2, sizesD l1, rfl, tp_kp t1 (kp_same (s12.trans s13)), t2, nar_sizes (by omega), fun H14 s14 => ?_⟩
      have sZ := s11.trans (s12.trans (s13.trans s14))
      exact ⟨true, rfl, iteF ⟨sY.trans sZ, sZ _ _ hDl⟩⟩
    · rintro H3 ⟨sY, hDl⟩
      refine ⟨Nat.zero_le _, fun e he => ?_⟩
      have s4 := same_new (o := .lst []) he
      exact ⟨.list [], .list [], .lst (.inl (.inl (s4 _ _ hDl))) .nil, .lst (.inl (.inl upd_same)) .nil, shaped_nil, shaped_nil, q _⟩
end
end K4
namespace K4
open PySem PySem.Spec PyProof.Rows L2
theorem df_mk {K : PySem.W.Frag} {h : Heap} {mg : Str → Option Value} (X : K.In h) (G : h.Ns mainGlobals mg) {x : Str} {st : Stmt} {f1 : Addr} {od1 an1 : Option Addr} {sl1 : Array (Option Value)} {oc1 kV1 dc1 pm1 cd1 ct1 : Value}
    (a1 : PySem.W.nsIn K mainGlobals x = some (some (.ref f1))) (l1 : K.lookup f1 = some ⟨oc1, od1, .func (PySem.W.fnOf x x (defArgs st) (defBody st) (defScope st) .none kV1 dc1 pm1 an1 cd1 ct1), sl1⟩) (c1 : PySem.W.codeIn K cd1 x = true) (k1 : PySem.W.keepIn K (.ref f1) = true) : Df K mg x st :=
  ⟨_, _, fun_mk l1 c1 k1, PySem.W.mg_of X G a1⟩
theorem int_mk {K : PySem.W.Frag} {h : Heap} {mg : Str → Option Value} (X : K.In h) (G : h.Ns mainGlobals mg) {x : Str} {i : Int} {t : PySem.Tok} (a1 : PySem.W.nsIn K mainGlobals x = some (some (.int i t))) : ∃ t, mg x = some (.int i t) := ⟨t, PySem.W.mg_of X G a1⟩
/-- all defs of the top -/
structure Tops (K : PySem.W.Frag) (mg : Str → Option Value) : Prop where
  b : Blt mg
  d1 : Df K mg "is_integer" sIsInt
  d2 : Df K mg "is_in" sIsIn
  d3 : Df K mg "is_list" sIsList
  d4 : Df K mg "is_token" sIsToken
  d5 : Df K mg "need_word" sNeedWord
  d6 : Df K mg "tree_of" sTreeOf
  d7 : Df K mg "is_size" sIsSize
  d8 : Df K mg "need_blocks" sNeedBlocks
  d9 : Df K mg "kept" sKept
  d10 : Df K mg "curve_of" sCurveOf
  d11 : Df K mg "put" sPut
  d12 : Df K mg "curve_in" sCurveIn
  d13 : Df K mg "need_fit" sNeedFit
  d14 : Df K mg "curve" sCurve
  d15 : Df K mg "_law_taken" sTaken
  d16 : Df K mg "_law_pick" sPick
  d17 : Df K mg "_law_alike" sAlike
  d18 : Df K mg "_law_word" sWord
  d19 : Df K mg "_law_tree" sLTree
  d20 : Df K mg "_law_put" sLPut
  d21 : Df K mg "_law_size" sLSize
  d22 : Df K mg "_law_blocks" sBlocks
  d23 : Df K mg "_law_choices" sChoices
  d24 : Df K mg "_law_kept" sLKept
theorem law_ok {P : Program} {w : World} {K : PySem.W.Frag} {mg : Str → Option Value} {base : Heap} (T : Tops K mg) {fa : Addr} {fd : FuncData} (F : Fun K "law" "law" sLaw fa fd) : FnOk P w K mg base CX0 8 fa fd ["_law_script"] (spLaw K) := by
  have B := T.b
  have c1 : Cl P w K mg base 1 "is_integer" spIsInt := ok_isint T.d1 B
  have c2 : Cl P w K mg base 2 "is_in" spIsIn := ok_isin T.d2 c1
  have c3 : Cl P w K mg base 1 "is_list" (spIsList K) := ok_islist T.d3 B
  have c4 : Cl P w K mg base 3 "is_token" spIsToken := ok_istoken T.d4 B c2
  have c5 : Cl P w K mg base 4 "need_word" (spNeedWord K) := ok_needword T.d5 B c3 c4
  have c6 : Cl P w K mg base 1 "tree_of" (spTree K) := ok_treeof T.d6 B
  have c7 : Cl P w K mg base 3 "is_size" (spIsSize K) := ok_issize T.d7 B c3 c2
  have c8 : Cl P w K mg base 4 "need_blocks" (spNeedBlocks K) := ok_needblocks T.d8 B c3 c7
  have c9 : Cl P w K mg base 1 "kept" (spKept K) := ok_kept T.d9 B
  have c10 : Cl P w K mg base 5 "curve_of" (spCurveOf K) := ok_curveof T.d10 B c8 c9
  have c11 : Cl P w K mg base 1 "put" (spPut K) := ok_put T.d11 B
  have c12 : Cl P w K mg base 6 "curve_in" (spCurveIn K 5) := ok_curvein T.d12 B c9 c11 5
  have c13 : Cl P w K mg base 5 "need_fit" (spNeedFit K) := ok_needfit T.d13 B c8 c5
  have c14 : Cl P w K mg base 7 "curve" (spCurve K) := ok_curve T.d14 B c13 c6 c12
  have c15 : Cl P w K mg base 1 "_law_taken" (spTaken K) := ok_taken T.d15 B
  have c16 : Cl P w K mg base 2 "_law_pick" (spPick K) := ok_pick T.d16 B c15
  have c17 : Cl P w K mg base 4 "_law_alike" (spAlike K 3) := ok_alike T.d17 B 3
  have c18 : Cl P w K mg base 3 "_law_word" (spLWord K) := ok_lword T.d18 B c15 c16
  have c19 : Cl P w K mg base 1 "_law_tree" (spTree K) := ok_ltree T.d19 B
  have c20 : Cl P w K mg base 1 "_law_put" (spPut K) := ok_lput T.d20 B
  have c21 : Cl P w K mg base 6 "_law_size" (spLSize K 5) := ok_lsize T.d21 B c20 5
  have c22 : Cl P w K mg base 2 "_law_blocks" (spLBlocks K) := ok_lblocks T.d22 B c15
  have c23 : Cl P w K mg base 1 "_law_choices" (spChoices K) := ok_choices T.d23 B
  have c24 : Cl P w K mg base 1 "_law_kept" (spLKept K) := ok_lkept T.d24 B
  exact ok_law F B c18 c22 c16 c19 c23 c21 c17 c14 c24 c10
theorem all_mk {l : PySem.W.OpenLaw} {w : World} {K : PySem.W.Frag} {h : Heap} {mg : Str → Option Value} {fa f2 : Addr} (X : K.In h) (G : h.Ns mainGlobals mg) (hfa : mg "law" = some (.ref fa)) (T : Tops K mg)
    {od2 an2 : Option Addr} {sl2 : Array (Option Value)} {oc2 kV2 dc2 pm2 cd2 ct2 : Value}
    (a2 : PySem.W.nsIn K mainGlobals "law" = some (some (.ref f2))) (l2 : K.lookup f2 = some ⟨oc2, od2, .func (PySem.W.fnOf "law" "law" (defArgs sLaw) (defBody sLaw) (defScope sLaw) .none kV2 dc2 pm2 an2 cd2 ct2), sl2⟩) (c2 : PySem.W.codeIn K cd2 "law" = true) (k2 : PySem.W.keepIn K (.ref f2) = true) :
    ∃ fd : FuncData, (∀ (s : Shared) (v : Value), BindsTo s fd ⟨[v], []⟩ [("_law_script", v)]) ∧ ∀ base : Heap, K.In base → base.Ns mainGlobals mg → FnOk l.prog w K mg base CX0 8 fa fd ["_law_script"] (spLaw K) := by
  have e := hfa.symm.trans (PySem.W.mg_of X G a2)
  cases e
  have F2 := fun_mk (st := sLaw) l2 c2 k2
  exact ⟨PySem.W.fnOf "law" "law" (defArgs sLaw) (defBody sLaw) (defScope sLaw) .none kV2 dc2 pm2 an2 cd2 ct2, fun s v => .of_eq rfl, fun base _ _ => law_ok T F2⟩
end K4
open PySem PySem.W PyProof.Rows
set_option maxHeartbeats 0 in
theorem PySem.Challenge.cw_chipfloor_k04_whole_curves_holds : PySem.Challenge.rw_chipfloor_k04_whole_curves.Holds := by
  w_on; o_law; k_head; (case hw => w_witness2)
  k_fill
  refine L2.walk_of (l := PySem.Challenge.rw_chipfloor_k04_whole_curves) (n := 63) (k := 8) (x := "_law_script") (CX := fun _ => L2.CX0) (sp := fun w => K4.spLaw _) rfl (by decide) rfl ⟨rfl, by decide, by decide⟩ (fun w h Y => PySem.W.kIn_of Y) ?F (fun _ _ a ns hl _ hS => ⟨a, ns, rfl, hS, fun _ => rfl⟩) (fun _ _ _ _ _ h => h)
  case F =>
    intro w mg fa h KX G hmg
    refine' K4.all_mk KX G hmg ?T ?a2 ?l2 ?c2 ?k2
    (case a2 => k_is); (case l2 => k_is); (case c2 => k_is); (case k2 => k_is)
    case T =>
      constructor
      case b =>
        constructor
        case b8 => refine' K4.int_mk KX G ?a1; (case a1 => k_is)
        case b6 => refine' K4.int_mk KX G ?a1; (case a1 => k_is)
        case b100 => refine' K4.int_mk KX G ?a1; (case a1 => k_is)
        all_goals (refine' PySem.W.mg_none_of KX G ?_; k_is)
      all_goals (refine' K4.df_mk KX G ?a1 ?l1 ?c1 ?k1; (case a1 => k_is); (case l1 => k_is); (case c1 => k_is); (case k1 => k_is))
