import PyProof.Rows.All
import Wide.All
import OpenK.AllK
import Wide.FinOn
import HandS.ForMost
import HandS.Walk
import HandS.Defaults
import HandS.TryOnly
import HandS.TupAny
import HandS.Style
import KE.KRevSl
import KE.SortData
import KE.GoesMore
import HandS.IsInst
import HandS.Deep
import HandS.Flow
import HandS.More
import HandS.Replace
import PyProof.StrLawsFirst
import KE.DataMinMax
import PyProof.StrOps2
import HandS.HeadHook1
import HandS.HeadHook2
import HandS.Strs
import KE.KDictKeyed
import HandS.ExcInit
import HandS.ExcField
import HandS.RaiseMore
import HandS.ExcOwn
import HandS.WordsExc
import HandS.Codes
import HandS.Ends
import PyProof.ReprRoads
import PyProof.CallFns
import KE.KStateDown
import HandS.Base
import HandS.Call
import HandS.Words
import HandS.Head0
import HandS.Head1
import HandS.Head2
import HandS.HeadEnd
import PySem.Challenge.RW_ringwords_k42_whole_crossing_papers_of_a
set_option Elab.async false
set_option linter.all false
set_option maxRecDepth 100000
set_option maxHeartbeats 0
/-! Crossings and links, in plain Lean: the abstract part. Strands of closed ways, a drawing told by places of points, links as stretches that part to unlike sides. No program in sight. -/
namespace RW

/-! ### letters -/
abbrev L := Fin 12
def bk (c : L) : L := c + 6
theorem bk_bk (c : L) : bk (bk c) = c := by revert c; decide
theorem bk_ne (c : L) : bk c ≠ c := by revert c; decide
theorem bk_inj {a b : L} (h : bk a = bk b) : a = b := by rw [← bk_bk a, h, bk_bk]
theorem bk_eq_iff {a b : L} : bk a = bk b ↔ a = b := ⟨bk_inj, fun h => by rw [h]⟩
theorem eq_bk_comm {a b : L} : a = bk b ↔ bk a = b := ⟨fun h => by rw [h, bk_bk], fun h => by rw [← h, bk_bk]⟩
def small (c : L) : Bool := decide (c.val < 6)
theorem small_bk (c : L) : small (bk c) = !small c := by revert c; decide

/-! ### counting by a relation -/
theorem length_le_of_rel {α β : Type} (R : α → β → Prop) : ∀ (xs : List α) (ys : List β), xs.Nodup → (∀ a ∈ xs, ∃ b ∈ ys, R a b) → (∀ a ∈ xs, ∀ a' ∈ xs, ∀ b ∈ ys, R a b → R a' b → a = a') → xs.length ≤ ys.length
  | [], _, _, _, _ => Nat.zero_le _
  | x :: xs, ys, hn, he, hu => by
    obtain ⟨b, hb, hr⟩ := he x List.mem_cons_self
    obtain ⟨l, r, rfl⟩ := List.append_of_mem hb
    have hn' := List.nodup_cons.mp hn
    have ih := length_le_of_rel R xs (l ++ r) hn'.2 (fun a ha => by
      obtain ⟨c, hc, hac⟩ := he a (List.mem_cons_of_mem _ ha)
      refine ⟨c, ?_, hac⟩
      rw [List.mem_append, List.mem_cons] at hc
      rcases hc with hc | hc | hc
      · exact List.mem_append_left _ hc
      · subst hc
        have e := hu x List.mem_cons_self a (List.mem_cons_of_mem _ ha) c hb hr hac
        exact absurd (e ▸ ha) hn'.1
      · exact List.mem_append_right _ hc) (fun a ha a' ha' c hc => hu a (List.mem_cons_of_mem _ ha) a' (List.mem_cons_of_mem _ ha') c (by
        rw [List.mem_append] at hc
        rw [List.mem_append, List.mem_cons]
        rcases hc with hc | hc
        · exact .inl hc
        · exact .inr (.inr hc)))
    rw [List.length_append] at ih
    rw [List.length_append, List.length_cons, List.length_cons]
    omega

/-! ### going round -/
/-- how far going round from b one meets x -/
def ri (S : List L) (b x : L) : Nat := if S.idxOf b ≤ S.idxOf x then S.idxOf x - S.idxOf b else S.idxOf x + S.length - S.idxOf b
def cf (S : List L) (b x y : L) : Prop := ri S b x < ri S b y
instance (S b x y) : Decidable (cf S b x y) := inferInstanceAs (Decidable (_ < _))
theorem idx_inj {S : List L} {a b : L} (ha : a ∈ S) (h : S.idxOf a = S.idxOf b) : a = b := by
  have h1 := List.idxOf_lt_length_iff.mpr ha
  have e1 : S[S.idxOf a]? = some a := by rw [List.getElem?_eq_getElem h1, List.getElem_idxOf h1]
  have h2 : S.idxOf b < S.length := by rw [← h]; exact h1
  have e2 : S[S.idxOf b]? = some b := by rw [List.getElem?_eq_getElem h2, List.getElem_idxOf h2]
  rw [h, e2] at e1
  exact (Option.some.inj e1).symm
theorem ri_inj {S : List L} {b x y : L} (hb : b ∈ S) (hx : x ∈ S) (hy : y ∈ S) (h : ri S b x = ri S b y) : x = y := by
  have h1 := List.idxOf_lt_length_iff.mpr hb
  have h2 := List.idxOf_lt_length_iff.mpr hx
  have h3 := List.idxOf_lt_length_iff.mpr hy
  apply idx_inj hx
  unfold ri at h
  split at h <;> split at h <;> omega
theorem cf_anti {S : List L} {b x y : L} (hb : b ∈ S) (hx : x ∈ S) (hy : y ∈ S) (h : x ≠ y) : cf S b y x ↔ ¬ cf S b x y := by
  have h1 : ri S b x ≠ ri S b y := fun e => h (ri_inj hb hx hy e)
  unfold cf
  omega
theorem cf_trans {S : List L} {b x y z : L} (h : cf S b x y) (h' : cf S b y z) : cf S b x z := Nat.lt_trans h h'
theorem cf_ne {S : List L} {b x y : L} (h : cf S b x y) : x ≠ y := fun e => by
  subst e
  exact absurd h (Nat.lt_irrefl _)

/-- one point of the second pair lies between the first pair's points -/
def X4 (a b c d : Nat) : Prop := ¬ ((min a b < c ∧ c < max a b) ↔ (min a b < d ∧ d < max a b))
instance (a b c d) : Decidable (X4 a b c d) := inferInstanceAs (Decidable (¬ _))
theorem X4.swap1 {a b c d : Nat} : X4 a b c d ↔ X4 b a c d := by unfold X4; omega
theorem X4.swap2 {a b c d : Nat} : X4 a b c d ↔ X4 a b d c := by unfold X4; omega
theorem X4.symm {a b c d : Nat} (h1 : a ≠ c) (h2 : a ≠ d) (h3 : b ≠ c) (h4 : b ≠ d) (h5 : a ≠ b) (h6 : c ≠ d) : X4 a b c d ↔ X4 c d a b := by unfold X4; omega

/-! ### strands -/
structure Sys (σ : Type) where
  ss : List σ
  mv : σ → Int → σ
  l : σ → L
  lt : σ → σ → Prop
  rm : σ → σ → Nat
  S : List L
  mem : ∀ x ∈ ss, ∀ k, mv x k ∈ ss
  zero : ∀ x ∈ ss, mv x 0 = x
  add : ∀ x ∈ ss, ∀ a b, mv (mv x a) b = mv x (a + b)
  red : ∀ x ∈ ss, l (mv x 1) ≠ bk (l x)
  inS : ∀ x ∈ ss, l x ∈ S
  bkS : ∀ c ∈ S, bk c ∈ S
  irr : ∀ x, ¬ lt x x
  trans : ∀ x y z, lt x y → lt y z → lt x z
  total : ∀ x y, x ≠ y → lt x y ∨ lt y x
  rmv : ∀ x ∈ ss, ∀ y ∈ ss, ∀ a b, rm (mv x a) (mv y b) = rm x y
  rsym : ∀ x y, rm x y = rm y x
  fwA : ∀ x ∈ ss, ∀ y ∈ ss, (∀ k : Nat, k < rm x y → l (mv x k) = l (mv y k)) → ∀ k : Int, l (mv x k) = l (mv y k)
  fwB : ∀ x ∈ ss, ∀ y ∈ ss, (∀ k : Nat, k < rm x y → l (mv x k) = bk (l (mv y (-k)))) → ∀ k : Int, l (mv x k) = bk (l (mv y (-k)))
  parA : ∀ x ∈ ss, ∀ y ∈ ss, x ≠ y → (∀ k : Int, l (mv x k) = l (mv y k)) → ∀ a b, lt (mv x a) (mv y b) ↔ lt x y
  parB : ∀ x ∈ ss, ∀ y ∈ ss, (∀ k : Int, l (mv x k) = bk (l (mv y (-k)))) → ∀ a b, lt (mv x a) (mv y b) ↔ lt x y

section
variable {σ : Type} (Y : Sys σ)
/-- so many bands on, forth or back -/
def Sys.dm (d : Bool) (x : σ) (k : Int) : σ := if d then Y.mv x k else Y.mv x (-k)
/-- the end by which one goes out so many bands on, forth or back -/
def Sys.dl (d : Bool) (x : σ) (k : Int) : L := if d then Y.l (Y.mv x k) else bk (Y.l (Y.mv x (-k)))
/-- the chord behind the k-th band -/
def Sys.ch (d : Bool) (x : σ) (k : Int) : σ := if d then Y.mv x k else Y.mv x (-k - 1)
variable {Y}
variable {x y : σ} {d : Bool}
theorem Sys.dm_mem (hx : x ∈ Y.ss) (k : Int) : Y.dm d x k ∈ Y.ss := by unfold Sys.dm; split <;> exact Y.mem _ hx _
theorem Sys.dm_zero (hx : x ∈ Y.ss) : Y.dm d x 0 = x := by unfold Sys.dm; split <;> simp [Y.zero x hx]
theorem Sys.dm_add (hx : x ∈ Y.ss) (a b : Int) : Y.dm d (Y.dm d x a) b = Y.dm d x (a + b) := by
  unfold Sys.dm
  split
  · exact Y.add x hx a b
  · rw [Y.add x hx]; congr 1; omega
theorem Sys.dl_dm (hx : x ∈ Y.ss) (a b : Int) : Y.dl d (Y.dm d x a) b = Y.dl d x (a + b) := by
  unfold Sys.dl Sys.dm
  split
  · rw [Y.add x hx a b]
  · rw [Y.add x hx]; congr 3; omega
theorem Sys.ch_dm (hx : x ∈ Y.ss) (a b : Int) : Y.ch d (Y.dm d x a) b = Y.ch d x (a + b) := by
  unfold Sys.ch Sys.dm
  split
  · rw [Y.add x hx a b]
  · rw [Y.add x hx]; congr 1; omega
theorem Sys.ch_mem (hx : x ∈ Y.ss) (k : Int) : Y.ch d x k ∈ Y.ss := by unfold Sys.ch; split <;> exact Y.mem _ hx _
theorem Sys.dl_S (hx : x ∈ Y.ss) (k : Int) : Y.dl d x k ∈ Y.S := by
  unfold Sys.dl
  split
  · exact Y.inS _ (Y.mem _ hx _)
  · exact Y.bkS _ (Y.inS _ (Y.mem _ hx _))
/-- a way never turns back -/
theorem Sys.dl_red (hx : x ∈ Y.ss) (k : Int) : Y.dl d x (k + 1) ≠ bk (Y.dl d x k) := by
  unfold Sys.dl
  split
  · have h := Y.red _ (Y.mem _ hx k)
    rw [Y.add x hx] at h
    exact h
  · have h := Y.red _ (Y.mem _ hx (-(k + 1)))
    rw [Y.add x hx] at h
    have e : -(k + 1) + 1 = -k := by omega
    rw [e] at h
    intro q
    rw [bk_bk] at q
    exact h q.symm
theorem Sys.mv_inj (hx : x ∈ Y.ss) (hy : y ∈ Y.ss) {k : Int} (h : Y.mv x k = Y.mv y k) : x = y := by
  have e := congrArg (fun z => Y.mv z (-k)) h
  simp only [Y.add x hx, Y.add y hy, show k + -k = 0 by omega, Y.zero x hx, Y.zero y hy] at e
  exact e
theorem Sys.ch_inj (hx : x ∈ Y.ss) (hy : y ∈ Y.ss) {k : Int} (h : Y.ch d x k = Y.ch d y k) : x = y := by
  unfold Sys.ch at h
  split at h <;> exact Sys.mv_inj hx hy h
theorem Sys.dm_inj (hx : x ∈ Y.ss) (hy : y ∈ Y.ss) {k : Int} (h : Y.dm d x k = Y.dm d y k) : x = y := by
  unfold Sys.dm at h
  split at h <;> exact Sys.mv_inj hx hy h
theorem Sys.lt_asymm {x y : σ} (h : Y.lt x y) : ¬ Y.lt y x := fun q => Y.irr _ (Y.trans _ _ _ h q)
end

/-! ### drawings -/
/-- a strand goes through the band of an end -/
def Sys.on {σ : Type} (Y : Sys σ) (e : L) (x : σ) : Prop := x ∈ Y.ss ∧ (Y.l x = e ∨ bk (Y.l x) = e)
structure Dr {σ : Type} (Y : Sys σ) where
  pos : L → σ → Nat
  p1 : ∀ e e' x x', Y.on e x → Y.on e' x' → e ≠ e' → (pos e x < pos e' x' ↔ Y.S.idxOf e < Y.S.idxOf e')
  p2 : ∀ e x y, Y.on e x → Y.on e y → x ≠ y → pos e x ≠ pos e y
  p3 : ∀ e x y, Y.on e x → Y.on e y → x ≠ y → (pos (bk e) x < pos (bk e) y ↔ pos e y < pos e x)
section
variable {σ : Type} {Y : Sys σ} (D : Dr Y)
/-- the chords of two strands cross -/
def Dr.crs (u v : σ) : Prop := X4 (D.pos (bk (Y.l u)) u) (D.pos (Y.l (Y.mv u 1)) (Y.mv u 1)) (D.pos (bk (Y.l v)) v) (D.pos (Y.l (Y.mv v 1)) (Y.mv v 1))
variable {D}
theorem on_l {x : σ} (hx : x ∈ Y.ss) : Y.on (Y.l x) x := ⟨hx, .inl rfl⟩
theorem on_bk {x : σ} (hx : x ∈ Y.ss) : Y.on (bk (Y.l x)) x := ⟨hx, .inr rfl⟩
theorem on_dl {x : σ} {d : Bool} (hx : x ∈ Y.ss) (k : Int) : Y.on (Y.dl d x k) (Y.dm d x k) := by
  unfold Sys.dl Sys.dm
  split
  · exact on_l (Y.mem _ hx _)
  · exact on_bk (Y.mem _ hx _)
theorem on_of_bk {e : L} {x : σ} (h : Y.on e x) : Y.on (bk e) x := by
  refine ⟨h.1, ?_⟩
  rcases h.2 with h | h
  · exact .inr (by rw [h])
  · exact .inl (by rw [← h, bk_bk])
/-- a chord by its directed ends -/
theorem crs_dir {x y : σ} {d d' : Bool} (hx : x ∈ Y.ss) (hy : y ∈ Y.ss) (k k' : Int) : D.crs (Y.ch d x k) (Y.ch d' y k') ↔
    X4 (D.pos (bk (Y.dl d x k)) (Y.dm d x k)) (D.pos (Y.dl d x (k + 1)) (Y.dm d x (k + 1))) (D.pos (bk (Y.dl d' y k')) (Y.dm d' y k')) (D.pos (Y.dl d' y (k' + 1)) (Y.dm d' y (k' + 1))) := by
  unfold Dr.crs Sys.ch Sys.dl Sys.dm
  have e1 : ∀ k : Int, -k - 1 + 1 = -k := fun k => by omega
  have e2 : ∀ k : Int, -(k + 1) = -k - 1 := fun k => by omega
  cases d <;> cases d' <;> simp only [Bool.false_eq_true, if_false, if_true, Y.add x hx, Y.add y hy, bk_bk, e1, e2]
  · rw [X4.swap1, X4.swap2]
  · rw [X4.swap1]
  · rw [X4.swap2]
theorem on_S {e : L} {x : σ} (h : Y.on e x) : Y.S.idxOf e < Y.S.length ∧ e ∈ Y.S := by
  have : e ∈ Y.S := by
    rcases h.2 with q | q
    · rw [← q]; exact Y.inS _ h.1
    · rw [← q]; exact Y.bkS _ (Y.inS _ h.1)
  exact ⟨List.idxOf_lt_length_iff.mpr this, this⟩
theorem pos_cmp {e f : L} {u v : σ} (hu : Y.on e u) (hv : Y.on f v) (h : e ≠ f) : (D.pos e u < D.pos f v ∧ Y.S.idxOf e < Y.S.idxOf f) ∨ (D.pos f v < D.pos e u ∧ Y.S.idxOf f < Y.S.idxOf e) := by
  have n : Y.S.idxOf e ≠ Y.S.idxOf f := fun q => h (idx_inj (on_S hu).2 q)
  rcases Nat.lt_or_gt_of_ne n with q | q
  · exact .inl ⟨(D.p1 _ _ _ _ hu hv h).mpr q, q⟩
  · exact .inr ⟨(D.p1 _ _ _ _ hv hu (Ne.symm h)).mpr q, q⟩
/-- chords with just one end in common -/
theorem x4_one {e f g : L} {u v u' v' : σ} (hu : Y.on e u) (hv : Y.on e v) (hu' : Y.on f u') (hv' : Y.on g v') (ne : u ≠ v) (h1 : e ≠ f) (h2 : e ≠ g) (h3 : f ≠ g) :
    X4 (D.pos e u) (D.pos f u') (D.pos e v) (D.pos g v') ↔ (D.pos e u < D.pos e v ↔ cf Y.S e f g) := by
  have a1 := pos_cmp (D := D) hu hu' h1
  have a2 := pos_cmp (D := D) hu hv' h2
  have a3 := pos_cmp (D := D) hv hu' h1
  have a4 := pos_cmp (D := D) hv hv' h2
  have c1 := pos_cmp (D := D) hu' hv' h3
  have c3 := Nat.lt_or_gt_of_ne (D.p2 _ _ _ hu hv ne)
  have n1 := (on_S hu).1
  have n2 := (on_S hu').1
  have n3 := (on_S hv').1
  unfold X4 cf ri
  generalize D.pos e u = p at *
  generalize D.pos e v = q at *
  generalize D.pos f u' = r at *
  generalize D.pos g v' = s at *
  generalize Y.S.idxOf e = i at *
  generalize Y.S.idxOf f = j at *
  generalize Y.S.idxOf g = h at *
  rcases a1 with ⟨a1, b1⟩ | ⟨a1, b1⟩ <;> rcases a2 with ⟨a2, b2⟩ | ⟨a2, b2⟩ <;> rcases c1 with ⟨c1, c2⟩ | ⟨c1, c2⟩ <;> rcases c3 with c3 | c3 <;>
    (simp only [Nat.min_def, Nat.max_def]; (repeat' split) <;> omega)
/-- chords with both ends in common -/
theorem x4_two {e f : L} {u v u' v' : σ} (hu : Y.on e u) (hv : Y.on e v) (hu' : Y.on f u') (hv' : Y.on f v') (ne : u ≠ v) (ne' : u' ≠ v') (h1 : e ≠ f) :
    X4 (D.pos e u) (D.pos f u') (D.pos e v) (D.pos f v') ↔ (D.pos e u < D.pos e v ↔ D.pos f u' < D.pos f v') := by
  have a1 := pos_cmp (D := D) hu hu' h1
  have a2 := pos_cmp (D := D) hu hv' h1
  have a3 := pos_cmp (D := D) hv hu' h1
  have a4 := pos_cmp (D := D) hv hv' h1
  have c3 := Nat.lt_or_gt_of_ne (D.p2 _ _ _ hu hv ne)
  have c4 := Nat.lt_or_gt_of_ne (D.p2 _ _ _ hu' hv' ne')
  unfold X4
  generalize D.pos e u = p at *
  generalize D.pos e v = q at *
  generalize D.pos f u' = r at *
  generalize D.pos f v' = s at *
  generalize Y.S.idxOf e = i at *
  generalize Y.S.idxOf f = j at *
  rcases a1 with ⟨a1, b1⟩ | ⟨a1, b1⟩ <;> rcases c3 with c3 | c3 <;> rcases c4 with c4 | c4 <;>
    (simp only [Nat.min_def, Nat.max_def]; (repeat' split) <;> omega)
/-- chords with four ends: as their ends lie -/
theorem x4_four {a b c d : L} {u v u' v' : σ} (hu : Y.on a u) (hv : Y.on c v) (hu' : Y.on b u') (hv' : Y.on d v') (h1 : a ≠ b) (h2 : a ≠ c) (h3 : a ≠ d) (h4 : b ≠ c) (h5 : b ≠ d) :
    X4 (D.pos a u) (D.pos b u') (D.pos c v) (D.pos d v') ↔ ¬ (cf Y.S a c b ↔ cf Y.S a d b) := by
  have a1 := pos_cmp (D := D) hu hu' h1
  have a2 := pos_cmp (D := D) hu hv h2
  have a3 := pos_cmp (D := D) hu hv' h3
  have a4 := pos_cmp (D := D) hu' hv h4
  have a5 := pos_cmp (D := D) hu' hv' h5
  have n1 := (on_S hu).1
  have n2 := (on_S hu').1
  have n3 := (on_S hv').1
  have n4 := (on_S hv).1
  unfold X4 cf ri
  generalize D.pos a u = p at *
  generalize D.pos c v = q at *
  generalize D.pos b u' = r at *
  generalize D.pos d v' = s at *
  generalize Y.S.idxOf a = i at *
  generalize Y.S.idxOf b = j at *
  generalize Y.S.idxOf c = h at *
  generalize Y.S.idxOf d = t at *
  rcases a1 with ⟨a1, b1⟩ | ⟨a1, b1⟩ <;> rcases a2 with ⟨a2, b2⟩ | ⟨a2, b2⟩ <;> rcases a3 with ⟨a3, b3⟩ | ⟨a3, b3⟩ <;> rcases a4 with ⟨a4, b4⟩ | ⟨a4, b4⟩ <;> rcases a5 with ⟨a5, b5⟩ | ⟨a5, b5⟩ <;>
    first | (exfalso; omega) | (simp only [Nat.min_def, Nat.max_def]; (repeat' split) <;> omega)
end
end RW
/-! Links are not more than crossings. -/
namespace RW
section
variable {σ : Type} {Y : Sys σ} {x y : σ} {d : Bool} {m : Nat}
theorem Sys.dl_true (k : Int) : Y.dl true x k = Y.l (Y.mv x k) := rfl
theorem Sys.dl_false (k : Int) : Y.dl false x k = bk (Y.l (Y.mv x (-k))) := rfl
theorem Sys.dl_flip (k : Int) : Y.dl (!d) x k = bk (Y.dl d x (-k)) := by
  cases d
  · simp [Sys.dl, bk_bk]
  · simp [Sys.dl]
theorem Sys.l_zero (hx : x ∈ Y.ss) : Y.dl true x 0 = Y.l x := by rw [Sys.dl_true, Y.zero x hx]
theorem Sys.lf_zero (hx : x ∈ Y.ss) : Y.dl false x 0 = bk (Y.l x) := by rw [Sys.dl_false]; simp [Y.zero x hx]
/-- a common stretch of m letters, as long as can be -/
structure Rn (Y : Sys σ) (d : Bool) (x y : σ) (m : Nat) : Prop where
  hx : x ∈ Y.ss
  hy : y ∈ Y.ss
  hm : 0 < m
  eq : ∀ k : Int, 0 ≤ k → k < m → Y.dl true x k = Y.dl d y k
  bg : Y.dl true x (-1) ≠ Y.dl d y (-1)
  en : Y.dl true x m ≠ Y.dl d y m
def sb (Y : Sys σ) (d : Bool) (x y : σ) : Prop := ¬ cf Y.S (Y.dl true x 0) (bk (Y.dl true x (-1))) (bk (Y.dl d y (-1)))
def se (Y : Sys σ) (d : Bool) (x y : σ) (m : Nat) : Prop := cf Y.S (bk (Y.dl true x (m - 1))) (Y.dl true x m) (Y.dl d y m)
def Tt (D : Dr Y) (d : Bool) (x y : σ) (m : Nat) (k : Int) : Prop := if k < 0 then sb Y d x y else if k < m then D.pos (Y.dl true x k) (Y.dm true x k) < D.pos (Y.dl true x k) (Y.dm d y k) else se Y d x y m
theorem Rn.ne (R : Rn Y d x y m) {k : Int} (h0 : 0 ≤ k) (h1 : k < m) : Y.dm true x k ≠ Y.dm d y k := by
  intro e
  have hz := Sys.dm_mem (d := true) R.hx k
  have e1 : Y.dl true x k = Y.l (Y.dm true x k) := by
    have := Sys.dl_dm (d := true) R.hx k 0
    rw [Int.add_zero] at this
    rw [← this, Sys.l_zero hz]
  cases d with
  | true =>
    have := Sys.dm_inj R.hx R.hy e
    subst this
    exact R.bg rfl
  | false =>
    have e2 : Y.dl false y k = bk (Y.l (Y.dm false y k)) := by
      have := Sys.dl_dm (d := false) R.hy k 0
      rw [Int.add_zero] at this
      rw [← this, Sys.lf_zero (Sys.dm_mem R.hy k)]
    have := R.eq k h0 h1
    rw [e1, e2, e] at this
    exact bk_ne _ this.symm
theorem pos_ne (D : Dr Y) {e e' : L} {u v : σ} (hu : Y.on e u) (hv : Y.on e' v) (h : e ≠ e' ∨ u ≠ v) : D.pos e u ≠ D.pos e' v := by
  by_cases he : e = e'
  · subst he
    exact D.p2 e u v hu hv (h.resolve_left (fun z => z rfl))
  · rcases pos_cmp (D := D) hu hv he with ⟨q, _⟩ | ⟨q, _⟩ <;> omega
theorem lt_iff_not (D : Dr Y) {e : L} {u v : σ} (hu : Y.on e u) (hv : Y.on e v) (h : u ≠ v) : D.pos e v < D.pos e u ↔ ¬ D.pos e u < D.pos e v := by
  have := D.p2 e u v hu hv h
  omega
/-- a chord of the stretch is crossed where the order changes -/
theorem cross_iff (D : Dr Y) (R : Rn Y d x y m) {k : Int} (h0 : -1 ≤ k) (h1 : k ≤ m - 1) : D.crs (Y.ch true x k) (Y.ch d y k) ↔ ¬ (Tt D d x y m k ↔ Tt D d x y m (k + 1)) := by
  have hm := R.hm
  rw [crs_dir R.hx R.hy]
  have ox : ∀ j, Y.on (Y.dl true x j) (Y.dm true x j) := fun j => on_dl R.hx j
  have oy : ∀ j, Y.on (Y.dl d y j) (Y.dm d y j) := fun j => on_dl R.hy j
  have oy' : ∀ j : Int, 0 ≤ j → j < m → Y.on (Y.dl true x j) (Y.dm d y j) := fun j a b => by rw [R.eq j a b]; exact oy j
  have rx : ∀ j, Y.dl true x (j + 1) ≠ bk (Y.dl true x j) := fun j => Sys.dl_red R.hx j
  have ry : ∀ j, Y.dl d y (j + 1) ≠ bk (Y.dl d y j) := fun j => Sys.dl_red R.hy j
  have midT : ∀ j : Int, 0 ≤ j → j < m → (Tt D d x y m j ↔ D.pos (Y.dl true x j) (Y.dm true x j) < D.pos (Y.dl true x j) (Y.dm d y j)) := fun j a b => by
    unfold Tt
    rw [if_neg (by omega), if_pos b]
  have flip : ∀ j : Int, 0 ≤ j → j < m → (D.pos (bk (Y.dl true x j)) (Y.dm true x j) < D.pos (bk (Y.dl true x j)) (Y.dm d y j) ↔ ¬ Tt D d x y m j) := fun j a b => by
    rw [midT j a b, D.p3 _ _ _ (ox j) (oy' j a b) (R.ne a b)]
    exact lt_iff_not D (ox j) (oy' j a b) (R.ne a b)
  by_cases k0 : k = -1
  · subst k0
    have e0 : (-1 : Int) + 1 = 0 := by omega
    rw [e0, X4.swap1, X4.swap2, ← R.eq 0 (by omega) (by omega)]
    have r1 := rx (-1)
    have r2 := ry (-1)
    rw [e0] at r1 r2
    rw [← R.eq 0 (by omega) (by omega)] at r2
    rw [x4_one (ox 0) (oy' 0 (by omega) (by omega)) (on_of_bk (ox (-1))) (on_of_bk (oy (-1))) (R.ne (by omega) (by omega)) r1 r2 (fun z => R.bg (bk_inj z)), ← midT 0 (by omega) (by omega)]
    have e1 : Tt D d x y m (-1) ↔ ¬ cf Y.S (Y.dl true x 0) (bk (Y.dl true x (-1))) (bk (Y.dl d y (-1))) := by unfold Tt; rw [if_pos (by omega)]; exact Iff.rfl
    rw [e1]
    by_cases a : Tt D d x y m 0 <;> by_cases b : cf Y.S (Y.dl true x 0) (bk (Y.dl true x (-1))) (bk (Y.dl d y (-1))) <;> simp [a, b]
  · have k1 : 0 ≤ k := by omega
    have k2 : k < m := by omega
    by_cases k3 : k + 1 < m
    · rw [← R.eq k k1 k2, ← R.eq (k + 1) (by omega) k3,
        x4_two (on_of_bk (ox k)) (on_of_bk (oy' k k1 k2)) (ox (k + 1)) (oy' (k + 1) (by omega) k3) (R.ne k1 k2) (R.ne (by omega) k3) (Ne.symm (rx k)), flip k k1 k2, ← midT (k + 1) (by omega) k3]
      by_cases a : Tt D d x y m k <;> by_cases b : Tt D d x y m (k + 1) <;> simp [a, b]
    · have e : k + 1 = m := by omega
      have e' : k = (m : Int) - 1 := by omega
      have r1 := rx k
      have r2 := ry k
      rw [← R.eq k k1 k2] at r2 ⊢
      rw [e] at r1 r2 ⊢
      rw [x4_one (on_of_bk (ox k)) (on_of_bk (oy' k k1 k2)) (ox m) (oy m) (R.ne k1 k2) (Ne.symm r1) (Ne.symm r2) R.en, flip k k1 k2]
      have e1 : Tt D d x y m m ↔ cf Y.S (bk (Y.dl true x k)) (Y.dl true x m) (Y.dl d y m) := by unfold Tt; rw [if_neg (by omega), if_neg (by omega), e']; exact Iff.rfl
      rw [e1]
      by_cases a : Tt D d x y m k <;> by_cases b : cf Y.S (bk (Y.dl true x k)) (Y.dl true x m) (Y.dl d y m) <;> simp [a, b]
theorem crs_ne (D : Dr Y) {u v : σ} (h : D.crs u v) : u ≠ v := by
  intro e
  subst e
  unfold Dr.crs X4 at h
  omega
theorem crs_symm (D : Dr Y) {u v : σ} (hu : u ∈ Y.ss) (hv : v ∈ Y.ss) (h : D.crs u v) : D.crs v u := by
  have ne := crs_ne D h
  have l1 : ∀ {z : σ}, z ∈ Y.ss → Y.on (bk (Y.l z)) z := fun hz => on_bk hz
  have l2 : ∀ {z : σ}, z ∈ Y.ss → Y.on (Y.l (Y.mv z 1)) (Y.mv z 1) := fun hz => on_l (Y.mem _ hz 1)
  have mne : Y.mv u 1 ≠ Y.mv v 1 := fun z => ne (Sys.mv_inj hu hv z)
  have a : ∀ {z w : σ}, z ∈ Y.ss → w ∈ Y.ss → bk (Y.l z) ≠ Y.l (Y.mv w 1) ∨ z ≠ Y.mv w 1 := fun {z w} hz hw => by
    by_cases e : z = Y.mv w 1
    · left; rw [← e]; exact bk_ne _
    · exact .inr e
  unfold Dr.crs at h ⊢
  refine (X4.symm ?_ ?_ ?_ ?_ ?_ ?_).mp h
  · exact pos_ne D (l1 hu) (l1 hv) (.inr ne)
  · exact pos_ne D (l1 hu) (l2 hv) (a hu hv)
  · exact Ne.symm (pos_ne D (l1 hv) (l2 hu) (a hv hu))
  · exact pos_ne D (l2 hu) (l2 hv) (.inr mne)
  · exact pos_ne D (l1 hu) (l2 hu) (a hu hu)
  · exact pos_ne D (l1 hv) (l2 hv) (a hv hv)

/-! ### where a stretch goes through a pair of chords -/
theorem Rn.share (R : Rn Y d x y m) {k : Int} (h0 : -1 ≤ k) (h1 : k ≤ m - 1) : Y.dl true x k = Y.dl d y k ∨ Y.dl true x (k + 1) = Y.dl d y (k + 1) := by
  have := R.hm
  by_cases h : k = -1
  · right; subst h; exact R.eq _ (by omega) (by omega)
  · left; exact R.eq k (by omega) (by omega)
/-- in terms of the chords -/
theorem share_ch {u v : σ} {k : Int} (hx : x ∈ Y.ss) (hy : y ∈ Y.ss) (h : Y.dl true x k = Y.dl d y k ∨ Y.dl true x (k + 1) = Y.dl d y (k + 1)) (hu : Y.ch true x k = u) (hv : Y.ch d y k = v) :
    if d = true then Y.l u = Y.l v ∨ Y.l (Y.mv u 1) = Y.l (Y.mv v 1) else Y.l u = bk (Y.l (Y.mv v 1)) ∨ Y.l (Y.mv u 1) = bk (Y.l v) := by
  subst hu hv
  have eu : Y.ch true x k = Y.mv x k := rfl
  rw [eu, Y.add x hx]
  cases d with
  | true =>
    have ev : Y.ch true y k = Y.mv y k := rfl
    rw [if_pos rfl, ev, Y.add y hy]
    exact h
  | false =>
    have ev : Y.ch false y k = Y.mv y (-k - 1) := rfl
    rw [if_neg Bool.false_ne_true, ev, Y.add y hy]
    have e1 : -k - 1 + 1 = -k := by omega
    have e2 : -(k + 1) = -k - 1 := by omega
    rw [e1]
    rw [Sys.dl_true, Sys.dl_true, Sys.dl_false, Sys.dl_false, e2] at h
    exact h
theorem share_one {u v : σ} (hu : u ∈ Y.ss) (hv : v ∈ Y.ss) (h1 : Y.l u = Y.l v ∨ Y.l (Y.mv u 1) = Y.l (Y.mv v 1)) (h2 : Y.l u = bk (Y.l (Y.mv v 1)) ∨ Y.l (Y.mv u 1) = bk (Y.l v)) : False := by
  have ru := Y.red u hu
  have rv := Y.red v hv
  rcases h1 with h1 | h1 <;> rcases h2 with h2 | h2
  · rw [h1] at h2; exact rv (by rw [h2, bk_bk])
  · rw [← h1] at h2; exact ru h2
  · rw [← h1] at h2; exact ru (by rw [h2, bk_bk])
  · rw [h1] at h2; exact rv h2
theorem Rn.uniq {d' : Bool} {x' y' : σ} {m' : Nat} (R : Rn Y d x y m) (R' : Rn Y d' x' y' m') {k k' : Int} (h0 : -1 ≤ k) (h1 : k ≤ m - 1) (h0' : -1 ≤ k') (h1' : k' ≤ m' - 1) (e1 : Y.ch true x k = Y.ch true x' k') (e2 : Y.ch d y k = Y.ch d' y' k') :
    d = d' ∧ x = x' ∧ y = y' ∧ m = m' := by
  have ed : d = d' := by
    have s1 := share_ch R.hx R.hy (R.share h0 h1) e1 e2
    have s2 := share_ch R'.hx R'.hy (R'.share h0' h1') rfl rfl
    have m1 := Sys.ch_mem (d := true) R'.hx k'
    have m2 := Sys.ch_mem (d := d') R'.hy k'
    cases d <;> cases d' <;> simp only [if_true, if_false, Bool.false_eq_true] at s1 s2
    · rfl
    · exact (share_one m1 m2 s2 s1).elim
    · exact (share_one m1 m2 s1 s2).elim
    · rfl
  subst ed
  have ex : x' = Y.dm true x (k - k') := by
    apply Sys.ch_inj (d := true) R'.hx (Sys.dm_mem R.hx _) (k := k')
    rw [Sys.ch_dm R.hx, ← e1]; congr 1; omega
  have ey : y' = Y.dm d y (k - k') := by
    apply Sys.ch_inj (d := d) R'.hy (Sys.dm_mem R.hy _) (k := k')
    rw [Sys.ch_dm R.hy, ← e2]; congr 1; omega
  have ax : ∀ j, Y.dl true x' j = Y.dl true x (k - k' + j) := fun j => by rw [ex, Sys.dl_dm R.hx]
  have ay : ∀ j, Y.dl d y' j = Y.dl d y (k - k' + j) := fun j => by rw [ey, Sys.dl_dm R.hy]
  have es : k - k' = 0 := by
    rcases Int.lt_trichotomy (k - k') 0 with h | h | h
    · have q := R'.eq (-(k - k') - 1) (by omega) (by omega)
      rw [ax, ay] at q
      have e3 : k - k' + (-(k - k') - 1) = -1 := by omega
      rw [e3] at q
      exact (R.bg q).elim
    · exact h
    · have q := R.eq (k - k' - 1) (by omega) (by omega)
      have b := R'.bg
      rw [ax, ay] at b
      exact (b q).elim
  rw [es] at ex ey ax ay
  rw [Sys.dm_zero R.hx] at ex
  rw [Sys.dm_zero R.hy] at ey
  subst ex ey
  refine ⟨rfl, rfl, rfl, ?_⟩
  rcases Nat.lt_trichotomy m m' with h | h | h
  · exact (R.en (R'.eq m (by omega) (by omega))).elim
  · exact h
  · exact (R'.en (R.eq m' (by omega) (by omega))).elim
/-! the same stretch from the other strand -/
def du1 (Y : Sys σ) (d : Bool) (y : σ) (m : Nat) : σ := if d then y else Y.mv y (1 - m)
def du2 (Y : Sys σ) (d : Bool) (x : σ) (m : Nat) : σ := if d then x else Y.mv x (m - 1)
theorem Rn.dual (R : Rn Y d x y m) : Rn Y d (du1 Y d y m) (du2 Y d x m) m := by
  have hm := R.hm
  cases d with
  | true => exact ⟨R.hy, R.hx, hm, fun k a b => (R.eq k a b).symm, Ne.symm R.bg, Ne.symm R.en⟩
  | false =>
    have a1 : ∀ k, Y.dl true (du1 Y false y m) k = bk (Y.dl false y (m - 1 - k)) := fun k => by
      show Y.l (Y.mv (Y.mv y (1 - m)) k) = bk (bk (Y.l (Y.mv y (-(m - 1 - k)))))
      rw [Y.add y R.hy, bk_bk]; congr 2; omega
    have a2 : ∀ k, Y.dl false (du2 Y false x m) k = bk (Y.dl true x (m - 1 - k)) := fun k => by
      show bk (Y.l (Y.mv (Y.mv x (m - 1)) (-k))) = bk (Y.l (Y.mv x (m - 1 - k)))
      rw [Y.add x R.hx]; congr 3
    refine ⟨Y.mem _ R.hy _, Y.mem _ R.hx _, hm, fun k a b => ?_, ?_, ?_⟩
    · rw [a1, a2, R.eq _ (by omega) (by omega)]
    · rw [a1, a2, show (m : Int) - 1 - (-1) = m by omega]
      exact fun z => R.en (bk_inj z).symm
    · rw [a1, a2, show (m : Int) - 1 - m = -1 by omega]
      exact fun z => R.bg (bk_inj z).symm
theorem du1_du (R : Rn Y d x y m) : du1 Y d (du2 Y d x m) m = x := by
  cases d with
  | true => rfl
  | false =>
    show Y.mv (Y.mv x (m - 1)) (1 - m) = x
    rw [Y.add x R.hx, show (m : Int) - 1 + (1 - m) = 0 by omega, Y.zero x R.hx]
def dk (d : Bool) (m : Nat) (k : Int) : Int := if d then k else m - 2 - k
theorem dk_rng {k : Int} (h0 : -1 ≤ k) (h1 : k ≤ m - 1) : -1 ≤ dk d m k ∧ dk d m k ≤ m - 1 := by
  unfold dk
  split <;> omega
theorem ch_du1 (R : Rn Y d x y m) (k : Int) : Y.ch true (du1 Y d y m) (dk d m k) = Y.ch d y k := by
  cases d with
  | true => rfl
  | false =>
    show Y.mv (Y.mv y (1 - m)) (m - 2 - k) = Y.mv y (-k - 1)
    rw [Y.add y R.hy]; congr 1; omega
theorem ch_du2 (R : Rn Y d x y m) (k : Int) : Y.ch d (du2 Y d x m) (dk d m k) = Y.ch true x k := by
  cases d with
  | true => rfl
  | false =>
    show Y.mv (Y.mv x (m - 1)) (-(m - 2 - k) - 1) = Y.mv x k
    rw [Y.add x R.hx]; congr 1; omega

/-! ### links -/
inductive Lk (σ : Type) where
  | bes (x y : σ)
  | al (d : Bool) (x y : σ) (m : Nat)
def four (Y : Sys σ) (x y : σ) : Prop := bk (Y.l x) ≠ bk (Y.l y) ∧ bk (Y.l x) ≠ Y.l (Y.mv y 1) ∧ Y.l (Y.mv x 1) ≠ bk (Y.l y) ∧ Y.l (Y.mv x 1) ≠ Y.l (Y.mv y 1)
def isLk (Y : Sys σ) : Lk σ → Prop
  | .bes x y => x ∈ Y.ss ∧ y ∈ Y.ss ∧ Y.lt x y ∧ four Y x y ∧ ¬ (cf Y.S (bk (Y.l x)) (bk (Y.l y)) (Y.l (Y.mv x 1)) ↔ cf Y.S (bk (Y.l x)) (Y.l (Y.mv y 1)) (Y.l (Y.mv x 1)))
  | .al d x y m => Rn Y d x y m ∧ m ≤ Y.rm x y ∧ Y.lt x (du1 Y d y m) ∧ (se Y d x y m ↔ ¬ sb Y d x y)
/-- a link goes through a pair of chords -/
def thru (Y : Sys σ) : Lk σ → σ × σ → Prop
  | .bes x y, p => (x, y) = p
  | .al d x y m, p => ∃ k : Int, -1 ≤ k ∧ k ≤ m - 1 ∧ ((Y.ch true x k, Y.ch d y k) = p ∨ (Y.ch d y k, Y.ch true x k) = p)
theorem bes_cross (D : Dr Y) (hx : x ∈ Y.ss) (hy : y ∈ Y.ss) (h : four Y x y) : D.crs x y ↔ ¬ (cf Y.S (bk (Y.l x)) (bk (Y.l y)) (Y.l (Y.mv x 1)) ↔ cf Y.S (bk (Y.l x)) (Y.l (Y.mv y 1)) (Y.l (Y.mv x 1))) :=
  x4_four (on_bk hx) (on_bk hy) (on_l (Y.mem _ hx 1)) (on_l (Y.mem _ hy 1)) (fun z => Y.red x hx z.symm) h.1 h.2.1 h.2.2.1 h.2.2.2
theorem four_no (h : four Y x y) (hu : Y.l x = Y.l y ∨ Y.l (Y.mv x 1) = Y.l (Y.mv y 1) ∨ Y.l x = bk (Y.l (Y.mv y 1)) ∨ Y.l (Y.mv x 1) = bk (Y.l y)) : False := by
  rcases hu with z | z | z | z
  · exact h.1 (by rw [z])
  · exact h.2.2.2 z
  · exact h.2.1 (by rw [z, bk_bk])
  · exact h.2.2.1 z
theorem four_sym (h : four Y x y) : four Y y x := ⟨Ne.symm h.1, Ne.symm h.2.2.1, Ne.symm h.2.1, Ne.symm h.2.2.2⟩
/-- no pair of chords with four ends lies in a stretch -/
theorem four_run {u v : σ} (R : Rn Y d x y m) {k : Int} (h0 : -1 ≤ k) (h1 : k ≤ m - 1) (hu : Y.ch true x k = u) (hv : Y.ch d y k = v) (h : four Y u v) : False := by
  have s := share_ch R.hx R.hy (R.share h0 h1) hu hv
  cases d with
  | true =>
    rw [if_pos rfl] at s
    rcases s with s | s
    · exact four_no h (.inl s)
    · exact four_no h (.inr (.inl s))
  | false =>
    rw [if_neg Bool.false_ne_true] at s
    rcases s with s | s
    · exact four_no h (.inr (.inr (.inl s)))
    · exact four_no h (.inr (.inr (.inr s)))
theorem told_not (R : Rn Y d x y m) (h : Y.lt x (du1 Y d y m)) (h' : Y.lt (du1 Y d y m) (du1 Y d (du2 Y d x m) m)) : False := by
  rw [du1_du R] at h'
  exact Sys.lt_asymm h h'
theorem thru_uniq {p : σ × σ} : ∀ {a b : Lk σ}, isLk Y a → isLk Y b → thru Y a p → thru Y b p → a = b
  | .bes x y, .bes x' y', _, _, h1, h2 => by
    have e : (x, y) = (x', y') := h1.trans h2.symm
    cases e; rfl
  | .bes x y, .al d x' y' m, ha, hb, h1, ⟨k, k0, k1, h2⟩ => by
    cases (show (x, y) = p from h1)
    rcases h2 with h2 | h2
    · exact (four_run hb.1 k0 k1 (congrArg Prod.fst h2) (congrArg Prod.snd h2) ha.2.2.2.1).elim
    · exact (four_run hb.1 k0 k1 (congrArg Prod.snd h2) (congrArg Prod.fst h2) (four_sym ha.2.2.2.1)).elim
  | .al d x' y' m, .bes x y, hb, ha, ⟨k, k0, k1, h2⟩, h1 => by
    cases (show (x, y) = p from h1)
    rcases h2 with h2 | h2
    · exact (four_run hb.1 k0 k1 (congrArg Prod.fst h2) (congrArg Prod.snd h2) ha.2.2.2.1).elim
    · exact (four_run hb.1 k0 k1 (congrArg Prod.snd h2) (congrArg Prod.fst h2) (four_sym ha.2.2.2.1)).elim
  | .al d x y m, .al d' x' y' m', ha, hb, ⟨k, k0, k1, h1⟩, ⟨k', k0', k1', h2⟩ => by
    have same : Y.ch true x k = Y.ch true x' k' → Y.ch d y k = Y.ch d' y' k' → Lk.al d x y m = Lk.al d' x' y' m' := fun e1 e2 => by
      obtain ⟨rfl, rfl, rfl, rfl⟩ := ha.1.uniq hb.1 k0 k1 k0' k1' e1 e2
      rfl
    have other : Y.ch true x k = Y.ch d' y' k' → Y.ch d y k = Y.ch true x' k' → False := fun e1 e2 => by
      have r := dk_rng (d := d') k0' k1'
      obtain ⟨rfl, rfl, rfl, rfl⟩ := ha.1.uniq hb.1.dual k0 k1 r.1 r.2 (by rw [ch_du1 hb.1]; exact e1) (by rw [ch_du2 hb.1]; exact e2)
      exact told_not hb.1 hb.2.2.1 ha.2.2.1
    rcases h1 with h1 | h1 <;> rcases h2 with h2 | h2
    · exact same (congrArg Prod.fst (h1.trans h2.symm)) (congrArg Prod.snd (h1.trans h2.symm))
    · exact (other (congrArg Prod.fst (h1.trans h2.symm)) (congrArg Prod.snd (h1.trans h2.symm))).elim
    · exact (other (congrArg Prod.snd (h1.trans h2.symm)) (congrArg Prod.fst (h1.trans h2.symm))).elim
    · exact same (congrArg Prod.snd (h1.trans h2.symm)) (congrArg Prod.fst (h1.trans h2.symm))
theorem change {P : Int → Prop} {a : Int} : ∀ n : Nat, ¬ (P a ↔ P (a + n)) → ∃ k : Int, a ≤ k ∧ k < a + n ∧ ¬ (P k ↔ P (k + 1))
  | 0, h => (h (by simp)).elim
  | n + 1, h => by
    by_cases q : P a ↔ P (a + n)
    · refine ⟨a + n, by omega, by omega, fun z => h ?_⟩
      rw [q, z]
      have : a + (n : Int) + 1 = a + ((n + 1 : Nat) : Int) := by omega
      rw [this]
    · obtain ⟨k, h1, h2, h3⟩ := change n q
      exact ⟨k, h1, by omega, h3⟩
theorem link_cross (D : Dr Y) (R : Rn Y d x y m) (h : se Y d x y m ↔ ¬ sb Y d x y) : ∃ k : Int, -1 ≤ k ∧ k ≤ m - 1 ∧ D.crs (Y.ch true x k) (Y.ch d y k) := by
  have e1 : Tt D d x y m (-1) ↔ sb Y d x y := by unfold Tt; rw [if_pos (by omega)]
  have e2 : Tt D d x y m (-1 + ((m + 1 : Nat) : Int)) ↔ se Y d x y m := by unfold Tt; rw [if_neg (by omega), if_neg (by omega)]
  obtain ⟨k, h1, h2, h3⟩ := change (P := Tt D d x y m) (a := -1) (m + 1) (by
    rw [e1, e2, h]
    by_cases z : sb Y d x y <;> simp [z])
  exact ⟨k, h1, by omega, (cross_iff D R h1 (by omega)).mpr h3⟩
/-- every drawing has as many crossings as there are links, or more -/
theorem links_le (D : Dr Y) {Λ : List (Lk σ)} {C : List (σ × σ)} (hn : Λ.Nodup) (hΛ : ∀ a ∈ Λ, isLk Y a) (hC : ∀ u v, u ∈ Y.ss → v ∈ Y.ss → Y.lt u v → D.crs u v → (u, v) ∈ C) : Λ.length ≤ C.length := by
  refine length_le_of_rel (thru Y) Λ C hn (fun a ha => ?_) fun a ha b hb p _ h1 h2 => thru_uniq (hΛ a ha) (hΛ b hb) h1 h2
  have hl := hΛ a ha
  cases a with
  | bes x y => exact ⟨(x, y), hC x y hl.1 hl.2.1 hl.2.2.1 ((bes_cross D hl.1 hl.2.1 hl.2.2.2.1).mpr hl.2.2.2.2), rfl⟩
  | al d x y m =>
    obtain ⟨R, _, _, hs⟩ := hl
    obtain ⟨k, k0, k1, hc⟩ := link_cross D R hs
    have mu := Sys.ch_mem (d := true) R.hx k
    have mv := Sys.ch_mem (d := d) R.hy k
    rcases Y.total _ _ (crs_ne D hc) with h | h
    · exact ⟨_, hC _ _ mu mv h hc, k, k0, k1, .inl rfl⟩
    · exact ⟨_, hC _ _ mv mu h (crs_symm D mu mv hc), k, k0, k1, .inr rfl⟩
end
end RW
/-! The tight drawing: as many crossings as links. -/
namespace RW
section
variable {σ : Type} {Y : Sys σ} {x y : σ} {d : Bool} {m : Nat}
/-! ### the order of strands at a band's small end -/
def met (Y : Sys σ) (p : σ) (j : Int) : L := Y.dl (small (Y.l p)) p j
/-- the letters to look at, the nearest first, ahead before behind -/
def nx (Y : Sys σ) (p : σ) (n : Nat) : L := if n % 2 = 0 then met Y p (n / 2 + 1 : Nat) else met Y p (-((n / 2 + 1 : Nat) : Int))
def cn (Y : Sys σ) (n : Nat) (p q : σ) : Prop := if n % 2 = 0 then cf Y.S (bk (met Y p (n / 2 : Nat))) (nx Y p n) (nx Y q n) else cf Y.S (met Y p (-((n / 2 : Nat) : Int))) (bk (nx Y q n)) (bk (nx Y p n))
def ag (Y : Sys σ) (p q : σ) (n : Nat) : Prop := ∀ i, i < n → nx Y p i = nx Y q i
def tie (Y : Sys σ) (p q : σ) : Prop := (Y.lt p q ∧ small (Y.l p) = true) ∨ (¬ Y.lt p q ∧ small (Y.l q) = false)
def sf (Y : Sys σ) (p q : σ) : Prop := (∃ n, ag Y p q n ∧ cn Y n p q) ∨ ((∀ n, nx Y p n = nx Y q n) ∧ tie Y p q)
/-- strands of one band -/
def band (Y : Sys σ) (p q : σ) : Prop := p ∈ Y.ss ∧ q ∈ Y.ss ∧ met Y p 0 = met Y q 0
theorem met_S {p : σ} (h : p ∈ Y.ss) (j : Int) : met Y p j ∈ Y.S := Sys.dl_S h j
theorem nx_S {p : σ} (h : p ∈ Y.ss) (n : Nat) : nx Y p n ∈ Y.S := by
  unfold nx
  split <;> exact met_S h _
theorem band_symm {p q : σ} (b : band Y p q) : band Y q p := ⟨b.2.1, b.1, b.2.2.symm⟩
theorem band_trans {p q r : σ} (b : band Y p q) (b' : band Y q r) : band Y p r := ⟨b.1, b'.2.1, b.2.2.trans b'.2.2⟩
theorem nx_even (i : Nat) (p : σ) : nx Y p (2 * i) = met Y p (i + 1 : Nat) := by
  unfold nx
  rw [if_pos (by omega)]
  congr 2
  omega
theorem nx_odd (i : Nat) (p : σ) : nx Y p (2 * i + 1) = met Y p (-((i + 1 : Nat) : Int)) := by
  unfold nx
  rw [if_neg (by omega)]
  congr 3
  omega
theorem base_eq {p q : σ} (b : band Y p q) {n : Nat} (h : ag Y p q n) : (n % 2 = 0 → met Y p (n / 2 : Nat) = met Y q (n / 2 : Nat)) ∧ (n % 2 ≠ 0 → met Y p (-((n / 2 : Nat) : Int)) = met Y q (-((n / 2 : Nat) : Int))) := by
  constructor
  · intro e
    by_cases z : n / 2 = 0
    · rw [z]; exact b.2.2
    · have q1 := h (2 * (n / 2 - 1)) (by omega)
      rw [nx_even, nx_even] at q1
      rw [show n / 2 - 1 + 1 = n / 2 by omega] at q1
      exact q1
  · intro e
    by_cases z : n / 2 = 0
    · rw [z]; exact b.2.2
    · have q1 := h (2 * (n / 2 - 1) + 1) (by omega)
      rw [nx_odd, nx_odd] at q1
      rw [show n / 2 - 1 + 1 = n / 2 by omega] at q1
      exact q1
theorem cn_ne {p q : σ} {n : Nat} (h : cn Y n p q) : nx Y p n ≠ nx Y q n := by
  unfold cn at h
  split at h
  · exact cf_ne h
  · intro e
    exact cf_ne h (by rw [e])
theorem cn_anti {p q : σ} {n : Nat} (b : band Y p q) (h : ag Y p q n) (ne : nx Y p n ≠ nx Y q n) : cn Y n q p ↔ ¬ cn Y n p q := by
  have e := base_eq b h
  unfold cn
  split
  · rename_i z
    rw [← e.1 z]
    exact cf_anti (Y.bkS _ (met_S b.1 _)) (nx_S b.1 _) (nx_S b.2.1 _) ne
  · rename_i z
    rw [← e.2 z]
    exact cf_anti (met_S b.1 _) (Y.bkS _ (nx_S b.2.1 _)) (Y.bkS _ (nx_S b.1 _)) (fun w => ne (bk_inj w).symm)
theorem cn_right {p q r : σ} {n : Nat} (h : cn Y n p q) (e : nx Y q n = nx Y r n) : cn Y n p r := by
  unfold cn at h ⊢
  split
  · rename_i z; rw [if_pos z] at h; rw [← e]; exact h
  · rename_i z; rw [if_neg z] at h; rw [← e]; exact h
theorem cn_left {p q r : σ} {n : Nat} (b : band Y p q) (a : ag Y p q n) (h : cn Y n q r) (e : nx Y p n = nx Y q n) : cn Y n p r := by
  have be := base_eq b a
  unfold cn at h ⊢
  split
  · rename_i z; rw [if_pos z] at h; rw [be.1 z, e]; exact h
  · rename_i z; rw [if_neg z] at h; rw [be.2 z, e]; exact h
theorem cn_trans {p q r : σ} {n : Nat} (b : band Y p q) (a : ag Y p q n) (h : cn Y n p q) (h' : cn Y n q r) : cn Y n p r := by
  have be := base_eq b a
  unfold cn at h h' ⊢
  split
  · rename_i z; rw [if_pos z] at h h'; rw [← be.1 z] at h'; exact cf_trans h h'
  · rename_i z; rw [if_neg z] at h h'; rw [← be.2 z] at h'; exact cf_trans h' h
theorem ag_symm {p q : σ} {n : Nat} (h : ag Y p q n) : ag Y q p n := fun i hi => (h i hi).symm
theorem sf_at {p q : σ} {n : Nat} (a : ag Y p q n) (ne : nx Y p n ≠ nx Y q n) : sf Y p q ↔ cn Y n p q := by
  constructor
  · rintro (⟨n', a', c⟩ | ⟨h, _⟩)
    · rcases Nat.lt_trichotomy n n' with h | h | h
      · exact (ne (a' n h)).elim
      · subst h; exact c
      · exact (cn_ne c (a n' h)).elim
    · exact (ne (h n)).elim
  · exact fun c => .inl ⟨n, a, c⟩
theorem sf_par {p q : σ} (h : ∀ n, nx Y p n = nx Y q n) : sf Y p q ↔ tie Y p q := by
  constructor
  · rintro (⟨n, _, c⟩ | ⟨_, t⟩)
    · exact (cn_ne c (h n)).elim
    · exact t
  · exact fun t => .inr ⟨h, t⟩
theorem tie_total {p q : σ} (h : p ≠ q) : tie Y q p ↔ ¬ tie Y p q := by
  unfold tie
  rcases Y.total p q h with t | t
  · have nt := Sys.lt_asymm t
    cases small (Y.l p) <;> simp [t, nt]
  · have nt := Sys.lt_asymm t
    cases small (Y.l q) <;> simp [t, nt]
theorem tie_trans {p q r : σ} (hpq : p ≠ q) (hqr : q ≠ r) (hpr : p ≠ r) (h : tie Y p q) (h' : tie Y q r) : tie Y p r := by
  unfold tie at *
  rcases h with ⟨a, b⟩ | ⟨a, b⟩ <;> rcases h' with ⟨a', b'⟩ | ⟨a', b'⟩
  · exact .inl ⟨Y.trans _ _ _ a a', b⟩
  · by_cases z : Y.lt p r
    · exact .inl ⟨z, b⟩
    · exact .inr ⟨z, b'⟩
  · rw [b] at b'; cases b'
  · by_cases z : Y.lt p r
    · have q1 := (Y.total p q hpq).resolve_left a
      exact (a' (Y.trans _ _ _ q1 z)).elim
    · exact .inr ⟨z, b'⟩
/-- the first place that differs -/
theorem least {P : Nat → Prop} (h : ∃ n, P n) : ∃ n, P n ∧ ∀ i, i < n → ¬ P i := by
  obtain ⟨n, hn⟩ := h
  induction n using Nat.strongRecOn with
  | _ n ih =>
    by_cases q : ∃ i, i < n ∧ P i
    · obtain ⟨i, h1, h2⟩ := q
      exact ih i h1 h2
    · exact ⟨n, hn, fun i hi hp => q ⟨i, hi, hp⟩⟩
theorem first_diff (p q : σ) : (∀ n, nx Y p n = nx Y q n) ∨ ∃ n, ag Y p q n ∧ nx Y p n ≠ nx Y q n := by
  by_cases h : ∀ n, nx Y p n = nx Y q n
  · exact .inl h
  · obtain ⟨n, h⟩ := Classical.not_forall.mp h
    obtain ⟨n, h1, h2⟩ := least (P := fun n => nx Y p n ≠ nx Y q n) ⟨n, h⟩
    exact .inr ⟨n, fun i hi => Classical.not_not.mp (h2 i hi), h1⟩
theorem sf_anti {p q : σ} (b : band Y p q) (h : p ≠ q) : sf Y q p ↔ ¬ sf Y p q := by
  rcases first_diff (Y := Y) p q with e | ⟨n, a, ne⟩
  · rw [sf_par e, sf_par (fun n => (e n).symm), tie_total h]
  · rw [sf_at a ne, sf_at (ag_symm a) (Ne.symm ne), cn_anti b a ne]
theorem sf_trans {p q r : σ} (b : band Y p q) (b' : band Y q r) (hpq : p ≠ q) (hqr : q ≠ r) (hpr : p ≠ r) (h : sf Y p q) (h' : sf Y q r) : sf Y p r := by
  rcases h with ⟨n, a, c⟩ | ⟨e, t⟩ <;> rcases h' with ⟨n', a', c'⟩ | ⟨e', t'⟩
  · rcases Nat.lt_trichotomy n n' with z | z | z
    · exact .inl ⟨n, fun i hi => (a i hi).trans (a' i (by omega)), cn_right c (a' n z)⟩
    · subst z
      exact .inl ⟨n, fun i hi => (a i hi).trans (a' i hi), cn_trans b a c c'⟩
    · exact .inl ⟨n', fun i hi => (a i (by omega)).trans (a' i hi), cn_left b (fun i hi => a i (by omega)) c' (a n' z)⟩
  · exact .inl ⟨n, fun i hi => (a i hi).trans (e' i), cn_right c (e' n)⟩
  · exact .inl ⟨n', fun i hi => (e i).trans (a' i hi), cn_left b (fun i _ => e i) c' (e n')⟩
  · exact .inr ⟨fun n => (e n).trans (e' n), tie_trans hpq hqr hpr t t'⟩

/-! ### along a stretch -/
/-- drawn tight: each row as sf says, from its small end -/
def Tight (D : Dr Y) : Prop := ∀ e p q, small e = true → Y.on e p → Y.on e q → p ≠ q → (D.pos e p < D.pos e q ↔ sf Y p q)
theorem met_x (hx : x ∈ Y.ss) (k j : Int) : met Y (Y.dm true x k) j = if small (Y.dl true x k) then Y.dl true x (k + j) else bk (Y.dl true x (k - j)) := by
  have hz := Sys.dm_mem (d := true) hx k
  have e1 : Y.l (Y.dm true x k) = Y.dl true x k := rfl
  unfold met
  rw [e1]
  cases h : small (Y.dl true x k) with
  | true => rw [if_pos rfl, Sys.dl_dm hx]
  | false =>
    rw [if_neg Bool.false_ne_true]
    have := Sys.dl_flip (Y := Y) (d := true) (x := Y.dm true x k) j
    rw [Bool.not_true] at this
    rw [this, Sys.dl_dm hx]
    congr 2
theorem met_y (hy : y ∈ Y.ss) (k j : Int) : met Y (Y.dm d y k) j = if small (Y.dl d y k) then Y.dl d y (k + j) else bk (Y.dl d y (k - j)) := by
  cases d with
  | true => exact met_x hy k j
  | false =>
    have e1 : Y.l (Y.dm false y k) = bk (Y.dl false y k) := by
      show Y.l (Y.mv y (-k)) = bk (bk (Y.l (Y.mv y (-k))))
      rw [bk_bk]
    unfold met
    rw [e1, small_bk]
    cases h : small (Y.dl false y k) with
    | true => rw [Bool.not_true, if_pos rfl, Sys.dl_dm hy]
    | false =>
      rw [Bool.not_false, if_neg Bool.false_ne_true]
      have := Sys.dl_flip (Y := Y) (d := false) (x := Y.dm false y k) j
      rw [Bool.not_false] at this
      rw [this, Sys.dl_dm hy]
      congr 2
theorem on_y (hy : y ∈ Y.ss) (k : Int) {e : L} (h : e = Y.dl d y k) : Y.on e (Y.dm d y k) := by rw [h]; exact on_dl hy k
/-- the order at the k-th band: the nearer parting's -/
theorem tight_at {D : Dr Y} (ht : Tight D) (R : Rn Y d x y m) {k : Int} (h0 : 0 ≤ k) (h1 : k < m) :
    (2 * k < (m : Int) - 1 → (Tt D d x y m k ↔ sb Y d x y)) ∧ ((m : Int) - 1 < 2 * k → (Tt D d x y m k ↔ se Y d x y m)) ∧ ((Tt D d x y m k ↔ sb Y d x y) ∨ (Tt D d x y m k ↔ se Y d x y m)) := by
  have eA := R.eq k h0 h1
  have ne := R.ne h0 h1
  have T0 : Tt D d x y m k ↔ D.pos (Y.dl true x k) (Y.dm true x k) < D.pos (Y.dl true x k) (Y.dm d y k) := by
    unfold Tt
    rw [if_neg (by omega), if_pos h1]
  have mx := met_x (Y := Y) R.hx k
  have my := met_y (Y := Y) (d := d) R.hy k
  rw [← eA] at my
  obtain ⟨a, ha⟩ : ∃ a : Nat, (a : Int) = m - 1 - k := ⟨(m - 1 - k).toNat, by omega⟩
  obtain ⟨b, hb⟩ : ∃ b : Nat, (b : Int) = k := ⟨k.toNat, by omega⟩
  have eq' : ∀ j : Int, -(b : Int) ≤ j → j ≤ a → Y.dl true x (k + j) = Y.dl d y (k + j) := fun j p q => R.eq _ (by omega) (by omega)
  have A0 : k + -((b : Nat) : Int) = 0 := by omega
  have Am1 : k + -((b + 1 : Nat) : Int) = -1 := by omega
  have Am : k + ((a + 1 : Nat) : Int) = m := by omega
  have Ama : k + ((a : Nat) : Int) = (m : Int) - 1 := by omega
  have sbE : cf Y.S (Y.dl true x 0) (bk (Y.dl d y (-1))) (bk (Y.dl true x (-1))) ↔ sb Y d x y := by
    have e0 := R.eq 0 (by omega) (by have := R.hm; omega)
    exact cf_anti (Sys.dl_S R.hx _) (Y.bkS _ (Sys.dl_S R.hx _)) (Y.bkS _ (Sys.dl_S R.hy _)) (fun z => R.bg (bk_inj z))
  have bd : band Y (Y.dm true x k) (Y.dm d y k) := ⟨Sys.dm_mem R.hx _, Sys.dm_mem R.hy _, by
    rw [mx, my]
    have e0 := eq' 0 (by omega) (by omega)
    split
    · exact e0
    · rw [Int.add_zero] at e0; rw [Int.sub_zero, e0]⟩
  cases hs : small (Y.dl true x k) with
  | true =>
    simp only [hs, if_true] at mx my
    have T1 : Tt D d x y m k ↔ sf Y (Y.dm true x k) (Y.dm d y k) := by
      rw [T0]; exact ht _ _ _ hs (on_dl R.hx k) (on_y R.hy k eA) ne
    by_cases hab : a ≤ b
    · have g : ag Y (Y.dm true x k) (Y.dm d y k) (2 * a) := fun i hi => by
        rcases Nat.mod_two_eq_zero_or_one i with z | z
        · rw [show i = 2 * (i / 2) by omega, nx_even, nx_even, mx, my]; exact eq' _ (by omega) (by omega)
        · rw [show i = 2 * (i / 2) + 1 by omega, nx_odd, nx_odd, mx, my]; exact eq' _ (by omega) (by omega)
      have T2 : Tt D d x y m k ↔ se Y d x y m := by
        rw [T1, sf_at g (by rw [nx_even, nx_even, mx, my, Am]; exact R.en)]
        unfold cn se
        rw [if_pos (by omega), nx_even, nx_even, mx, mx, my, Am, show 2 * a / 2 = a by omega, Ama]
      exact ⟨fun z => (by omega), fun _ => T2, .inr T2⟩
    · have g : ag Y (Y.dm true x k) (Y.dm d y k) (2 * b + 1) := fun i hi => by
        rcases Nat.mod_two_eq_zero_or_one i with z | z
        · rw [show i = 2 * (i / 2) by omega, nx_even, nx_even, mx, my]; exact eq' _ (by omega) (by omega)
        · rw [show i = 2 * (i / 2) + 1 by omega, nx_odd, nx_odd, mx, my]; exact eq' _ (by omega) (by omega)
      have T2 : Tt D d x y m k ↔ sb Y d x y := by
        rw [T1, sf_at g (by rw [nx_odd, nx_odd, mx, my, Am1]; exact R.bg)]
        unfold cn
        rw [if_neg (by omega), nx_odd, nx_odd, mx, mx, my, Am1, show (2 * b + 1) / 2 = b by omega, A0]
        exact sbE
      exact ⟨fun _ => T2, fun z => (by omega), .inl T2⟩
  | false =>
    simp only [hs, if_false, Bool.false_eq_true] at mx my
    have es : small (bk (Y.dl true x k)) = true := by rw [small_bk, hs]; rfl
    have ox := on_of_bk (on_dl (d := true) R.hx k)
    have oy := on_of_bk (on_y (d := d) R.hy k eA)
    have T1 : Tt D d x y m k ↔ sf Y (Y.dm d y k) (Y.dm true x k) := by
      have p3 := D.p3 (bk (Y.dl true x k)) _ _ ox oy ne
      rw [bk_bk] at p3
      rw [T0, p3]
      exact ht _ _ _ es oy ox (Ne.symm ne)
    have sub : ∀ j : Int, k - j = k + -j := fun j => by omega
    have eqb : ∀ j : Int, -(a : Int) ≤ j → j ≤ b → bk (Y.dl d y (k - j)) = bk (Y.dl true x (k - j)) := fun j p q => by rw [sub, eq' _ (by omega) (by omega)]
    by_cases hab : b ≤ a
    · have g : ag Y (Y.dm d y k) (Y.dm true x k) (2 * b) := fun i hi => by
        rcases Nat.mod_two_eq_zero_or_one i with z | z
        · rw [show i = 2 * (i / 2) by omega, nx_even, nx_even, mx, my]; exact eqb _ (by omega) (by omega)
        · rw [show i = 2 * (i / 2) + 1 by omega, nx_odd, nx_odd, mx, my]; exact eqb _ (by omega) (by omega)
      have T2 : Tt D d x y m k ↔ sb Y d x y := by
        rw [T1, sf_at g (by rw [nx_even, nx_even, mx, my, sub, Am1]; exact fun z => R.bg (bk_inj z).symm)]
        unfold cn
        rw [if_pos (by omega), nx_even, nx_even, mx, my, my, sub, sub, Am1, show 2 * b / 2 = b by omega, A0, bk_bk, ← R.eq 0 (by omega) (by have := R.hm; omega)]
        exact sbE
      exact ⟨fun _ => T2, fun z => (by omega), .inl T2⟩
    · have g : ag Y (Y.dm d y k) (Y.dm true x k) (2 * a + 1) := fun i hi => by
        rcases Nat.mod_two_eq_zero_or_one i with z | z
        · rw [show i = 2 * (i / 2) by omega, nx_even, nx_even, mx, my]; exact eqb _ (by omega) (by omega)
        · rw [show i = 2 * (i / 2) + 1 by omega, nx_odd, nx_odd, mx, my]; exact eqb _ (by omega) (by omega)
      have nn : ∀ z : Int, k - -z = k + z := fun z => by omega
      have T2 : Tt D d x y m k ↔ se Y d x y m := by
        rw [T1, sf_at g (by rw [nx_odd, nx_odd, mx, my, nn, Am]; exact fun z => R.en (bk_inj z).symm)]
        unfold cn se
        rw [if_neg (by omega), nx_odd, nx_odd, mx, my, my, nn, nn, Am, show (2 * a + 1) / 2 = a by omega, Ama, bk_bk, bk_bk, ← R.eq ((m : Int) - 1) (by omega) (by omega)]
      exact ⟨fun z => (by omega), fun _ => T2, .inr T2⟩
theorem tight_all {D : Dr Y} (ht : Tight D) (R : Rn Y d x y m) {k : Int} (h0 : -1 ≤ k) (h1 : k ≤ m) :
    (2 * k < (m : Int) - 1 → (Tt D d x y m k ↔ sb Y d x y)) ∧ ((m : Int) - 1 < 2 * k → (Tt D d x y m k ↔ se Y d x y m)) ∧ ((Tt D d x y m k ↔ sb Y d x y) ∨ (Tt D d x y m k ↔ se Y d x y m)) := by
  have hm := R.hm
  by_cases a : k < 0
  · have e1 : Tt D d x y m k ↔ sb Y d x y := by unfold Tt; rw [if_pos a]
    exact ⟨fun _ => e1, fun z => (by omega), .inl e1⟩
  · by_cases b : k < m
    · exact tight_at ht R (by omega) b
    · have e2 : Tt D d x y m k ↔ se Y d x y m := by unfold Tt; rw [if_neg a, if_neg b]
      exact ⟨fun z => (by omega), fun _ => e2, .inr e2⟩
theorem tight_link {D : Dr Y} (ht : Tight D) (R : Rn Y d x y m) {k : Int} (h0 : -1 ≤ k) (h1 : k ≤ m - 1) (h : D.crs (Y.ch true x k) (Y.ch d y k)) : se Y d x y m ↔ ¬ sb Y d x y := by
  have c := (cross_iff D R h0 h1).mp h
  have t1 := (tight_all ht R h0 (by omega)).2.2
  have t2 := (tight_all ht R (k := k + 1) (by omega) (by omega)).2.2
  rcases t1 with t1 | t1 <;> rcases t2 with t2 | t2 <;> rw [t1, t2] at c
  · exact (c Iff.rfl).elim
  · by_cases a : sb Y d x y <;> by_cases b : se Y d x y m <;> simp_all
  · by_cases a : sb Y d x y <;> by_cases b : se Y d x y m <;> simp_all
  · exact (c Iff.rfl).elim
theorem tight_once_lt {D : Dr Y} (ht : Tight D) (R : Rn Y d x y m) {k k' : Int} (h0 : -1 ≤ k) (h1 : k ≤ m - 1) (h0' : -1 ≤ k') (h1' : k' ≤ m - 1) (h : D.crs (Y.ch true x k) (Y.ch d y k)) (h' : D.crs (Y.ch true x k') (Y.ch d y k')) (hlt : k < k') : False := by
  have c := (cross_iff D R h0 h1).mp h
  have c' := (cross_iff D R h0' h1').mp h'
  have a1 := tight_all ht R h0 (by omega)
  have a2 := tight_all ht R (k := k + 1) (by omega) (by omega)
  have b1 := tight_all ht R h0' (by omega)
  have b2 := tight_all ht R (k := k' + 1) (by omega) (by omega)
  have e1 : ¬ 2 * (k + 1) < (m : Int) - 1 := fun z => c ((a1.1 (by omega)).trans (a2.1 z).symm)
  have e2 : ¬ (m : Int) - 1 < 2 * k' := fun z => c' ((b1.2.1 z).trans (b2.2.1 (by omega)).symm)
  have e3 : k' = k + 1 := by omega
  have e4 : 2 * k' = (m : Int) - 1 := by omega
  subst e3
  rw [a1.1 (by omega)] at c
  rw [b2.2.1 (by omega)] at c'
  rcases b1.2.2 with q | q
  · exact c q.symm
  · exact c' q
theorem tight_once {D : Dr Y} (ht : Tight D) (R : Rn Y d x y m) {k k' : Int} (h0 : -1 ≤ k) (h1 : k ≤ m - 1) (h0' : -1 ≤ k') (h1' : k' ≤ m - 1) (h : D.crs (Y.ch true x k) (Y.ch d y k)) (h' : D.crs (Y.ch true x k') (Y.ch d y k')) : k = k' := by
  rcases Int.lt_trichotomy k k' with z | z | z
  · exact (tight_once_lt ht R h0 h1 h0' h1' h h' z).elim
  · exact z
  · exact (tight_once_lt ht R h0' h1' h0 h1 h' h z).elim
/-! ### strands that go alike for ever -/
theorem fw (hx : x ∈ Y.ss) (hy : y ∈ Y.ss) (h : ∀ k : Nat, k < Y.rm x y → Y.dl true x k = Y.dl d y k) : ∀ k : Int, Y.dl true x k = Y.dl d y k := by
  cases d with
  | true => exact Y.fwA x hx y hy h
  | false => exact Y.fwB x hx y hy h
theorem par_tie (hx : x ∈ Y.ss) (hy : y ∈ Y.ss) (h : ∀ k : Int, Y.dl true x k = Y.dl d y k) (ne : Y.ch true x 0 ≠ Y.ch d y 0) (a b : Int) : Y.lt (Y.mv x a) (Y.mv y b) ↔ Y.lt x y := by
  cases d with
  | true => exact Y.parA x hx y hy (fun z => ne (by subst z; rfl)) h a b
  | false => exact Y.parB x hx y hy h a b
theorem par_no {D : Dr Y} (ht : Tight D) (hx : x ∈ Y.ss) (hy : y ∈ Y.ss) (h : ∀ k : Int, Y.dl true x k = Y.dl d y k) (ne : Y.ch true x 0 ≠ Y.ch d y 0) : ¬ D.crs (Y.ch true x 0) (Y.ch d y 0) := by
  have hne : ∀ k : Int, Y.dm true x k ≠ Y.dm d y k := fun k e => by
    cases d with
    | true => exact ne (by rw [Sys.dm_inj hx hy e])
    | false =>
      have e1 := h k
      have e2 : Y.mv x k = Y.mv y (-k) := e
      rw [Sys.dl_true, Sys.dl_false, e2] at e1
      exact bk_ne _ e1.symm
  have T : ∀ k : Int, (D.pos (Y.dl true x k) (Y.dm true x k) < D.pos (Y.dl true x k) (Y.dm d y k)) ↔ (Y.lt x y ∨ d = false) := fun k => by
    have mx := met_x (Y := Y) hx k
    have my := met_y (Y := Y) (d := d) hy k
    rw [← h k] at my
    have ox := on_dl (d := true) hx k
    have oy := on_y (d := d) hy k (h k)
    have lxy : Y.lt (Y.dm true x k) (Y.dm d y k) ↔ Y.lt x y := by
      cases d with
      | true => exact par_tie hx hy h ne k k
      | false => exact par_tie hx hy h ne k (-k)
    have sx : Y.l (Y.dm true x k) = Y.dl true x k := rfl
    have sy : small (Y.l (Y.dm d y k)) = if d then small (Y.dl true x k) else !small (Y.dl true x k) := by
      cases d with
      | true => rw [if_pos rfl, h k]; rfl
      | false =>
        rw [if_neg Bool.false_ne_true, h k]
        show _ = !small (bk (Y.l (Y.mv y (-k))))
        rw [small_bk, Bool.not_not]; rfl
    have lyx : Y.lt (Y.dm d y k) (Y.dm true x k) ↔ ¬ Y.lt x y := by
      rw [← lxy]
      constructor
      · exact fun a b => Sys.lt_asymm a b
      · exact fun a => (Y.total _ _ (hne k)).resolve_left a
    cases hs : small (Y.dl true x k) with
    | true =>
      simp only [hs, if_true] at mx my
      rw [ht _ _ _ hs ox oy (hne k), sf_par (fun n => by
        unfold nx
        split <;> rw [mx, my, h])]
      unfold tie
      rw [lxy, sx, sy, hs]
      by_cases a : Y.lt x y <;> cases d <;> simp [a]
    | false =>
      simp only [hs, if_false, Bool.false_eq_true] at mx my
      have es : small (bk (Y.dl true x k)) = true := by rw [small_bk, hs]; rfl
      have p3 := D.p3 (bk (Y.dl true x k)) _ _ (on_of_bk ox) (on_of_bk oy) (hne k)
      rw [bk_bk] at p3
      rw [p3, ht _ _ _ es (on_of_bk oy) (on_of_bk ox) (Ne.symm (hne k)), sf_par (fun n => by
        unfold nx
        split <;> rw [mx, my, h])]
      unfold tie
      rw [lyx, sx, sy, hs]
      by_cases a : Y.lt x y <;> cases d <;> simp [a]
  rw [crs_dir hx hy, ← h 0, ← h (0 + 1)]
  have ox := on_dl (d := true) hx 0
  have oy := on_y (d := d) hy 0 (h 0)
  rw [x4_two (on_of_bk ox) (on_of_bk oy) (on_dl (d := true) hx (0 + 1)) (on_y (d := d) hy (0 + 1) (h (0 + 1))) (hne 0) (hne (0 + 1)) (Ne.symm (Sys.dl_red hx 0)), T (0 + 1), D.p3 _ _ _ ox oy (hne 0), lt_iff_not D ox oy (hne 0), T 0]
  by_cases z : Y.lt x y ∨ d = false <;> simp [z]
/-- the longest stretch through a pair of chords -/
theorem run_of (hx : x ∈ Y.ss) (hy : y ∈ Y.ss) {j0 : Int} (hj : j0 = 0 ∨ j0 = 1) (h : Y.dl true x j0 = Y.dl d y j0) (hp : ¬ ∀ k : Int, Y.dl true x k = Y.dl d y k) :
    ∃ (x' y' : σ) (m : Nat) (k : Int), Rn Y d x' y' m ∧ m ≤ Y.rm x' y' ∧ -1 ≤ k ∧ k ≤ m - 1 ∧ Y.ch true x' k = Y.ch true x 0 ∧ Y.ch d y' k = Y.ch d y 0 := by
  have shift : ∀ s : Int, (∀ k : Nat, k < Y.rm x y → Y.dl true x (s + k) = Y.dl d y (s + k)) → False := fun s q => hp fun k => by
    have z := fw (d := d) (Sys.dm_mem (d := true) hx s) (Sys.dm_mem (d := d) hy s) (fun k hk => by
      rw [Sys.dl_dm hx, Sys.dl_dm hy]
      refine q k ?_
      cases d with
      | true => rw [← Y.rmv x hx y hy s s]; exact hk
      | false => rw [← Y.rmv x hx y hy s (-s)]; exact hk) (k - s)
    rw [Sys.dl_dm hx, Sys.dl_dm hy, show s + (k - s) = k by omega] at z
    exact z
  obtain ⟨n1, f1, f2⟩ := least (P := fun n : Nat => Y.dl true x (j0 + n) ≠ Y.dl d y (j0 + n)) (by
    refine Classical.byContradiction fun z => shift j0 fun k _ => ?_
    exact Classical.byContradiction fun w => z ⟨k, w⟩)
  obtain ⟨n2, g1, g2⟩ := least (P := fun n : Nat => Y.dl true x (j0 - n) ≠ Y.dl d y (j0 - n)) (by
    refine Classical.byContradiction fun z => shift (j0 - Y.rm x y) fun k hk => ?_
    refine Classical.byContradiction fun w => z ⟨Y.rm x y - k, ?_⟩
    rw [show j0 - ((Y.rm x y - k : Nat) : Int) = j0 - Y.rm x y + k by omega]
    exact w)
  have p1 : n1 ≠ 0 := fun z => by subst z; exact f1 (by simpa using h)
  have p2 : n2 ≠ 0 := fun z => by subst z; exact g1 (by simpa using h)
  have ax : ∀ j : Int, Y.dl true (Y.dm true x (j0 - n2 + 1)) j = Y.dl true x (j0 - n2 + 1 + j) := fun j => Sys.dl_dm hx _ _
  have ay : ∀ j : Int, Y.dl d (Y.dm d y (j0 - n2 + 1)) j = Y.dl d y (j0 - n2 + 1 + j) := fun j => Sys.dl_dm hy _ _
  have mid : ∀ j : Int, j0 - n2 < j → j < j0 + n1 → Y.dl true x j = Y.dl d y j := fun j a b => by
    by_cases z : j0 ≤ j
    · have q := f2 (j - j0).toNat (by omega)
      rw [show j0 + ((j - j0).toNat : Int) = j by omega] at q
      exact Classical.not_not.mp q
    · have q := g2 (j0 - j).toNat (by omega)
      rw [show j0 - ((j0 - j).toNat : Int) = j by omega] at q
      exact Classical.not_not.mp q
  have R : Rn Y d (Y.dm true x (j0 - n2 + 1)) (Y.dm d y (j0 - n2 + 1)) (n1 + n2 - 1) := by
    refine ⟨Sys.dm_mem hx _, Sys.dm_mem hy _, by omega, fun k a b => ?_, ?_, ?_⟩
    · rw [ax, ay]; exact mid _ (by omega) (by omega)
    · rw [ax, ay, show j0 - (n2 : Int) + 1 + -1 = j0 - n2 by omega]; exact g1
    · rw [ax, ay, show j0 - (n2 : Int) + 1 + ((n1 + n2 - 1 : Nat) : Int) = j0 + n1 by omega]; exact f1
  refine ⟨_, _, n1 + n2 - 1, -(j0 - n2 + 1), R, ?_, by omega, by omega, ?_, ?_⟩
  · refine Classical.byContradiction fun z => shift (j0 - n2 + 1) fun k hk => mid _ (by omega) ?_
    have e : Y.rm (Y.dm true x (j0 - n2 + 1)) (Y.dm d y (j0 - n2 + 1)) = Y.rm x y := by
      cases d with
      | true => exact Y.rmv x hx y hy _ _
      | false => exact Y.rmv x hx y hy _ _
    rw [e] at z
    omega
  · rw [Sys.ch_dm hx]; congr 1; omega
  · rw [Sys.ch_dm hy]; congr 1; omega
theorem Rn.ne_dual (R : Rn Y d x y m) : x ≠ du1 Y d y m := by
  intro e
  cases d with
  | true =>
    have e' : x = y := e
    subst e'
    exact R.bg rfl
  | false =>
    have e' : x = Y.mv y (1 - m) := e
    have B : ∀ k : Int, Y.dl false y k = bk (Y.dl true x (m - 1 - k)) := fun k => by
      rw [e']
      show bk (Y.l (Y.mv y (-k))) = bk (Y.l (Y.mv (Y.mv y (1 - m)) (m - 1 - k)))
      rw [Y.add y R.hy]; congr 3; omega
    have hm := R.hm
    rcases Nat.mod_two_eq_zero_or_one m with z | z
    · have q := R.eq ((m : Int) / 2) (by omega) (by omega)
      rw [B, show (m : Int) - 1 - m / 2 = m / 2 - 1 by omega] at q
      have r := Sys.dl_red (d := true) R.hx ((m : Int) / 2 - 1)
      rw [show (m : Int) / 2 - 1 + 1 = m / 2 by omega] at r
      exact r q
    · have q := R.eq ((m : Int) / 2) (by omega) (by omega)
      rw [B, show (m : Int) - 1 - m / 2 = m / 2 by omega] at q
      exact bk_ne _ q.symm
/-- in the tight drawing each crossing lies in a link -/
theorem tight_in {D : Dr Y} (ht : Tight D) {u v : σ} (hu : u ∈ Y.ss) (hv : v ∈ Y.ss) (hl : Y.lt u v) (hc : D.crs u v) : ∃ a, isLk Y a ∧ thru Y a (u, v) := by
  by_cases h4 : four Y u v
  · exact ⟨.bes u v, ⟨hu, hv, hl, h4, (bes_cross D hu hv h4).mp hc⟩, rfl⟩
  · have key : ∀ (d : Bool) (y0 : σ) (j0 : Int), y0 ∈ Y.ss → (j0 = 0 ∨ j0 = 1) → Y.ch d y0 0 = v → Y.dl true u j0 = Y.dl d y0 j0 → ∃ a, isLk Y a ∧ thru Y a (u, v) := fun d y0 j0 hy hj ev e => by
      have eu : Y.ch true u 0 = u := Y.zero u hu
      have ne : Y.ch true u 0 ≠ Y.ch d y0 0 := by rw [eu, ev]; exact crs_ne D hc
      have np : ¬ ∀ k : Int, Y.dl true u k = Y.dl d y0 k := fun z => par_no ht hu hy z ne (by rw [eu, ev]; exact hc)
      obtain ⟨x', y', m, k, R, hr, k0, k1, e1, e2⟩ := run_of hu hy hj e np
      rw [eu] at e1
      rw [ev] at e2
      have hs := tight_link ht R k0 k1 (by rw [e1, e2]; exact hc)
      rcases Y.total _ _ R.ne_dual with t | t
      · exact ⟨.al d x' y' m, ⟨R, hr, t, hs⟩, k, k0, k1, .inl (by rw [e1, e2])⟩
      · have r := dk_rng (d := d) k0 k1
        have c1 := ch_du1 R k
        have c2 := ch_du2 R k
        have hs' := tight_link ht R.dual r.1 r.2 (by rw [c1, c2, e1, e2]; exact crs_symm D hu hv hc)
        have rm' : Y.rm (du1 Y d y' m) (du2 Y d x' m) = Y.rm x' y' := by
          cases d with
          | true => exact Y.rsym _ _
          | false =>
            show Y.rm (Y.mv y' _) (Y.mv x' _) = _
            rw [Y.rmv _ R.hy _ R.hx, Y.rsym]
        refine ⟨.al d (du1 Y d y' m) (du2 Y d x' m) m, ⟨R.dual, by rw [rm']; exact hr, by rw [du1_du R]; exact t, hs'⟩, dk d m k, r.1, r.2, .inr (by rw [c1, c2, e1, e2])⟩
    have v0 : Y.ch true v 0 = v := Y.zero v hv
    have v1 : Y.ch false (Y.mv v 1) 0 = v := by
      show Y.mv (Y.mv v 1) (-0 - 1) = v
      rw [Y.add v hv]; exact Y.zero v hv
    have b0 : Y.dl false (Y.mv v 1) 0 = bk (Y.l (Y.mv v 1)) := Sys.lf_zero (Y.mem _ hv 1)
    have b1 : Y.dl false (Y.mv v 1) 1 = bk (Y.l v) := by
      show bk (Y.l (Y.mv (Y.mv v 1) (-1))) = _
      rw [Y.add v hv, show (1 : Int) + -1 = 0 by omega, Y.zero v hv]
    by_cases c1 : bk (Y.l u) = bk (Y.l v)
    · exact key true v 0 hv (.inl rfl) v0 (by rw [Sys.l_zero hu, Sys.l_zero hv]; exact bk_inj c1)
    · by_cases c2 : bk (Y.l u) = Y.l (Y.mv v 1)
      · exact key false (Y.mv v 1) 0 (Y.mem _ hv 1) (.inl rfl) v1 (by rw [Sys.l_zero hu, b0, ← c2, bk_bk])
      · by_cases c3 : Y.l (Y.mv u 1) = bk (Y.l v)
        · exact key false (Y.mv v 1) 1 (Y.mem _ hv 1) (.inr rfl) v1 (by rw [b1]; exact c3)
        · by_cases c4 : Y.l (Y.mv u 1) = Y.l (Y.mv v 1)
          · exact key true v 1 hv (.inr rfl) v0 c4
          · exact (h4 ⟨c1, c2, c3, c4⟩).elim
/-- each link of the tight drawing has one crossing -/
theorem tight_of {D : Dr Y} (ht : Tight D) {a : Lk σ} (ha : isLk Y a) {p q : σ × σ} (hp : p.1 ∈ Y.ss ∧ p.2 ∈ Y.ss ∧ Y.lt p.1 p.2 ∧ D.crs p.1 p.2) (hq : q.1 ∈ Y.ss ∧ q.2 ∈ Y.ss ∧ Y.lt q.1 q.2 ∧ D.crs q.1 q.2) (h : thru Y a p) (h' : thru Y a q) : p = q := by
  cases a with
  | bes x y => exact (show (x, y) = p from h).symm.trans h'
  | al d x y m =>
    obtain ⟨k, k0, k1, h⟩ := h
    obtain ⟨k', k0', k1', h'⟩ := h'
    have R := ha.1
    have cr : ∀ {p : σ × σ} {k : Int}, p.1 ∈ Y.ss → p.2 ∈ Y.ss → D.crs p.1 p.2 → ((Y.ch true x k, Y.ch d y k) = p ∨ (Y.ch d y k, Y.ch true x k) = p) → D.crs (Y.ch true x k) (Y.ch d y k) := fun {p k} m1 m2 c z => by
      rcases z with z | z
      · rw [← z] at c; exact c
      · rw [← z] at c m1 m2; exact crs_symm D m1 m2 c
    have e := tight_once ht R k0 k1 k0' k1' (cr hp.1 hp.2.1 hp.2.2.2 h) (cr hq.1 hq.2.1 hq.2.2.2 h')
    subst e
    rcases h with h | h <;> rcases h' with h' | h'
    · exact h.symm.trans h'
    · have t1 := hp.2.2.1
      have t2 := hq.2.2.1
      rw [← h] at t1
      rw [← h'] at t2
      exact (Sys.lt_asymm t1 t2).elim
    · have t1 := hp.2.2.1
      have t2 := hq.2.2.1
      rw [← h] at t1
      rw [← h'] at t2
      exact (Sys.lt_asymm t1 t2).elim
    · exact h.symm.trans h'
theorem tight_le {D : Dr Y} (ht : Tight D) {Λ : List (Lk σ)} {C : List (σ × σ)} (hn : C.Nodup) (hΛ : ∀ a, isLk Y a → a ∈ Λ) (hΛ' : ∀ a ∈ Λ, isLk Y a) (hC : ∀ p ∈ C, p.1 ∈ Y.ss ∧ p.2 ∈ Y.ss ∧ Y.lt p.1 p.2 ∧ D.crs p.1 p.2) : C.length ≤ Λ.length := by
  refine length_le_of_rel (fun p a => thru Y a p) C Λ hn (fun p hp => ?_) fun p hp q hq a ha h1 h2 => tight_of ht (hΛ' a ha) (hC p hp) (hC q hq) h1 h2
  have h := hC p hp
  obtain ⟨a, h1, h2⟩ := tight_in ht h.1 h.2.1 h.2.2.1 h.2.2.2
  exact ⟨a, hΛ a h1, h2⟩
end
end RW
/-! Ways as words: strands by their places, drawings by rows. -/
namespace RW
/-! ### words that go round -/
def wa (w : List L) (k : Int) : L := w.getD (k % w.length).toNat 0
abbrev St2 := Nat × Nat
def wy (ws : List (List L)) (i : Nat) : List L := ws.getD i []
def mvs (ws : List (List L)) (x : St2) (k : Int) : St2 := (x.1, ((x.2 + k) % (wy ws x.1).length).toNat)
def lat (ws : List (List L)) (x : St2) (k : Int) : L := wa (wy ws x.1) (x.2 + k)
def sds (ws : List (List L)) : List St2 := (List.range ws.length).flatMap fun i => (List.range (wy ws i).length).map fun p => (i, p)
def lo (c : L) : L := if small c then c else bk c
def thr (ws : List (List L)) (n : Nat) : List St2 := (sds ws).filter fun x => (lo (lat ws x 0)).val == n
def rmo (ws : List (List L)) (x y : St2) : Nat := (wy ws x.1).length + (wy ws y.1).length
def slt (x y : St2) : Prop := x.1 < y.1 ∨ (x.1 = y.1 ∧ x.2 < y.2)
instance (x y) : Decidable (slt x y) := inferInstanceAs (Decidable (_ ∨ _))
theorem mem_sds {ws : List (List L)} {x : St2} : x ∈ sds ws ↔ x.1 < ws.length ∧ x.2 < (wy ws x.1).length := by
  unfold sds
  simp only [List.mem_flatMap, List.mem_range, List.mem_map]
  constructor
  · rintro ⟨i, hi, p, hp, rfl⟩
    exact ⟨hi, hp⟩
  · rintro ⟨h1, h2⟩
    exact ⟨x.1, h1, x.2, h2, rfl⟩
theorem sds_lt (ws : List (List L)) : (sds ws).Pairwise slt := by
  unfold sds
  rw [List.pairwise_flatMap]
  constructor
  · intro i _
    rw [List.pairwise_map]
    exact List.pairwise_lt_range.imp fun h => .inr ⟨rfl, h⟩
  · exact List.pairwise_lt_range.imp fun {i j} h a ha b hb => by
      rw [List.mem_map] at ha hb
      obtain ⟨p, _, rfl⟩ := ha
      obtain ⟨q, _, rfl⟩ := hb
      exact .inl h
theorem slt_irr (x : St2) : ¬ slt x x := by unfold slt; omega
theorem slt_trans (x y z : St2) (h : slt x y) (h' : slt y z) : slt x z := by unfold slt at *; omega
theorem slt_total (x y : St2) (h : x ≠ y) : slt x y ∨ slt y x := by
  unfold slt
  by_cases a : x.1 = y.1
  · have : x.2 ≠ y.2 := fun z => h (Prod.ext a z)
    omega
  · omega
theorem sds_nodup (ws : List (List L)) : (sds ws).Nodup := (sds_lt ws).imp fun {a b} h => by
  intro e
  subst e
  exact slt_irr _ h
theorem idx_cons {α : Type} [BEq α] [LawfulBEq α] [DecidableEq α] (x y : α) (l : List α) : (x :: l).idxOf y = if x = y then 0 else l.idxOf y + 1 := by
  rw [List.idxOf_cons]
  by_cases h : x = y
  · subst h; simp
  · have e : (x == y) = false := by simpa using h
    simp [e, h]
theorem nodup_rev {α : Type} {l : List α} (h : l.Nodup) : l.reverse.Nodup := List.pairwise_reverse.mpr (h.imp fun z => Ne.symm z)
theorem nodup_map {α β : Type} {f : α → β} (hf : ∀ a b, f a = f b → a = b) : ∀ {l : List α}, l.Nodup → (l.map f).Nodup
  | [], _ => List.nodup_nil
  | a :: l, h => by
    have h' := List.nodup_cons.mp h
    rw [List.map_cons, List.nodup_cons]
    refine ⟨fun q => ?_, nodup_map hf h'.2⟩
    obtain ⟨b, hb, e⟩ := List.mem_map.mp q
    rw [hf _ _ e] at hb
    exact h'.1 hb
section
variable {w : List L}
theorem wa_per (hn : 0 < w.length) (k : Int) : wa w (k + w.length) = wa w k := by
  unfold wa
  rw [Int.add_emod_right]
theorem wa_mod (hn : 0 < w.length) (a k : Int) : wa w (((a % w.length).toNat : Int) + k) = wa w (a + k) := by
  have h := Int.emod_nonneg a (show (w.length : Int) ≠ 0 by omega)
  unfold wa
  rw [Int.toNat_of_nonneg h, Int.emod_add_emod]
theorem wa_mem (hn : 0 < w.length) (k : Int) : wa w k ∈ w := by
  have h := Int.emod_nonneg k (show (w.length : Int) ≠ 0 by omega)
  have h2 := Int.emod_lt_of_pos k (show (0 : Int) < w.length by omega)
  unfold wa
  have : (k % w.length).toNat < w.length := by omega
  rw [List.getD_eq_getElem?_getD, List.getElem?_eq_getElem this]
  exact List.getElem_mem _
theorem wa_nat {k : Nat} (h : k < w.length) : wa w k = w[k] := by
  unfold wa
  rw [Int.emod_eq_of_lt (by omega) (by omega)]
  simp [List.getD_eq_getElem?_getD, List.getElem?_eq_getElem h]
end
/-- a way that closes up, no letter beside its back, no word some times -/
structure Way (S w : List L) : Prop where
  ne : 0 < w.length
  inS : ∀ c ∈ w, c ∈ S
  red : ∀ k : Int, wa w (k + 1) ≠ bk (wa w k)
  prim : ∀ s : Int, (∀ k : Int, wa w (k + s) = wa w k) → (w.length : Int) ∣ s
structure Ways (S : List L) (ws : List (List L)) : Prop where
  way : ∀ w ∈ ws, Way S w
  bkS : ∀ c ∈ S, bk c ∈ S
theorem per_mul {f : Int → L} {n : Nat} (h : ∀ k, f (k + n) = f k) (k : Int) : ∀ t : Nat, f (k + t * n) = f k
  | 0 => by simp
  | t + 1 => by
    have e : k + ((t + 1 : Nat) : Int) * n = (k + t * n) + n := by rw [Int.natCast_succ, Int.add_mul, Int.one_mul, Int.add_assoc]
    rw [e, h, per_mul h k t]
/-- two words that go round and agree for as long as both are together agree for ever -/
theorem per_eq {f g : Int → L} {n m : Nat} (hn : 0 < n) (hm : 0 < m) (hf : ∀ k, f (k + n) = f k) (hg : ∀ k, g (k + m) = g k) (h : ∀ k : Nat, k < n + m → f k = g k) (k : Int) : f k = g k := by
  have up : ∀ N : Nat, f N = g N := by
    intro N
    induction N using Nat.strongRecOn with
    | _ N ih =>
      by_cases z : N < n + m
      · exact h N z
      · have a1 := hf (N - n)
        have a2 := hg (N - m)
        have a3 := hf (N - n - m)
        have a4 := hg (N - n - m)
        rw [show (N : Int) - n + n = N by omega] at a1
        rw [show (N : Int) - m + m = N by omega] at a2
        rw [show (N : Int) - n - m + n = N - m by omega] at a3
        rw [show (N : Int) - n - m + m = N - n by omega] at a4
        have b1 := ih (N - n) (by omega)
        have b2 := ih (N - m) (by omega)
        have b3 := ih (N - n - m) (by omega)
        rw [show ((N - n : Nat) : Int) = (N : Int) - n by omega] at b1
        rw [show ((N - m : Nat) : Int) = (N : Int) - m by omega] at b2
        rw [show ((N - n - m : Nat) : Int) = (N : Int) - n - m by omega] at b3
        rw [a1, b1, a4, ← b3, ← a3, b2, ← a2]
  have e1 := per_mul hf k (k.natAbs * m)
  have e2 := per_mul hg k (k.natAbs * n)
  have e3 : k + ((k.natAbs * m : Nat) : Int) * n = k + ((k.natAbs * n : Nat) : Int) * m := by
    rw [Int.natCast_mul, Int.natCast_mul, Int.mul_right_comm]
  have pos : 0 ≤ k + ((k.natAbs * m : Nat) : Int) * n := by
    have : 1 ≤ m * n := Nat.mul_pos hm hn
    have h1 : k.natAbs ≤ k.natAbs * (m * n) := Nat.le_mul_of_pos_right _ this
    have h2 : ((k.natAbs * m : Nat) : Int) * n = ((k.natAbs * (m * n) : Nat) : Int) := by rw [← Nat.mul_assoc]; exact (Int.natCast_mul _ _).symm
    rw [h2]
    omega
  have u := up (k + ((k.natAbs * m : Nat) : Int) * n).toNat
  rw [Int.toNat_of_nonneg pos] at u
  rw [← e1, u, e3, e2]
section
variable {S : List L} {ws : List (List L)}
theorem wy_mem {x : St2} (hx : x ∈ sds ws) : wy ws x.1 ∈ ws := by
  have h := (mem_sds.mp hx).1
  unfold wy
  rw [List.getD_eq_getElem?_getD, List.getElem?_eq_getElem h]
  exact List.getElem_mem _
theorem wy_pos {x : St2} (hx : x ∈ sds ws) : 0 < (wy ws x.1).length := by
  have h := (mem_sds.mp hx).2
  omega
theorem mvs_mem {x : St2} (hx : x ∈ sds ws) (k : Int) : mvs ws x k ∈ sds ws := by
  have hp := wy_pos hx
  have h2 := Int.emod_lt_of_pos (x.2 + k) (show (0 : Int) < (wy ws x.1).length by omega)
  exact mem_sds.mpr ⟨(mem_sds.mp hx).1, by show _ < (wy ws x.1).length; unfold mvs; dsimp only; omega⟩
theorem lat_mv {x : St2} (hx : x ∈ sds ws) (a k : Int) : lat ws (mvs ws x a) k = lat ws x (a + k) := by
  unfold lat mvs
  dsimp only
  rw [wa_mod (wy_pos hx), Int.add_assoc]
theorem mvs_zero {x : St2} (hx : x ∈ sds ws) : mvs ws x 0 = x := by
  have h := (mem_sds.mp hx).2
  unfold mvs
  rw [Int.add_zero, Int.emod_eq_of_lt (by omega) (by omega)]
  simp
theorem mvs_add {x : St2} (hx : x ∈ sds ws) (a b : Int) : mvs ws (mvs ws x a) b = mvs ws x (a + b) := by
  have hp := wy_pos hx
  have h := Int.emod_nonneg (x.2 + a) (show ((wy ws x.1).length : Int) ≠ 0 by omega)
  unfold mvs
  dsimp only
  rw [Int.toNat_of_nonneg h, Int.emod_add_emod, Int.add_assoc]
theorem lat_per {x : St2} (hx : x ∈ sds ws) (k : Int) : lat ws x (k + (wy ws x.1).length) = lat ws x k := by
  unfold lat
  rw [← Int.add_assoc, wa_per (wy_pos hx)]
theorem lat_S (h : Ways S ws) {x : St2} (hx : x ∈ sds ws) (k : Int) : lat ws x k ∈ S := (h.way _ (wy_mem hx)).inS _ (wa_mem (wy_pos hx) _)
theorem lat_red (h : Ways S ws) {x : St2} (hx : x ∈ sds ws) (k : Int) : lat ws x (k + 1) ≠ bk (lat ws x k) := by
  unfold lat
  rw [← Int.add_assoc]
  exact (h.way _ (wy_mem hx)).red _
/-- the strands of ways -/
def sysOf (h : Ways S ws) : Sys St2 where
  ss := sds ws
  mv := mvs ws
  l := fun x => lat ws x 0
  lt := slt
  rm := rmo ws
  S := S
  mem := fun x hx k => mvs_mem hx k
  zero := fun x hx => mvs_zero hx
  add := fun x hx a b => mvs_add hx a b
  red := fun x hx => by rw [lat_mv hx]; exact lat_red h hx 0
  inS := fun x hx => lat_S h hx 0
  bkS := h.bkS
  irr := slt_irr
  trans := slt_trans
  total := slt_total
  rmv := fun x hx y hy a b => rfl
  rsym := fun x y => Nat.add_comm _ _
  fwA := fun x hx y hy q k => by
    rw [lat_mv hx, lat_mv hy, Int.add_zero]
    refine per_eq (f := fun k => lat ws x k) (g := fun k => lat ws y k) (wy_pos hx) (wy_pos hy) (lat_per hx) (lat_per hy) (fun j hj => ?_) k
    have z := q j hj
    rw [lat_mv hx, lat_mv hy, Int.add_zero] at z
    exact z
  fwB := fun x hx y hy q k => by
    rw [lat_mv hx, lat_mv hy, Int.add_zero, Int.add_zero]
    refine per_eq (f := fun k => lat ws x k) (g := fun k => bk (lat ws y (-k))) (wy_pos hx) (wy_pos hy) (lat_per hx) (fun k => ?_) (fun j hj => ?_) k
    · show bk (lat ws y (-(k + (wy ws y.1).length))) = bk (lat ws y (-k))
      rw [← lat_per hy (-(k + _))]; congr 2; omega
    · have z := q j hj
      rw [lat_mv hx, lat_mv hy, Int.add_zero, Int.add_zero] at z
      exact z
  parA := fun x hx y hy ne q a b => by
    have nw : x.1 ≠ y.1 := fun e => by
      have hw := h.way _ (wy_mem hx)
      have e2 : wy ws y.1 = wy ws x.1 := by rw [e]
      have l1 := (mem_sds.mp hx).2
      have l2 := (mem_sds.mp hy).2
      rw [e2] at l2
      obtain ⟨t, ht⟩ := hw.prim ((y.2 : Int) - x.2) fun k => by
        have z := q (k - x.2)
        rw [lat_mv hx, lat_mv hy, Int.add_zero] at z
        unfold lat at z
        rw [e2, show (x.2 : Int) + (k - x.2) = k by omega, show (y.2 : Int) + (k - x.2) = k + (y.2 - x.2) by omega] at z
        exact z.symm
      have t0 : t = 0 := by
        rcases Int.lt_trichotomy t 0 with c | c | c
        · have : ((wy ws x.1).length : Int) * t ≤ ((wy ws x.1).length : Int) * (-1) := Int.mul_le_mul_of_nonneg_left (by omega) (by omega)
          omega
        · exact c
        · have : ((wy ws x.1).length : Int) * 1 ≤ ((wy ws x.1).length : Int) * t := Int.mul_le_mul_of_nonneg_left (by omega) (by omega)
          omega
      subst t0
      exact ne (Prod.ext e (by omega))
    show slt (mvs ws x a) (mvs ws y b) ↔ slt x y
    unfold slt mvs
    dsimp only
    omega
  parB := fun x hx y hy q a b => by
    have nw : x.1 ≠ y.1 := fun e => by
      have hw := h.way _ (wy_mem hx)
      have e2 : wy ws y.1 = wy ws x.1 := by rw [e]
      have z : ∀ j : Int, wa (wy ws x.1) j = bk (wa (wy ws x.1) (x.2 + y.2 - j)) := fun j => by
        have z := q (j - x.2)
        rw [lat_mv hx, lat_mv hy, Int.add_zero, Int.add_zero] at z
        unfold lat at z
        rw [e2, show (x.2 : Int) + (j - x.2) = j by omega, show (y.2 : Int) + -(j - x.2) = x.2 + y.2 - j by omega] at z
        exact z
      rcases Nat.mod_two_eq_zero_or_one (x.2 + y.2) with c | c
      · have r := z (((x.2 + y.2) / 2 : Nat) : Int)
        rw [show (x.2 : Int) + y.2 - ((x.2 + y.2) / 2 : Nat) = ((x.2 + y.2) / 2 : Nat) by omega] at r
        exact bk_ne _ r.symm
      · have r := z ((((x.2 + y.2) / 2 : Nat) : Int) + 1)
        rw [show (x.2 : Int) + y.2 - ((((x.2 + y.2) / 2 : Nat) : Int) + 1) = ((x.2 + y.2) / 2 : Nat) by omega] at r
        exact hw.red _ r
    show slt (mvs ws x a) (mvs ws y b) ↔ slt x y
    unfold slt mvs
    dsimp only
    omega
end

/-! ### drawings by rows -/
def rowE (rows : List (List St2)) (e : L) : List St2 := if small e then rows.getD (lo e).val [] else (rows.getD (lo e).val []).reverse
def pts (S : List L) (rows : List (List St2)) : List (L × St2) := S.flatMap fun e => (rowE rows e).map fun x => (e, x)
def posF (S : List L) (rows : List (List St2)) (e : L) (x : St2) : Nat := (pts S rows).idxOf (e, x)
theorem idx_pair (e : L) (x : St2) : ∀ r : List St2, (r.map fun y => (e, y)).idxOf (e, x) = r.idxOf x
  | [] => rfl
  | y :: r => by
    rw [List.map_cons, idx_cons, idx_cons, idx_pair e x r]
    by_cases h : y = x
    · subst h; simp
    · simp [h]
theorem pos_cons {c : L} {S : List L} {rows : List (List St2)} {e : L} {x : St2} : posF (c :: S) rows e x = if e = c ∧ x ∈ rowE rows c then (rowE rows c).idxOf x else posF S rows e x + (rowE rows c).length := by
  unfold posF pts
  rw [List.flatMap_cons, List.idxOf_append, List.length_map]
  by_cases h : e = c ∧ x ∈ rowE rows c
  · obtain ⟨rfl, hx⟩ := h
    rw [if_pos (List.mem_map.mpr ⟨x, hx, rfl⟩), if_pos ⟨rfl, hx⟩, idx_pair]
  · rw [if_neg h, if_neg]
    intro q
    obtain ⟨y, hy, e1⟩ := List.mem_map.mp q
    cases e1
    exact h ⟨rfl, hy⟩
theorem pos_two {rows : List (List St2)} {e e' : L} {x x' : St2} (hx : x ∈ rowE rows e) (hx' : x' ∈ rowE rows e') (ne : e ≠ e') : ∀ {S : List L}, e ∈ S → e' ∈ S → (posF S rows e x < posF S rows e' x' ↔ S.idxOf e < S.idxOf e')
  | [], h, _ => by simp at h
  | c :: S, h, h' => by
    rw [pos_cons, pos_cons, idx_cons, idx_cons]
    by_cases h1 : c = e
    · subst h1
      have hl := List.idxOf_lt_length_iff.mpr hx
      rw [if_pos ⟨rfl, hx⟩, if_neg (fun q => ne q.1.symm)]
      simp [ne]
      omega
    · by_cases h2 : c = e'
      · subst h2
        have hl := List.idxOf_lt_length_iff.mpr hx'
        rw [if_neg (fun q => h1 q.1.symm), if_pos ⟨rfl, hx'⟩]
        simp [h1]
        omega
      · have m1 : e ∈ S := (List.mem_cons.mp h).resolve_left (Ne.symm h1)
        have m2 : e' ∈ S := (List.mem_cons.mp h').resolve_left (Ne.symm h2)
        have ih := pos_two hx hx' ne m1 m2
        rw [if_neg (fun q => h1 q.1.symm), if_neg (fun q => h2 q.1.symm)]
        simp [h1, h2]
        omega
theorem pos_same {rows : List (List St2)} {e : L} {x y : St2} (hx : x ∈ rowE rows e) (hy : y ∈ rowE rows e) : ∀ {S : List L}, e ∈ S → (posF S rows e x < posF S rows e y ↔ (rowE rows e).idxOf x < (rowE rows e).idxOf y)
  | [], h => by simp at h
  | c :: S, h => by
    rw [pos_cons, pos_cons]
    by_cases h1 : e = c
    · subst h1
      rw [if_pos ⟨rfl, hx⟩, if_pos ⟨rfl, hy⟩]
    · have ih := pos_same hx hy ((List.mem_cons.mp h).resolve_left h1)
      rw [if_neg (fun q => h1 q.1), if_neg (fun q => h1 q.1)]
      omega
theorem idx_rev {x : St2} : ∀ {r : List St2}, r.Nodup → x ∈ r → r.reverse.idxOf x + r.idxOf x + 1 = r.length
  | [], _, h => by simp at h
  | c :: r, hn, h => by
    have hn' := List.nodup_cons.mp hn
    rw [List.reverse_cons, List.idxOf_append, idx_cons c x r, idx_cons c x []]
    by_cases e : c = x
    · subst e
      rw [if_neg (fun q => hn'.1 (List.mem_reverse.mp q))]
      simp
    · have hx : x ∈ r := (List.mem_cons.mp h).resolve_left (Ne.symm e)
      have ih := idx_rev hn'.2 hx
      rw [if_pos (List.mem_reverse.mpr hx)]
      simp [e]
      omega
theorem idx_ne {x y : St2} {r : List St2} (hx : x ∈ r) (h : x ≠ y) : r.idxOf x ≠ r.idxOf y := by
  intro q
  have h1 := List.idxOf_lt_length_iff.mpr hx
  have h2 : r.idxOf y < r.length := by rw [← q]; exact h1
  apply h
  have e1 : r[r.idxOf x] = x := List.getElem_idxOf h1
  have e2 : r[r.idxOf y] = y := List.getElem_idxOf h2
  rw [← e1, ← e2]
  congr 1
/-- the rows have the strands of each band -/
def RowsOk (S : List L) (ws : List (List L)) (rows : List (List St2)) : Prop := ∀ n : Nat, (∃ c ∈ S, (lo c).val = n) → (rows.getD n []).Perm (thr ws n)
section
variable {S : List L} {ws : List (List L)} {rows : List (List St2)}
theorem lo_bk (c : L) : lo (bk c) = lo c := by revert c; decide
theorem lo_two (c e : L) : lo c = lo e ↔ c = e ∨ bk c = e := by revert c e; decide
theorem on_row (h : Ways S ws) (hr : RowsOk S ws rows) {e : L} {x : St2} (hx : (sysOf h).on e x) : e ∈ S ∧ x ∈ rowE rows e := by
  have he : e ∈ S := (on_S hx).2
  refine ⟨he, ?_⟩
  have hp := hr _ ⟨e, he, rfl⟩
  have m : x ∈ thr ws (lo e).val := by
    unfold thr
    rw [List.mem_filter]
    refine ⟨hx.1, ?_⟩
    have z : lo (lat ws x 0) = lo e := (lo_two _ _).mpr hx.2
    rw [z]; simp
  have m2 := hp.mem_iff.mpr m
  unfold rowE
  split
  · exact m2
  · exact List.mem_reverse.mpr m2
theorem row_nodup (hr : RowsOk S ws rows) {e : L} (he : e ∈ S) : (rowE rows e).Nodup := by
  have hp := hr _ ⟨e, he, rfl⟩
  have hn : (rows.getD (lo e).val []).Nodup := hp.nodup_iff.mpr ((sds_nodup ws).filter _)
  unfold rowE
  split
  · exact hn
  · exact nodup_rev hn
theorem rowE_bk (e : L) : rowE rows (bk e) = (rowE rows e).reverse := by
  unfold rowE
  rw [lo_bk, small_bk]
  cases small e <;> simp
def drOf (h : Ways S ws) (hr : RowsOk S ws rows) : Dr (sysOf h) where
  pos := posF S rows
  p1 := fun e e' x x' hx hx' ne => pos_two (on_row h hr hx).2 (on_row h hr hx').2 ne (on_row h hr hx).1 (on_row h hr hx').1
  p2 := fun e x y hx hy ne q => by
    have a := pos_same (on_row h hr hx).2 (on_row h hr hy).2 (on_row h hr hx).1
    have b := pos_same (on_row h hr hy).2 (on_row h hr hx).2 (on_row h hr hx).1
    have c := idx_ne (on_row h hr hx).2 ne
    omega
  p3 := fun e x y hx hy ne => by
    have ox := on_row h hr hx
    have oy := on_row h hr hy
    have bx : x ∈ rowE rows (bk e) := by rw [rowE_bk]; exact List.mem_reverse.mpr ox.2
    have by' : y ∈ rowE rows (bk e) := by rw [rowE_bk]; exact List.mem_reverse.mpr oy.2
    rw [pos_same bx by' (h.bkS _ ox.1), pos_same oy.2 ox.2 ox.1, rowE_bk]
    have i1 := idx_rev (row_nodup hr ox.1) ox.2
    have i2 := idx_rev (row_nodup hr ox.1) oy.2
    omega
/-- the chords of two strands cross -/
def crF (S : List L) (ws : List (List L)) (rows : List (List St2)) (u v : St2) : Prop :=
  X4 (posF S rows (bk (lat ws u 0)) u) (posF S rows (lat ws u 1) (mvs ws u 1)) (posF S rows (bk (lat ws v 0)) v) (posF S rows (lat ws v 1) (mvs ws v 1))
instance (S ws rows u v) : Decidable (crF S ws rows u v) := inferInstanceAs (Decidable (X4 _ _ _ _))
theorem crF_iff (h : Ways S ws) (hr : RowsOk S ws rows) {u v : St2} (hu : u ∈ sds ws) (hv : v ∈ sds ws) : crF S ws rows u v ↔ (drOf h hr).crs u v := by
  unfold crF Dr.crs
  have e1 : ∀ {z : St2}, z ∈ sds ws → (sysOf h).l ((sysOf h).mv z 1) = lat ws z 1 := fun {z} hz => by
    show lat ws (mvs ws z 1) 0 = _
    rw [lat_mv hz, Int.add_zero]
  rw [e1 hu, e1 hv]
  exact Iff.rfl
/-- pairs, the earlier first -/
def prs : List St2 → List (St2 × St2)
  | [] => []
  | x :: r => r.map (fun y => (x, y)) ++ prs r
theorem mem_prs {p : St2 × St2} : ∀ {l : List St2}, l.Pairwise slt → (p ∈ prs l ↔ p.1 ∈ l ∧ p.2 ∈ l ∧ slt p.1 p.2)
  | [], _ => by simp [prs]
  | x :: r, h => by
    have h' := List.pairwise_cons.mp h
    unfold prs
    rw [List.mem_append, mem_prs h'.2, List.mem_map]
    constructor
    · rintro (⟨y, hy, rfl⟩ | ⟨a, b, c⟩)
      · exact ⟨List.mem_cons_self, List.mem_cons_of_mem _ hy, h'.1 y hy⟩
      · exact ⟨List.mem_cons_of_mem _ a, List.mem_cons_of_mem _ b, c⟩
    · rintro ⟨a, b, c⟩
      rcases List.mem_cons.mp a with a | a <;> rcases List.mem_cons.mp b with b | b
      · rw [a, b] at c; exact (slt_irr _ c).elim
      · exact .inl ⟨p.2, b, by rw [← a]⟩
      · rw [b] at c; exact (slt_irr _ (slt_trans _ _ _ c (h'.1 _ a))).elim
      · exact .inr ⟨a, b, c⟩
theorem prs_nodup : ∀ {l : List St2}, l.Nodup → (prs l).Nodup
  | [], _ => by simp [prs]
  | x :: r, h => by
    have h' := List.nodup_cons.mp h
    unfold prs
    rw [List.nodup_append]
    refine ⟨?_, prs_nodup h'.2, ?_⟩
    · exact nodup_map (fun a b e => (Prod.mk.inj e).2) h'.2
    · intro a ha b hb e
      subst e
      obtain ⟨y, _, rfl⟩ := List.mem_map.mp ha
      have : ∀ {l : List St2} {p : St2 × St2}, p ∈ prs l → p.1 ∈ l := fun {l p} => by
        induction l with
        | nil => intro q; simp [prs] at q
        | cons z l ih =>
          intro q
          unfold prs at q
          rcases List.mem_append.mp q with q | q
          · obtain ⟨_, _, rfl⟩ := List.mem_map.mp q; exact List.mem_cons_self
          · exact List.mem_cons_of_mem _ (ih q)
      exact h'.1 (this hb)
def crl (S : List L) (ws : List (List L)) (rows : List (List St2)) : List (St2 × St2) := (prs (sds ws)).filter fun p => decide (crF S ws rows p.1 p.2)
theorem mem_crl (h : Ways S ws) (hr : RowsOk S ws rows) {p : St2 × St2} : p ∈ crl S ws rows ↔ p.1 ∈ sds ws ∧ p.2 ∈ sds ws ∧ slt p.1 p.2 ∧ (drOf h hr).crs p.1 p.2 := by
  unfold crl
  rw [List.mem_filter, mem_prs (sds_lt ws)]
  constructor
  · rintro ⟨⟨a, b, c⟩, d⟩
    exact ⟨a, b, c, (crF_iff h hr a b).mp (of_decide_eq_true d)⟩
  · rintro ⟨a, b, c, d⟩
    exact ⟨⟨a, b, c⟩, decide_eq_true ((crF_iff h hr a b).mpr d)⟩
theorem crl_nodup : (crl S ws rows).Nodup := (prs_nodup (sds_nodup ws)).filter _
/-- THE LAW's first half: no drawing has fewer crossings than there are links -/
theorem links_le_crl (h : Ways S ws) (hr : RowsOk S ws rows) {Λ : List (Lk St2)} (hn : Λ.Nodup) (hΛ : ∀ a, a ∈ Λ ↔ isLk (sysOf h) a) : Λ.length ≤ (crl S ws rows).length :=
  links_le (drOf h hr) hn (fun a ha => (hΛ a).mp ha) fun u v hu hv hl hc => (mem_crl h hr).mpr ⟨hu, hv, hl, hc⟩
end

/-! ### rows put in order -/
section
variable {ct : St2 → St2 → Bool}
/-- put in ahead of the first one that it doesn't come behind -/
def ins (ct : St2 → St2 → Bool) (x : St2) (r : List St2) : List St2 := r.takeWhile (fun y => ct y x) ++ x :: r.dropWhile fun y => ct y x
def ord (ct : St2 → St2 → Bool) (xs : List St2) : List St2 := xs.foldl (fun r x => ins ct x r) []
theorem ins_perm (x : St2) (r : List St2) : (ins ct x r).Perm (x :: r) := by
  unfold ins
  refine List.perm_middle.trans ?_
  rw [List.takeWhile_append_dropWhile]
theorem ord_perm (xs : List St2) : (ord ct xs).Perm xs := by
  have : ∀ (xs r : List St2), (xs.foldl (fun r x => ins ct x r) r).Perm (xs ++ r) := by
    intro xs
    induction xs with
    | nil => intro r; exact List.Perm.refl _
    | cons x xs ih =>
      intro r
      refine (ih (ins ct x r)).trans ?_
      refine (List.Perm.append_left xs (ins_perm x r)).trans ?_
      exact List.perm_middle
  have h := this xs []
  rw [List.append_nil] at h
  exact h
theorem ins_sorted {x : St2} {r : List St2} (hs : r.Pairwise fun a b => ct a b = true) (ha : ∀ y ∈ r, ct y x = false → ct x y = true) (ht : ∀ a ∈ r, ∀ b ∈ r, ct x a = true → ct a b = true → ct x b = true) : (ins ct x r).Pairwise fun a b => ct a b = true := by
  unfold ins
  have sub := List.takeWhile_append_dropWhile (p := fun y => ct y x) (l := r)
  rw [← sub] at hs
  rw [List.pairwise_append] at hs ⊢
  refine ⟨hs.1, List.pairwise_cons.mpr ⟨?_, hs.2.1⟩, ?_⟩
  · intro b hb
    have hb' : b ∈ r := (List.dropWhile_sublist _).subset hb
    cases hd : r.dropWhile (fun y => ct y x) with
    | nil => rw [hd] at hb; simp at hb
    | cons c t =>
      rw [hd] at hb
      have hc : ct c x = false := by
        have := List.head_dropWhile_not (fun y => ct y x) (by rw [hd]; simp : r.dropWhile (fun y => ct y x) ≠ [])
        simpa [hd] using this
      have hc' : c ∈ r := (List.dropWhile_sublist _).subset (by rw [hd]; exact List.mem_cons_self)
      have h1 := ha c hc' hc
      rcases List.mem_cons.mp hb with e | e
      · rw [e]; exact h1
      · have h2 := hs.2.1
        rw [hd] at h2
        exact ht c hc' b hb' h1 ((List.pairwise_cons.mp h2).1 b e)
  · intro a hA b hb
    rcases List.mem_cons.mp hb with e | e
    · subst e
      have : ∀ (l : List St2), a ∈ l.takeWhile (fun y => ct y b) → ct a b = true := by
        intro l
        induction l with
        | nil => intro q; simp at q
        | cons c l ih =>
          intro q
          rw [List.takeWhile_cons] at q
          split at q
          · rename_i hc
            rcases List.mem_cons.mp q with q | q
            · rw [q]; exact hc
            · exact ih q
          · simp at q
      exact this _ hA
    · exact hs.2.2 a hA b e
theorem ord_sorted {xs : List St2} (hn : xs.Nodup) (ha : ∀ x ∈ xs, ∀ y ∈ xs, x ≠ y → ct y x = false → ct x y = true) (ht : ∀ a ∈ xs, ∀ b ∈ xs, ∀ c ∈ xs, a ≠ b → b ≠ c → a ≠ c → ct a b = true → ct b c = true → ct a c = true) : (ord ct xs).Pairwise fun a b => ct a b = true := by
  have : ∀ (ys r : List St2), (∀ y ∈ ys ++ r, y ∈ xs) → (ys ++ r).Nodup → (r.Pairwise fun a b => ct a b = true) → (ys.foldl (fun r x => ins ct x r) r).Pairwise fun a b => ct a b = true := by
    intro ys
    induction ys with
    | nil => intro r _ _ h; exact h
    | cons y ys ih =>
      intro r hm hd h
      have p := ins_perm (ct := ct) y r
      have p2 : (ys ++ ins ct y r).Perm (y :: ys ++ r) := (List.Perm.append_left ys p).trans List.perm_middle
      have hd' := List.nodup_cons.mp hd
      have nin : ∀ z ∈ r, y ≠ z := fun z hz e => hd'.1 (by rw [e]; exact List.mem_append_right _ hz)
      have inr : ∀ z ∈ r, z ∈ xs := fun z hz => hm z (List.mem_cons_of_mem _ (List.mem_append_right _ hz))
      have iny : y ∈ xs := hm y List.mem_cons_self
      refine ih _ (fun z hz => hm z (p2.mem_iff.mp hz)) (p2.nodup_iff.mpr hd) (ins_sorted h (fun z hz q => ha y iny z (inr z hz) (nin z hz) q) fun a hA b hB q1 q2 => ?_)
      by_cases e : a = b
      · subst e; exact q1
      · exact ht y iny a (inr a hA) b (inr b hB) (nin a hA) e (nin b hB) q1 q2
  exact this xs [] (by simpa using fun y h => h) (by simpa using hn) List.Pairwise.nil
/-- sorted, and no two both ways: the order is the places' -/
theorem sorted_idx {r : List St2} (hs : r.Pairwise fun a b => ct a b = true) (hA : ∀ a ∈ r, ∀ b ∈ r, a ≠ b → ct a b = true → ct b a = false) {x y : St2} (hx : x ∈ r) (hy : y ∈ r) (h : x ≠ y) : r.idxOf x < r.idxOf y ↔ ct x y = true := by
  have fw' : ∀ {x y : St2}, x ∈ r → y ∈ r → r.idxOf x < r.idxOf y → ct x y = true := fun {x y} hx hy q => by
    have h1 := List.idxOf_lt_length_iff.mpr hx
    have h2 := List.idxOf_lt_length_iff.mpr hy
    have z := List.pairwise_iff_getElem.mp hs _ _ h1 h2 q
    rw [List.getElem_idxOf h1, List.getElem_idxOf h2] at z
    exact z
  constructor
  · exact fw' hx hy
  · intro q
    rcases Nat.lt_trichotomy (r.idxOf x) (r.idxOf y) with z | z | z
    · exact z
    · exact (idx_ne hx h z).elim
    · have w := fw' hy hx z
      rw [hA x hx y hy h q] at w
      cases w
end
section
variable {S : List L} {ws : List (List L)}
noncomputable def sfB (h : Ways S ws) (x y : St2) : Bool := @decide (sf (sysOf h) x y) (Classical.propDecidable _)
theorem sfB_iff {h : Ways S ws} {x y : St2} : sfB h x y = true ↔ sf (sysOf h) x y := ⟨fun q => @of_decide_eq_true _ (Classical.propDecidable _) q, fun q => @decide_eq_true _ (Classical.propDecidable _) q⟩
noncomputable def tightR (h : Ways S ws) (n : Nat) : List (List St2) := (List.range n).map fun i => ord (sfB h) (thr ws i)
theorem mem_thr {n : Nat} {x : St2} : x ∈ thr ws n ↔ x ∈ sds ws ∧ (lo (lat ws x 0)).val = n := by
  unfold thr
  rw [List.mem_filter]
  simp
theorem met_lo (h : Ways S ws) {x : St2} (hx : x ∈ sds ws) : met (sysOf h) x 0 = lo (lat ws x 0) := by
  have e : (sysOf h).l x = lat ws x 0 := rfl
  unfold met lo
  rw [e]
  cases small (lat ws x 0) with
  | true => exact Sys.l_zero (Y := sysOf h) hx
  | false => exact Sys.lf_zero (Y := sysOf h) hx
theorem thr_band (h : Ways S ws) {n : Nat} {x y : St2} (hx : x ∈ thr ws n) (hy : y ∈ thr ws n) : band (sysOf h) x y := by
  have a := mem_thr.mp hx
  have b := mem_thr.mp hy
  refine ⟨a.1, b.1, ?_⟩
  rw [met_lo h a.1, met_lo h b.1]
  exact Fin.ext (a.2.trans b.2.symm)
theorem tight_ok (h : Ways S ws) {n : Nat} (hS : ∀ c ∈ S, (lo c).val < n) : RowsOk S ws (tightR h n) := fun i hi => by
  obtain ⟨c, hc, rfl⟩ := hi
  have := hS c hc
  unfold tightR
  rw [List.getD_eq_getElem?_getD, List.getElem?_map, List.getElem?_range this]
  exact ord_perm _
theorem sfB_anti (h : Ways S ws) {n : Nat} {x y : St2} (hx : x ∈ thr ws n) (hy : y ∈ thr ws n) (ne : x ≠ y) : sfB h y x = !sfB h x y := by
  have := sf_anti (thr_band h hx hy) ne
  unfold sfB
  by_cases z : sf (sysOf h) x y
  · simp [z, this]
  · simp [z, this]
theorem tight_is (h : Ways S ws) {n : Nat} (hS : ∀ c ∈ S, (lo c).val < n) : Tight (drOf h (tight_ok h hS)) := by
  intro e p q he hp hq ne
  have op := on_row h (tight_ok h hS) hp
  have oq := on_row h (tight_ok h hS) hq
  have hl := hS e op.1
  have er : rowE (tightR h n) e = ord (sfB h) (thr ws (lo e).val) := by
    unfold rowE tightR
    rw [if_pos he, List.getD_eq_getElem?_getD, List.getElem?_map, List.getElem?_range hl]
    rfl
  have mp : ∀ z, z ∈ ord (sfB h) (thr ws (lo e).val) ↔ z ∈ thr ws (lo e).val := fun z => (ord_perm _).mem_iff
  have key := sorted_idx (ct := sfB h) (r := ord (sfB h) (thr ws (lo e).val))
    (ord_sorted ((sds_nodup ws).filter _) (fun x hx y hy ne q => by rw [sfB_anti h hy hx (Ne.symm ne), q]; rfl) fun a ha b hb c hc n1 n2 n3 q1 q2 => by
      rw [sfB_iff] at q1 q2 ⊢
      exact sf_trans (thr_band h ha hb) (thr_band h hb hc) n1 n2 n3 q1 q2)
    (fun a ha b hb n1 q => by rw [sfB_anti h ((mp a).mp ha) ((mp b).mp hb) n1, q]; rfl)
    (by rw [← er]; exact op.2) (by rw [← er]; exact oq.2) ne
  show posF S (tightR h n) e p < posF S (tightR h n) e q ↔ _
  rw [pos_same op.2 oq.2 op.1, er, key]
  exact sfB_iff
/-- THE LAW's other half: the tight drawing has no more -/
theorem crl_tight (h : Ways S ws) {n : Nat} (hS : ∀ c ∈ S, (lo c).val < n) {Λ : List (Lk St2)} (hn : Λ.Nodup) (hΛ : ∀ a, a ∈ Λ ↔ isLk (sysOf h) a) : (crl S ws (tightR h n)).length = Λ.length := by
  refine Nat.le_antisymm ?_ (links_le_crl h (tight_ok h hS) hn hΛ)
  exact tight_le (tight_is h hS) crl_nodup (fun a => (hΛ a).mpr) (fun a ha => (hΛ a).mp ha) fun p hp => (mem_crl h (tight_ok h hS)).mp hp
end
end RW
/-! What a link is, told by letters; how far two words go alike. -/
namespace RW
/-- for how many numbers from 0 on, of the first r, a test holds -/
def rn (f : Nat → Bool) (r : Nat) : Nat := ((List.range r).takeWhile f).length
theorem takeWhile_range (f : Nat → Bool) : ∀ (r s : Nat), (∀ k, k < ((List.range' s r).takeWhile f).length → f (s + k) = true) ∧ ((List.range' s r).takeWhile f).length ≤ r ∧ (((List.range' s r).takeWhile f).length < r → f (s + ((List.range' s r).takeWhile f).length) = false)
  | 0, s => by simp
  | r + 1, s => by
    have ih := takeWhile_range f r (s + 1)
    rw [List.range'_succ, List.takeWhile_cons]
    cases h : f s with
    | false => simp [h]
    | true =>
      rw [if_pos rfl, List.length_cons]
      refine ⟨fun k hk => ?_, by omega, fun hl => ?_⟩
      · cases k with
        | zero => exact h
        | succ k =>
          have := ih.1 k (by omega)
          rw [show s + 1 + k = s + (k + 1) by omega] at this
          exact this
      · have := ih.2.2 (by omega)
        rw [show ∀ z, s + 1 + z = s + (z + 1) by intro z; omega] at this
        exact this
theorem rn_spec (f : Nat → Bool) (r : Nat) : (∀ k, k < rn f r → f k = true) ∧ rn f r ≤ r ∧ (rn f r < r → f (rn f r) = false) := by
  have h := takeWhile_range f r 0
  simp only [Nat.zero_add] at h
  rw [← List.range_eq_range'] at h
  exact h
theorem rn_eq {f : Nat → Bool} {r m : Nat} (h1 : m ≤ r) (h2 : ∀ k, k < m → f k = true) (h3 : m < r → f m = false) : rn f r = m := by
  obtain ⟨a, b, c⟩ := rn_spec f r
  rcases Nat.lt_trichotomy (rn f r) m with h | h | h
  · have := c (by omega)
    rw [h2 _ h] at this
    cases this
  · exact h
  · have := h3 (by omega)
    rw [a _ h] at this
    cases this
section
variable {S : List L} {ws : List (List L)} (h : Ways S ws) {x y : St2} {m : Nat}
theorem dlT (hx : x ∈ sds ws) (k : Int) : (sysOf h).dl true x k = lat ws x k := by
  show lat ws (mvs ws x k) 0 = _
  rw [lat_mv hx, Int.add_zero]
theorem dlF (hy : y ∈ sds ws) (k : Int) : (sysOf h).dl false y k = bk (lat ws y (-k)) := by
  show bk (lat ws (mvs ws y (-k)) 0) = _
  rw [lat_mv hy, Int.add_zero]
/-- strands along one another -/
def alT (S : List L) (ws : List (List L)) (x y : St2) (m : Nat) : Prop := slt x y ∧ m ≤ rmo ws x y ∧ (∀ k : Nat, k < m → lat ws x k = lat ws y k) ∧ lat ws x (-1) ≠ lat ws y (-1) ∧ lat ws x m ≠ lat ws y m ∧
  (cf S (bk (lat ws x (m - 1))) (lat ws x m) (lat ws y m) ↔ cf S (lat ws x 0) (bk (lat ws x (-1))) (bk (lat ws y (-1))))
def alF (S : List L) (ws : List (List L)) (x y : St2) (m : Nat) : Prop := m ≤ rmo ws x y ∧ slt x (mvs ws y (1 - m)) ∧ (∀ k : Nat, k < m → lat ws x k = bk (lat ws y (-k))) ∧ lat ws x (-1) ≠ bk (lat ws y 1) ∧ lat ws x m ≠ bk (lat ws y (-m)) ∧
  (cf S (bk (lat ws x (m - 1))) (lat ws x m) (bk (lat ws y (-m))) ↔ cf S (lat ws x 0) (bk (lat ws x (-1))) (lat ws y 1))
def beS (S : List L) (ws : List (List L)) (x y : St2) : Prop := slt x y ∧ (bk (lat ws x 0) ≠ bk (lat ws y 0) ∧ bk (lat ws x 0) ≠ lat ws y 1 ∧ lat ws x 1 ≠ bk (lat ws y 0) ∧ lat ws x 1 ≠ lat ws y 1) ∧
  ¬ (cf S (bk (lat ws x 0)) (bk (lat ws y 0)) (lat ws x 1) ↔ cf S (bk (lat ws x 0)) (lat ws y 1) (lat ws x 1))
theorem alT_iff (hx : x ∈ sds ws) (hy : y ∈ sds ws) : isLk (sysOf h) (.al true x y m) ↔ 0 < m ∧ alT S ws x y m := by
  have X := dlT h hx
  have Y := dlT h hy
  have e : ∀ a b : Prop, (a ↔ ¬ ¬ b) ↔ (a ↔ b) := fun a b => by rw [Classical.not_not]
  constructor
  · rintro ⟨R, r, t, s⟩
    have eq := R.eq; have bg := R.bg; have en := R.en
    unfold se sb at s
    rw [e] at s
    simp only [X, Y] at eq bg en s
    exact ⟨R.hm, t, r, fun k hk => eq k (by omega) (by omega), bg, en, s⟩
  · rintro ⟨hm, t, r, eq, bg, en, s⟩
    refine ⟨⟨hx, hy, hm, fun k a b => ?_, by rw [X, Y]; exact bg, by rw [X, Y]; exact en⟩, r, t, ?_⟩
    · rw [X, Y]
      have := eq k.toNat (by omega)
      rw [Int.toNat_of_nonneg a] at this
      exact this
    · unfold se sb
      rw [e]
      simp only [X, Y]
      exact s
theorem alF_iff (hx : x ∈ sds ws) (hy : y ∈ sds ws) : isLk (sysOf h) (.al false x y m) ↔ 0 < m ∧ alF S ws x y m := by
  have X := dlT h hx
  have Y := dlF h hy
  have e : ∀ a b : Prop, (a ↔ ¬ ¬ b) ↔ (a ↔ b) := fun a b => by rw [Classical.not_not]
  have n1 : -(-1 : Int) = 1 := by omega
  constructor
  · rintro ⟨R, r, t, s⟩
    have eq := R.eq; have bg := R.bg; have en := R.en
    unfold se sb at s
    rw [e] at s
    simp only [X, Y, n1, bk_bk] at eq bg en s
    exact ⟨R.hm, r, t, fun k hk => eq k (by omega) (by omega), bg, en, s⟩
  · rintro ⟨hm, r, t, eq, bg, en, s⟩
    refine ⟨⟨hx, hy, hm, fun k a b => ?_, by rw [X, Y]; exact bg, by rw [X, Y]; exact en⟩, r, t, ?_⟩
    · rw [X, Y]
      have := eq k.toNat (by omega)
      rw [Int.toNat_of_nonneg a] at this
      exact this
    · unfold se sb
      rw [e]
      simp only [X, Y, n1, bk_bk]
      exact s
theorem beS_iff (hx : x ∈ sds ws) (hy : y ∈ sds ws) : isLk (sysOf h) (.bes x y) ↔ beS S ws x y := by
  have e1 : ∀ {z : St2}, z ∈ sds ws → (sysOf h).l ((sysOf h).mv z 1) = lat ws z 1 := fun {z} hz => by
    show lat ws (mvs ws z 1) 0 = _
    rw [lat_mv hz, Int.add_zero]
  have e2 : ∀ z, (sysOf h).l z = lat ws z 0 := fun z => rfl
  unfold isLk four beS
  simp only [e1 hx, e1 hy, e2]
  exact ⟨fun q => q.2.2, fun q => ⟨hx, hy, q⟩⟩
/-- a link's length is how far its strands go alike -/
theorem al_run {d : Bool} (hx : x ∈ sds ws) (hy : y ∈ sds ws) (q : isLk (sysOf h) (.al d x y m)) : m = rn (fun k => decide (lat ws x k = if d then lat ws y k else bk (lat ws y (-k)))) (rmo ws x y) := by
  cases d with
  | true =>
    obtain ⟨hm, t, r, eq, bg, en, s⟩ := (alT_iff h hx hy).mp q
    exact (rn_eq r (fun k hk => decide_eq_true (eq k hk)) (fun _ => decide_eq_false en)).symm
  | false =>
    obtain ⟨hm, r, t, eq, bg, en, s⟩ := (alF_iff h hx hy).mp q
    exact (rn_eq r (fun k hk => decide_eq_true (eq k hk)) (fun _ => decide_eq_false en)).symm
end
end RW
/-! How one finds which strand comes first. -/
namespace RW
def metL (ws : List (List L)) (x : St2) (j : Int) : L := if small (lat ws x 0) then lat ws x j else bk (lat ws x (-j))
/-- how far two strands of a band go on alike, ahead (t = 1) or behind (t = -1) -/
def ra (ws : List (List L)) (x y : St2) (t : Int) : Nat := rn (fun k => decide (metL ws x (t * (1 + k)) = metL ws y (t * (1 + k)))) (rmo ws x y)
section
variable {S : List L} {ws : List (List L)} (h : Ways S ws) {x y : St2}
theorem met_eq (hx : x ∈ sds ws) (j : Int) : met (sysOf h) x j = metL ws x j := by
  have e : (sysOf h).l x = lat ws x 0 := rfl
  unfold met metL
  rw [e]
  cases small (lat ws x 0) with
  | true => rw [if_pos rfl]; exact dlT h hx j
  | false => rw [if_neg Bool.false_ne_true]; exact dlF h hx j
theorem metL_per (hx : x ∈ sds ws) (j : Int) : metL ws x (j + (wy ws x.1).length) = metL ws x j := by
  unfold metL
  split
  · exact lat_per hx j
  · have := lat_per hx (-(j + (wy ws x.1).length))
    rw [show -(j + ((wy ws x.1).length : Int)) + (wy ws x.1).length = -j by omega] at this
    rw [this]
theorem ra_all (hx : x ∈ sds ws) (hy : y ∈ sds ws) (h0 : metL ws x 0 = metL ws y 0) (e : ra ws x y 1 = rmo ws x y) (j : Int) : metL ws x j = metL ws y j := by
  have sp := (rn_spec (fun k => decide (metL ws x (1 * (1 + k)) = metL ws y (1 * (1 + k)))) (rmo ws x y)).1
  have e' : rn (fun k => decide (metL ws x (1 * (1 + k)) = metL ws y (1 * (1 + k)))) (rmo ws x y) = rmo ws x y := e
  rw [e'] at sp
  refine per_eq (wy_pos hx) (wy_pos hy) (metL_per hx) (metL_per hy) (fun k hk => ?_) j
  cases k with
  | zero => exact h0
  | succ k =>
    have := of_decide_eq_true (sp k (by unfold rmo; omega))
    rw [Int.one_mul, show (1 : Int) + (k : Int) = ((k + 1 : Nat) : Int) by omega] at this
    exact this
theorem ra_at {t : Int} {k : Nat} (hk : k < ra ws x y t) : metL ws x (t * (1 + k)) = metL ws y (t * (1 + k)) :=
  of_decide_eq_true ((rn_spec (fun k => decide (metL ws x (t * (1 + k)) = metL ws y (t * (1 + k)))) (rmo ws x y)).1 k hk)
theorem ra_end {t : Int} (hl : ra ws x y t < rmo ws x y) : metL ws x (t * (1 + (ra ws x y t : Nat))) ≠ metL ws y (t * (1 + (ra ws x y t : Nat))) :=
  of_decide_eq_false ((rn_spec (fun k => decide (metL ws x (t * (1 + k)) = metL ws y (t * (1 + k)))) (rmo ws x y)).2.2 hl)
theorem ra_le {t : Int} : ra ws x y t ≤ rmo ws x y := (rn_spec _ _).2.1
theorem sf_par' (hx : x ∈ sds ws) (hy : y ∈ sds ws) (h0 : metL ws x 0 = metL ws y 0) (ne : x ≠ y) (e : ra ws x y 1 = rmo ws x y) : sf (sysOf h) x y ↔ (decide (slt x y) = small (lat ws (if slt y x then y else x) 0)) := by
  have al := ra_all hx hy h0 e
  rw [sf_par (fun n => by unfold nx; split <;> rw [met_eq h hx, met_eq h hy, al])]
  have ex : (sysOf h).l x = lat ws x 0 := rfl
  have ey : (sysOf h).l y = lat ws y 0 := rfl
  have el : (sysOf h).lt = slt := rfl
  unfold tie
  rw [ex, ey, el]
  by_cases a : slt x y
  · have b : ¬ slt y x := fun q => slt_irr _ (slt_trans _ _ _ a q)
    rw [if_neg b, decide_eq_true a]
    constructor
    · rintro (⟨_, q⟩ | ⟨q, _⟩)
      · exact q.symm
      · exact absurd a q
    · exact fun q => .inl ⟨a, q.symm⟩
  · have b := (slt_total x y ne).resolve_left a
    rw [if_pos b, decide_eq_false a]
    constructor
    · rintro (⟨q, _⟩ | ⟨_, q⟩)
      · exact absurd q a
      · exact q.symm
    · exact fun q => .inr ⟨a, q.symm⟩
theorem sf_ahead (hx : x ∈ sds ws) (hy : y ∈ sds ws) (h1 : ra ws x y 1 < rmo ws x y) (h2 : ra ws x y 1 ≤ ra ws x y (-1)) :
    sf (sysOf h) x y ↔ cf S (bk (metL ws x (ra ws x y 1 : Nat))) (metL ws x ((ra ws x y 1 : Nat) + 1)) (metL ws y ((ra ws x y 1 : Nat) + 1)) := by
  have en := ra_end h1
  have p : ∀ k, k < ra ws x y 1 → metL ws x (1 * (1 + k)) = metL ws y (1 * (1 + k)) := fun k hk => ra_at hk
  have n : ∀ k, k < ra ws x y 1 → metL ws x (-1 * (1 + k)) = metL ws y (-1 * (1 + k)) := fun k hk => ra_at (by omega)
  generalize ra ws x y 1 = a at *
  have g : ag (sysOf h) x y (2 * a) := fun i hi => by
    rcases Nat.mod_two_eq_zero_or_one i with z | z
    · have q := p (i / 2) (by omega)
      rw [show (1 : Int) * (1 + ((i / 2 : Nat) : Int)) = ((i / 2 + 1 : Nat) : Int) by omega] at q
      rw [show i = 2 * (i / 2) by omega, nx_even, nx_even, met_eq h hx, met_eq h hy]; exact q
    · have q := n (i / 2) (by omega)
      rw [show (-1 : Int) * (1 + ((i / 2 : Nat) : Int)) = -((i / 2 + 1 : Nat) : Int) by omega] at q
      rw [show i = 2 * (i / 2) + 1 by omega, nx_odd, nx_odd, met_eq h hx, met_eq h hy]; exact q
  rw [show (1 : Int) * (1 + (a : Int)) = ((a + 1 : Nat) : Int) by omega] at en
  rw [sf_at g (by rw [nx_even, nx_even, met_eq h hx, met_eq h hy]; exact en)]
  unfold cn
  rw [if_pos (by omega), nx_even, nx_even, met_eq h hx, met_eq h hx, met_eq h hy, show 2 * a / 2 = a by omega]
  exact Iff.rfl
theorem sf_behind (hx : x ∈ sds ws) (hy : y ∈ sds ws) (h2 : ra ws x y (-1) < ra ws x y 1) :
    sf (sysOf h) x y ↔ cf S (metL ws x (-(ra ws x y (-1) : Nat))) (bk (metL ws y (-(ra ws x y (-1) : Nat) - 1))) (bk (metL ws x (-(ra ws x y (-1) : Nat) - 1))) := by
  have le1 := ra_le (ws := ws) (x := x) (y := y) (t := 1)
  have en := ra_end (ws := ws) (x := x) (y := y) (t := -1) (by omega)
  have p : ∀ k, k ≤ ra ws x y (-1) → metL ws x (1 * (1 + k)) = metL ws y (1 * (1 + k)) := fun k hk => ra_at (by omega)
  have n : ∀ k, k < ra ws x y (-1) → metL ws x (-1 * (1 + k)) = metL ws y (-1 * (1 + k)) := fun k hk => ra_at hk
  generalize ra ws x y (-1) = b at *
  have g : ag (sysOf h) x y (2 * b + 1) := fun i hi => by
    rcases Nat.mod_two_eq_zero_or_one i with z | z
    · have q := p (i / 2) (by omega)
      rw [show (1 : Int) * (1 + ((i / 2 : Nat) : Int)) = ((i / 2 + 1 : Nat) : Int) by omega] at q
      rw [show i = 2 * (i / 2) by omega, nx_even, nx_even, met_eq h hx, met_eq h hy]; exact q
    · have q := n (i / 2) (by omega)
      rw [show (-1 : Int) * (1 + ((i / 2 : Nat) : Int)) = -((i / 2 + 1 : Nat) : Int) by omega] at q
      rw [show i = 2 * (i / 2) + 1 by omega, nx_odd, nx_odd, met_eq h hx, met_eq h hy]; exact q
  rw [show (-1 : Int) * (1 + (b : Int)) = -((b + 1 : Nat) : Int) by omega] at en
  rw [sf_at g (by rw [nx_odd, nx_odd, met_eq h hx, met_eq h hy]; exact en)]
  unfold cn
  rw [if_neg (by omega), nx_odd, nx_odd, met_eq h hx, met_eq h hx, met_eq h hy, show (2 * b + 1) / 2 = b by omega, show -((b + 1 : Nat) : Int) = -(b : Int) - 1 by omega]
  exact Iff.rfl
theorem metL_S (h : Ways S ws) (hx : x ∈ sds ws) (j : Int) : metL ws x j ∈ S := by
  rw [← met_eq h hx]; exact met_S (Y := sysOf h) hx j
theorem thr_met {n : Nat} (hx : x ∈ thr ws n) (hy : y ∈ thr ws n) : metL ws x 0 = metL ws y 0 := by
  have a := mem_thr.mp hx
  have b := mem_thr.mp hy
  have e : ∀ z : St2, metL ws z 0 = lo (lat ws z 0) := fun z => by
    unfold metL lo
    cases small (lat ws z 0) <;> simp
  rw [e, e]
  exact Fin.ext (a.2.trans b.2.symm)
end
end RW
/-! Words: backs, turns, roots. -/
namespace RW
def bkw (w : List L) : List L := (w.map bk).reverse
/-- goes round without turning back -/
def Round (w : List L) : Prop := ∀ k : Int, wa w (k + 1) ≠ bk (wa w k)
def Prim (w : List L) : Prop := ∀ s : Int, (∀ k : Int, wa w (k + s) = wa w k) → (w.length : Int) ∣ s
theorem way_iff {S w : List L} : Way S w ↔ 0 < w.length ∧ (∀ c ∈ w, c ∈ S) ∧ Round w ∧ Prim w := ⟨fun h => ⟨h.ne, h.inS, h.red, h.prim⟩, fun h => ⟨h.1, h.2.1, h.2.2.1, h.2.2.2⟩⟩
def Red (w : List L) : Prop := ∀ i (h : i + 1 < w.length), w[i + 1] ≠ bk w[i]
theorem wa_mod' {w : List L} (hn : 0 < w.length) (k : Int) : ∃ i : Nat, ∃ h : i < w.length, wa w k = w[i] ∧ (i : Int) = k % w.length := by
  have h0 := Int.emod_nonneg k (show (w.length : Int) ≠ 0 by omega)
  have h1 := Int.emod_lt_of_pos k (show (0 : Int) < w.length by omega)
  refine ⟨(k % w.length).toNat, by omega, ?_, by omega⟩
  have := wa_mod hn k 0
  rw [Int.add_zero, Int.add_zero] at this
  rw [← this]
  exact wa_nat (by omega)
theorem round_of {w : List L} (hn : 0 < w.length) (h : Red w) (he : ∀ h1 : 1 < w.length, w[0] ≠ bk w[w.length - 1]) : Round w := by
  intro k
  obtain ⟨i, hi, e, m⟩ := wa_mod' hn k
  rw [e]
  by_cases l : i + 1 < w.length
  · have e2 : wa w (k + 1) = w[i + 1] := by
      have := wa_mod hn k 1
      rw [← this, ← m, Int.toNat_natCast, show ((i : Int) + 1) = ((i + 1 : Nat) : Int) by omega]
      exact wa_nat l
    rw [e2]; exact h i l
  · have e2 : wa w (k + 1) = w[0] := by
      have := wa_mod hn k 1
      rw [← this, ← m, Int.toNat_natCast, show ((i : Int) + 1) = (0 : Int) + w.length by omega, wa_per hn]
      exact wa_nat hn
    rw [e2]
    have ei : i = w.length - 1 := by omega
    subst ei
    by_cases h1 : 1 < w.length
    · exact he h1
    · have : w.length - 1 = 0 := by omega
      simp only [this]
      exact fun z => bk_ne _ z.symm
/-! ### turns and backs -/
theorem wa_turn {w : List L} (hn : 0 < w.length) {a : Nat} (ha : a ≤ w.length) (k : Int) : wa (w.drop a ++ w.take a) k = wa w (k + a) := by
  have hl : (w.drop a ++ w.take a).length = w.length := by simp; omega
  obtain ⟨i, hi, e, m⟩ := wa_mod' (w := w.drop a ++ w.take a) (by omega) k
  rw [e]
  rw [hl] at m
  have e2 : wa w (k + a) = wa w ((i : Int) + a) := by
    have := wa_mod hn k a
    rw [← this, ← m, Int.toNat_natCast]
  rw [e2, List.getElem_append]
  rw [hl] at hi
  split
  · rename_i h
    rw [List.length_drop] at h
    rw [List.getElem_drop, show (i : Int) + a = ((a + i : Nat) : Int) by omega]
    exact (wa_nat (by omega)).symm
  · rename_i h
    rw [List.length_drop] at h
    rw [List.getElem_take]
    have e3 : (i : Int) + a = ((i - (w.length - a) : Nat) : Int) + w.length := by omega
    rw [e3, wa_per hn]
    simp only [List.length_drop]
    exact (wa_nat (by omega)).symm
theorem wa_back {w : List L} (hn : 0 < w.length) (k : Int) : wa (bkw w) k = bk (wa w (-1 - k)) := by
  have hl : (bkw w).length = w.length := by simp [bkw]
  obtain ⟨i, hi, e, m⟩ := wa_mod' (w := bkw w) (by omega) k
  rw [hl] at m
  have hi' : i < w.length := by omega
  have e1 : (bkw w)[i] = bk (w[w.length - 1 - i]) := by
    have q : ∀ (v : List L) (h : v = (w.map bk).reverse) (h2 : i < v.length), v[i] = bk (w[w.length - 1 - i]) := fun v h h2 => by
      subst h
      rw [List.getElem_reverse, List.getElem_map]
      simp only [List.length_map]
    exact q _ rfl hi
  rw [e, e1]
  congr 1
  have := Int.emod_add_mul_ediv k w.length
  have e2 : (-1 - k : Int) = ((w.length - 1 - i : Nat) : Int) + (-(k / w.length) - 1) * w.length := by
    rw [Int.sub_mul, Int.neg_mul, Int.one_mul, Int.mul_comm (k / _)]
    omega
  rw [e2]
  have per : ∀ (x : Int) (t : Int), wa w (x + t * w.length) = wa w x := fun x t => by
    unfold wa
    rw [Int.add_mul_emod_self_right]
  rw [per]
  exact (wa_nat (by omega)).symm
theorem way_turn {S w : List L} (h : Way S w) {a : Nat} (ha : a ≤ w.length) : Way S (w.drop a ++ w.take a) := by
  have hl : (w.drop a ++ w.take a).length = w.length := by simp; omega
  refine ⟨by rw [hl]; exact h.ne, fun c hc => ?_, fun k => ?_, fun s hs => ?_⟩
  · rcases List.mem_append.mp hc with q | q
    · exact h.inS _ (List.mem_of_mem_drop q)
    · exact h.inS _ (List.mem_of_mem_take q)
  · rw [wa_turn h.ne ha, wa_turn h.ne ha, show k + 1 + (a : Int) = k + a + 1 by omega]
    exact h.red _
  · rw [hl]
    refine h.prim s fun k => ?_
    have := hs (k - a)
    rw [wa_turn h.ne ha, wa_turn h.ne ha, show k - (a : Int) + s + a = k + s by omega, show k - (a : Int) + a = k by omega] at this
    exact this
theorem way_back {S w : List L} (hS : ∀ c ∈ S, bk c ∈ S) (h : Way S w) : Way S (bkw w) := by
  have hl : (bkw w).length = w.length := by simp [bkw]
  refine ⟨by rw [hl]; exact h.ne, fun c hc => ?_, fun k => ?_, fun s hs => ?_⟩
  · unfold bkw at hc
    obtain ⟨d, hd, rfl⟩ := List.mem_map.mp (List.mem_reverse.mp hc)
    exact hS _ (h.inS _ hd)
  · rw [wa_back h.ne, wa_back h.ne, bk_bk]
    have := h.red (-1 - (k + 1))
    rw [show (-1 : Int) - (k + 1) + 1 = -1 - k by omega] at this
    exact fun z => this (by rw [z])
  · rw [hl]
    refine h.prim s fun k => ?_
    have := hs (-1 - k - s)
    rw [wa_back h.ne, wa_back h.ne, show (-1 : Int) - (-1 - k - s + s) = k by omega, show (-1 : Int) - (-1 - k - s) = k + s by omega] at this
    exact (bk_inj this).symm
/-! ### roots -/
def rep (p : List L) (q : Nat) : List L := (List.replicate q p).flatten
theorem rep_len (p : List L) (q : Nat) : (rep p q).length = q * p.length := by simp [rep]
theorem rep_get {p : List L} : ∀ {q i : Nat}, i < q * p.length → (rep p q)[i]? = p[i % p.length]?
  | 0, _, h => by omega
  | q + 1, i, h => by
    unfold rep
    rw [List.replicate_succ, List.flatten_cons]
    by_cases l : i < p.length
    · rw [List.getElem?_append_left l, Nat.mod_eq_of_lt l]
    · rw [List.getElem?_append_right (by omega)]
      have ih := rep_get (p := p) (q := q) (i := i - p.length) (by rw [Nat.add_mul] at h; omega)
      have e : (i - p.length) % p.length = i % p.length := by
        have : i = i - p.length + p.length := by omega
        conv => rhs; rw [this, Nat.add_mod_right]
      rw [← e]
      exact ih
theorem root_way {w : List L} (hn : 0 < w.length) (hr : Round w) {n : Nat} (n1 : 1 ≤ n) (n2 : n ≤ w.length) (hP : rep (w.take n) (w.length / n) = w) (hmin : ∀ m, 1 ≤ m → m < n → rep (w.take m) (w.length / m) ≠ w) : Round (w.take n) ∧ Prim (w.take n) := by
  have pl : (w.take n).length = n := by rw [List.length_take]; omega
  have len : w.length / n * n = w.length := by
    have := congrArg List.length hP
    rw [rep_len, pl] at this
    exact this
  have same : ∀ k : Int, wa (w.take n) k = wa w k := fun k => by
    obtain ⟨i, hi, e, m⟩ := wa_mod' hn k
    have g := rep_get (p := w.take n) (q := w.length / n) (i := i) (by rw [pl, len]; exact hi)
    rw [hP, pl, List.getElem?_eq_getElem hi] at g
    have hin : i % n < (w.take n).length := by rw [pl]; exact Nat.mod_lt _ n1
    rw [List.getElem?_eq_getElem hin] at g
    rw [e, Option.some.inj g]
    obtain ⟨j, hj, e2, m2⟩ := wa_mod' (w := w.take n) (by omega) k
    rw [e2]
    have : j = i % n := by
      rw [pl] at m2
      have d : k % (n : Int) = (k % (w.length : Int)) % (n : Int) := by
        rw [Int.emod_emod_of_dvd]
        exact ⟨(w.length / n : Nat), by rw [← Int.natCast_mul, Nat.mul_comm, len]⟩
      rw [← m, ← m2] at d
      omega
    subst this; rfl
  refine ⟨fun k => by rw [same, same]; exact hr k, fun s hs => ?_⟩
  rw [pl]
  have sub : ∀ {a b : Int}, (∀ k, wa w (k + a) = wa w k) → (∀ k, wa w (k + b) = wa w k) → ∀ k, wa w (k + (a - b)) = wa w k := fun {a b} h1 h2 k => by
    have := h2 (k + (a - b))
    rw [show k + (a - b) + b = k + a by omega, h1] at this
    exact this.symm
  have mul : ∀ {a : Int}, (∀ k, wa w (k + a) = wa w k) → ∀ t : Nat, ∀ k, wa w (k + t * a) = wa w k := fun {a} h1 t => by
    induction t with
    | zero => intro k; simp
    | succ t ih => intro k; rw [show k + ((t + 1 : Nat) : Int) * a = k + t * a + a by rw [Int.natCast_succ, Int.add_mul, Int.one_mul, Int.add_assoc], h1, ih]
  have mulI : ∀ {a : Int}, (∀ k, wa w (k + a) = wa w k) → ∀ t : Int, ∀ k, wa w (k + t * a) = wa w k := fun {a} h1 t k => by
    by_cases ht : 0 ≤ t
    · have := mul h1 t.toNat k
      rw [Int.toNat_of_nonneg ht] at this
      exact this
    · have := mul h1 (-t).toNat (k + t * a)
      rw [Int.toNat_of_nonneg (by omega), Int.neg_mul, show k + t * a + -(t * a) = k by omega] at this
      exact this.symm
  have hs' : ∀ k, wa w (k + s) = wa w k := fun k => by rw [← same, ← same]; exact hs k
  have hn' : ∀ k, wa w (k + (n : Int)) = wa w k := fun k => by
    have := wa_per (w := w.take n) (by omega) k
    rw [pl, same, same] at this
    exact this
  obtain ⟨g, ⟨g0, hg⟩, gm⟩ := least (P := fun g : Nat => 0 < g ∧ ∀ k : Int, wa w (k + g) = wa w k) ⟨n, n1, hn'⟩
  have dv : ∀ {t : Int}, (∀ k, wa w (k + t) = wa w k) → (g : Int) ∣ t := fun {t} ht => by
    refine Int.dvd_of_emod_eq_zero ?_
    have e0 := Int.emod_nonneg t (show (g : Int) ≠ 0 by omega)
    have e1 := Int.emod_lt_of_pos t (show (0 : Int) < g by omega)
    refine Classical.byContradiction fun z => gm (t % g).toNat (by omega) ⟨by omega, fun k => ?_⟩
    rw [Int.toNat_of_nonneg e0]
    have e2 := Int.emod_add_mul_ediv t g
    have := sub ht (mulI hg (t / g)) k
    rw [show t - t / (g : Int) * g = t % g by rw [Int.mul_comm]; omega] at this
    exact this
  have gn : g ∣ n := Int.natCast_dvd_natCast.mp (dv hn')
  have gle : g ≤ n := Nat.le_of_dvd n1 gn
  by_cases e : g = n
  · rw [← e]; exact dv hs'
  · exfalso
    have gl : (w.take g).length = g := by rw [List.length_take]; omega
    have gw : g ∣ w.length := Nat.dvd_trans gn ⟨w.length / n, by rw [Nat.mul_comm]; exact len.symm⟩
    have gq : w.length / g * g = w.length := Nat.div_mul_cancel gw
    refine hmin g g0 (by omega) ?_
    apply List.ext_getElem?
    intro i
    by_cases hi : i < w.length
    · have md := Nat.mod_lt i g0
      rw [rep_get (by rw [gl, gq]; exact hi), gl, List.getElem?_take_of_lt md, List.getElem?_eq_getElem (by omega), List.getElem?_eq_getElem hi]
      congr 1
      rw [← wa_nat (by omega : i % g < w.length), ← wa_nat hi]
      have := mul hg (i / g) ((i % g : Nat) : Int)
      have e3 : ((i % g : Nat) : Int) + ((i / g : Nat) : Int) * g = i := by
        rw [← Int.natCast_mul, ← Int.natCast_add, Nat.mul_comm]
        have := Nat.mod_add_div i g
        omega
      rw [e3] at this
      exact this.symm
    · rw [List.getElem?_eq_none (by rw [rep_len, gl, gq]; omega), List.getElem?_eq_none (by omega)]
theorem way_one {S : List L} {c : L} (hc : c ∈ S) : Way S [c] := by
  refine way_iff.mpr ⟨Nat.one_pos, fun z hz => by rw [List.mem_singleton.mp hz]; exact hc, round_of Nat.one_pos (fun i h => by simp at h) (fun h => absurd h (by simp)), fun s _ => ?_⟩
  exact ⟨s, by simp⟩
/-- a letter some times and another one -/
theorem way_two {S : List L} {c d : L} (hc : c ∈ S) (hd : d ∈ S) (ne : lo d ≠ lo c) (n : Nat) : Way S (List.replicate n c ++ [d]) := by
  have nd1 : d ≠ c := fun z => ne (by rw [z])
  have nd2 : d ≠ bk c := fun z => ne (by rw [z, lo_bk])
  have nd3 : c ≠ bk d := fun z => ne (by rw [z, lo_bk])
  have hl : (List.replicate n c ++ [d]).length = n + 1 := by simp
  have at_ : ∀ i (h : i < (List.replicate n c ++ [d]).length), (List.replicate n c ++ [d])[i] = if i < n then c else d := fun i h => by
    rw [List.getElem_append]
    split
    · rename_i q; rw [List.length_replicate] at q; rw [if_pos q, List.getElem_replicate]
    · rename_i q; rw [List.length_replicate] at q; rw [if_neg q]; simp
  refine way_iff.mpr ⟨by omega, fun z hz => ?_, round_of (by omega) (fun i h => ?_) fun h => ?_, fun s hs => ?_⟩
  · rcases List.mem_append.mp hz with q | q
    · rw [List.eq_of_mem_replicate q]; exact hc
    · rw [List.mem_singleton.mp q]; exact hd
  · rw [at_, at_]
    by_cases q1 : i < n
    · rw [if_pos q1]
      by_cases q2 : i + 1 < n
      · rw [if_pos q2]; exact fun z => bk_ne _ z.symm
      · rw [if_neg q2]; exact nd2
    · omega
  · rw [at_, at_]
    rw [if_neg (show ¬ (List.replicate n c ++ [d]).length - 1 < n by omega)]
    by_cases q1 : 0 < n
    · rw [if_pos q1]; exact nd3
    · rw [if_neg q1]; exact fun z => bk_ne _ z.symm
  · have h1 := hs n
    have en : wa (List.replicate n c ++ [d]) (n : Int) = d := by rw [wa_nat (by omega), at_, if_neg (by omega)]
    rw [en] at h1
    obtain ⟨i, hi, e, m⟩ := wa_mod' (w := List.replicate n c ++ [d]) (by omega) ((n : Int) + s)
    rw [e, at_] at h1
    split at h1
    · exact (nd1 h1.symm).elim
    · rename_i q
      rw [hl] at hi m ⊢
      have ei : i = n := by omega
      subst ei
      refine Int.dvd_of_emod_eq_zero ?_
      have := Int.emod_emod_of_dvd ((i : Int) + s) (Int.dvd_refl ((i + 1 : Nat) : Int))
      have k1 : ((i : Int) + s - i) % ((i + 1 : Nat) : Int) = 0 := by
        rw [Int.sub_emod, ← m, Int.emod_eq_of_lt (a := (i : Int)) (by omega) (by omega)]
        simp
      rw [show (i : Int) + s - i = s by omega] at k1
      exact k1
end RW
/-! A logic of data over the hand layer: what expressions and statements do to plain data, the heap told once and for all. -/
namespace DL
open PySem PySem.Spec PyProof.Rows L2

/-! ### data in the abstract heap -/
mutual
inductive Dt (H : Hp) : V → PyData → Prop
  | non : Dt H .non .none
  | bl (b : Bool) : Dt H (.bl b) (.bool b)
  | int (i : Int) : Dt H (.int i) (.int i)
  | str (x : Str) : Dt H (.str x) (.str x)
  | lst {a : Addr} {xs : List V} {ds : List PyData} : H a = some (.lst xs) → DtA H xs ds → Dt H (.ref a) (.list ds)
  | tup {a : Addr} {xs : List V} {ds : List PyData} : H a = some (.tup xs) → DtA H xs ds → Dt H (.ref a) (.tuple ds)
inductive DtA (H : Hp) : List V → List PyData → Prop
  | nil : DtA H [] []
  | cons {v : V} {vs : List V} {d : PyData} {ds : List PyData} : Dt H v d → DtA H vs ds → DtA H (v :: vs) (d :: ds)
end
mutual
theorem Dt.dp {K : PySem.W.Frag} {H : Hp} : ∀ {d : PyData} {v : V}, Dt H v d → Dp K H v d
  | .none, _, h => by cases h; exact .non
  | .bool b, _, h => by cases h; exact .bl b
  | .int i, _, h => by cases h; exact .int i
  | .str x, _, h => by cases h; exact .str x
  | .list ds, _, h => by cases h with | lst a b => exact .lst (SqL.of a) (DtA.dp b)
  | .tuple ds, _, h => by cases h with | tup a b => exact .tup (SqT.of a) (DtA.dp b)
  | .dict _, _, h => by cases h
theorem DtA.dp {K : PySem.W.Frag} {H : Hp} : ∀ {ds : List PyData} {vs : List V}, DtA H vs ds → DpAll K H vs ds
  | [], _, h => by cases h; exact .nil
  | _ :: _, _, h => by cases h with | cons a b => exact .cons (Dt.dp a) (DtA.dp b)
end
mutual
theorem Dt.mono {H H' : Hp} (e : Same H H') : ∀ {d : PyData} {v : V}, Dt H v d → Dt H' v d
  | .none, _, h => by cases h; exact .non
  | .bool b, _, h => by cases h; exact .bl b
  | .int i, _, h => by cases h; exact .int i
  | .str x, _, h => by cases h; exact .str x
  | .list ds, _, h => by cases h with | lst a b => exact .lst (e _ _ a) (DtA.mono e b)
  | .tuple ds, _, h => by cases h with | tup a b => exact .tup (e _ _ a) (DtA.mono e b)
  | .dict _, _, h => by cases h
theorem DtA.mono {H H' : Hp} (e : Same H H') : ∀ {ds : List PyData} {vs : List V}, DtA H vs ds → DtA H' vs ds
  | [], _, h => by cases h; exact .nil
  | _ :: _, _, h => by cases h with | cons a b => exact .cons (Dt.mono e a) (DtA.mono e b)
end
/-! no list within -/
mutual
def imm : PyData → Bool
  | .none => true
  | .bool _ => true
  | .int _ => true
  | .str _ => true
  | .list _ => false
  | .tuple ds => immA ds
  | .dict _ => false
def immA : List PyData → Bool
  | [] => true
  | d :: ds => imm d && immA ds
end
mutual
theorem Dt.tups {H H' : Hp} (e : ∀ a xs, H a = some (.tup xs) → H' a = some (.tup xs)) : ∀ {d : PyData} {v : V}, imm d = true → Dt H v d → Dt H' v d
  | .none, _, _, h => by cases h; exact .non
  | .bool b, _, _, h => by cases h; exact .bl b
  | .int i, _, _, h => by cases h; exact .int i
  | .str x, _, _, h => by cases h; exact .str x
  | .list ds, _, q, h => by simp [imm] at q
  | .tuple ds, _, q, h => by cases h with | tup a b => exact .tup (e _ _ a) (DtA.tups e (by simpa [imm] using q) b)
  | .dict _, _, _, h => by cases h
theorem DtA.tups {H H' : Hp} (e : ∀ a xs, H a = some (.tup xs) → H' a = some (.tup xs)) : ∀ {ds : List PyData} {vs : List V}, immA ds = true → DtA H vs ds → DtA H' vs ds
  | [], _, _, h => by cases h; exact .nil
  | _ :: _, _, q, h => by
    cases h with
    | cons a b =>
      simp only [immA, Bool.and_eq_true] at q
      exact .cons (Dt.tups e q.1 a) (DtA.tups e q.2 b)
end
theorem DtA.length {H : Hp} : ∀ {ds : List PyData} {vs : List V}, DtA H vs ds → vs.length = ds.length
  | [], _, h => by cases h; rfl
  | _ :: _, _, h => by cases h with | cons a b => exact congrArg Nat.succ (DtA.length b)
theorem DtA.get {H : Hp} : ∀ {ds : List PyData} {vs : List V} {i : Nat} {v : V}, DtA H vs ds → vs[i]? = some v → ∃ d, ds[i]? = some d ∧ Dt H v d
  | [], _, _, _, h, e => by cases h; simp at e
  | _ :: _, _, 0, _, h, e => by cases h with | cons a b => simp at e; subst e; exact ⟨_, rfl, a⟩
  | _ :: _, _, i + 1, _, h, e => by cases h with | cons a b => exact DtA.get (i := i) b (by simpa using e)
theorem DtA.get' {H : Hp} : ∀ {ds : List PyData} {vs : List V} {i : Nat} {d : PyData}, DtA H vs ds → ds[i]? = some d → ∃ v, vs[i]? = some v ∧ Dt H v d
  | [], _, _, _, h, e => by simp at e
  | _ :: _, _, 0, _, h, e => by cases h with | cons a b => simp at e; subst e; exact ⟨_, rfl, a⟩
  | _ :: _, _, i + 1, _, h, e => by cases h with | cons a b => exact DtA.get' (i := i) b (by simpa using e)
theorem DtA.append {H : Hp} : ∀ {ds es : List PyData} {vs ws : List V}, DtA H vs ds → DtA H ws es → DtA H (vs ++ ws) (ds ++ es)
  | [], _, _, _, h, q => by cases h; exact q
  | _ :: _, _, _, _, h, q => by cases h with | cons a b => exact .cons a (DtA.append b q)
theorem DtA.take {H : Hp} : ∀ {ds : List PyData} {vs : List V} (n : Nat), DtA H vs ds → DtA H (vs.take n) (ds.take n)
  | _, _, 0, _ => by simp; exact .nil
  | [], _, n + 1, h => by cases h; simp; exact .nil
  | _ :: _, _, n + 1, h => by cases h with | cons a b => exact .cons a (DtA.take n b)
theorem DtA.drop {H : Hp} : ∀ {ds : List PyData} {vs : List V} (n : Nat), DtA H vs ds → DtA H (vs.drop n) (ds.drop n)
  | _, _, 0, h => by simpa using h
  | [], _, n + 1, h => by cases h; simp; exact .nil
  | _ :: _, _, n + 1, h => by cases h with | cons a b => exact DtA.drop n b
theorem DtA.set {H : Hp} {v : V} {d : PyData} (q : Dt H v d) : ∀ {ds : List PyData} {vs : List V} (n : Nat), DtA H vs ds → DtA H (vs.set n v) (ds.set n d)
  | [], _, _, h => by cases h; exact .nil
  | _ :: _, _, 0, h => by cases h with | cons a b => exact .cons q b
  | _ :: _, _, n + 1, h => by cases h with | cons a b => exact .cons a (DtA.set q n b)
theorem DtA.reverse {H : Hp} : ∀ {ds : List PyData} {vs : List V}, DtA H vs ds → DtA H vs.reverse ds.reverse
  | [], _, h => by cases h; exact .nil
  | _ :: _, _, h => by
    cases h with
    | cons a b =>
      rw [List.reverse_cons, List.reverse_cons]
      exact (DtA.reverse b).append (.cons a .nil)
theorem DtA.of_get {H : Hp} : ∀ {ds : List PyData} {vs : List V}, vs.length = ds.length → (∀ (i : Nat) (v : V) (d : PyData), vs[i]? = some v → ds[i]? = some d → Dt H v d) → DtA H vs ds
  | [], [], _, _ => .nil
  | d :: ds, v :: vs, h, q => .cons (q 0 v d rfl rfl) (DtA.of_get (by simpa using h) fun i w e a b => q (i + 1) w e (by simpa using a) (by simpa using b))

/-! ### the state -/
/-- the law's tape at p: a list of a list of ints and three ints -/
def TapeOk (B H : Hp) (p c : Addr) : Prop := B p = none ∧ ∃ (ns : List Int) (a b n : Int), H p = some (.lst [.ref c, .int a, .int b, .int n]) ∧ B c = some (.lst (ns.map V.int)) ∧ ns.length ≤ 63
/-- the tape and its cells, where there is one -/
abbrev Tape := Option (Addr × Addr)
def Tn (T : Tape) (p : Addr) : Prop := ∀ c, T ≠ some (p, c)
def Tp (T : Tape) (B H : Hp) : Prop := ∀ p c, T = some (p, c) → TapeOk B H p c
/-- from the heap H with its settled part B to H' with B': what is settled stays, what is there stays but the tape -/
structure Step (T : Tape) (B H B' H' : Hp) : Prop where
  b : Same B B'
  e : Same B' H'
  k : ∀ p o, Tn T p → H p = some o → H' p = some o
  u : ∀ p o, H p = some o → B p = none → B' p = none
  t : Tp T B' H'
section
variable {T : Tape} {B H B1 H1 B2 H2 : Hp}
theorem Step.refl (e : Same B H) (t : Tp T B H) : Step T B H B H := ⟨Same.refl _, e, fun _ _ _ h => h, fun _ _ _ h => h, t⟩
theorem Step.trans (a : Step T B H B1 H1) (b : Step T B1 H1 B2 H2) : Step T B H B2 H2 := by
  refine ⟨a.b.trans b.b, b.e, fun p o n h => b.k p o n (a.k p o n h), fun p o h hb => ?_, b.t⟩
  have h1 := a.u p o h hb
  by_cases q : Tn T p
  · exact b.u p o (a.k p o q h) h1
  · obtain ⟨c, q⟩ := Classical.not_forall.mp q
    obtain ⟨_, ns, x, y, z, e, _⟩ := a.t p c (Classical.not_not.mp q)
    exact b.u p _ e h1
/-- a new settled object -/
theorem Step.new {p : Addr} {o : HO} (e : Same B H) (t : Tp T B H) (h : H p = none) : Step T B H (upd B p o) (upd H p o) := by
  have hb : B p = none := e.free h
  refine ⟨fun a u q => ?_, fun a u q => ?_, fun a u n q => ?_, fun a u q n => ?_, fun a c q => ?_⟩
  · rw [upd_ne (ne_of_none q hb)]; exact q
  · by_cases z : a = p
    · subst z; rw [upd_same] at q ⊢; exact q
    · rw [upd_ne z] at q ⊢; exact e a u q
  · rw [upd_ne (ne_of_none q h)]; exact q
  · rw [upd_ne (ne_of_none q h)]; exact n
  · obtain ⟨h1, ns, x, y, z, h2, h3, h4⟩ := t a c q
    refine ⟨by rw [upd_ne (ne_of_none h2 h)]; exact h1, ns, x, y, z, by rw [upd_ne (ne_of_none h2 h)]; exact h2, by rw [upd_ne (ne_of_none h3 hb)]; exact h3, h4⟩
/-- a new object that is not settled yet -/
theorem Step.newO {p : Addr} {o : HO} (e : Same B H) (t : Tp T B H) (h : H p = none) : Step T B H B (upd H p o) := by
  have hb : B p = none := e.free h
  refine ⟨Same.refl _, fun a u q => ?_, fun a u n q => ?_, fun a u q n => n, fun a c q => ?_⟩
  · rw [upd_ne (ne_of_none q hb)]; exact e a u q
  · rw [upd_ne (ne_of_none q h)]; exact q
  · obtain ⟨h1, ns, x, y, z, h2, h3, h4⟩ := t a c q
    exact ⟨h1, ns, x, y, z, by rw [upd_ne (ne_of_none h2 h)]; exact h2, h3, h4⟩
/-- an unsettled object settles -/
theorem Step.settle {p : Addr} {o : HO} (s : Step T B H B1 H1) (hn : H p = none) (h : H1 p = some o) (hT : Tn T p) : Step T B H (upd B1 p o) H1 := by
  have sB : Same B1 (upd B1 p o) := fun a u q => by
    by_cases z : a = p
    · subst z; rw [upd_same]; have := s.e _ _ q; rw [h] at this; exact this
    · rw [upd_ne z]; exact q
  refine ⟨s.b.trans sB, fun a u q => ?_, s.k, fun a u q n => ?_, fun a c q => ?_⟩
  · by_cases z : a = p
    · subst z; rw [upd_same] at q; rw [← q]; exact h
    · rw [upd_ne z] at q; exact s.e _ _ q
  · rw [upd_ne (ne_of_none q hn)]; exact s.u a u q n
  · obtain ⟨h1, ns, x, y, z, h2, h3, h4⟩ := s.t a c q
    refine ⟨?_, ns, x, y, z, h2, sB _ _ h3, h4⟩
    rw [upd_ne (fun z => hT c (by rw [← z]; exact q))]; exact h1
theorem Tp.ne (t : Tp T B H) {p : Addr} (h : H p = none) : Tn T p := fun c q => by
  obtain ⟨_, ns, x, y, z, h2, _⟩ := t p c q
  rw [h] at h2; cases h2
end

/-- what stands in a slot: nothing told, data that is settled, a list that this frame alone holds, the tape -/
inductive S where
  | emp
  | val (d : PyData)
  | own (ds : List PyData)
  | tape
  | obj (P : Hp → V → Prop)
def Sv (T : Tape) (B H : Hp) : S → Option (Option V) → Prop
  | .emp, _ => True
  | .val d, o => ∃ v, o = some (some v) ∧ Dt B v d
  | .own ds, o => ∃ p vs, o = some (some (.ref p)) ∧ Tn T p ∧ B p = none ∧ H p = some (.lst vs) ∧ DtA B vs ds
  | .tape, o => ∃ p c, T = some (p, c) ∧ o = some (some (.ref p))
  | .obj P, o => ∃ v, o = some (some v) ∧ ∀ B', Same B B' → P B' v
structure Sl (T : Tape) (A : Hp × Hp) (σ : L2.St) (B H : Hp) (ρ : List S) : Prop where
  len : σ.length = ρ.length
  e : Same B H
  t : Tp T B H
  sl : ∀ (i : Nat) (s : S), ρ[i]? = some s → Sv T B H s σ[i]?
  ne : ∀ (i j : Nat) (p : Addr) (ds es : List PyData), i ≠ j → ρ[i]? = some (.own ds) → ρ[j]? = some (.own es) → σ[i]? = some (some (.ref p)) → σ[j]? ≠ some (some (.ref p))
  fr : ∀ (i : Nat) (p : Addr) (ds : List PyData), ρ[i]? = some (.own ds) → σ[i]? = some (some (.ref p)) → A.2 p = none
  anc : Step T A.1 A.2 B H
section
variable {T : Tape} {A : Hp × Hp} {σ : L2.St} {B H B1 H1 : Hp} {ρ : List S}
theorem Sl.step (s : Sl T A σ B H ρ) (q : Step T B H B1 H1) : Sl T A σ B1 H1 ρ := by
  refine ⟨s.len, q.e, q.t, fun i x h => ?_, s.ne, s.fr, s.anc.trans q⟩
  have z := s.sl i x h
  cases x with
  | emp => trivial
  | val d => obtain ⟨v, e, r⟩ := z; exact ⟨v, e, r.mono q.b⟩
  | own ds => obtain ⟨p, vs, e, nt, nb, hp, r⟩ := z; exact ⟨p, vs, e, nt, q.u p _ hp nb, q.k p _ nt hp, r.mono q.b⟩
  | tape => exact z
  | obj P => obtain ⟨v, e, r⟩ := z; exact ⟨v, e, fun B' sm => r B' (q.b.trans sm)⟩
theorem Sl.good (s : Sl T A σ B H ρ) : Step T B H B H := Step.refl s.e s.t
theorem Sl.val (s : Sl T A σ B H ρ) {i : Nat} {d : PyData} (h : ρ[i]? = some (.val d)) : ∃ v, σ[i]? = some (some v) ∧ Dt B v d := s.sl i _ h
/-- a slot gets settled data -/
theorem Sl.set (s : Sl T A σ B H ρ) {i : Nat} {v : V} {d : PyData} (h : Dt B v d) : Sl T A (σ.set i (some v)) B H (ρ.set i (.val d)) := by
  refine ⟨by simp [s.len], s.e, s.t, fun j x hx => ?_, fun j k p ds es n h1 h2 h3 h4 => ?_, fun j p ds h1 h2 => ?_, s.anc⟩
  · by_cases z : i = j
    · subst z
      have hl : i < ρ.length := by
        have := (List.getElem?_eq_some_iff.mp hx).1
        simpa using this
      rw [List.getElem?_set_self hl] at hx
      cases hx
      exact ⟨v, by rw [List.getElem?_set_self (by rw [s.len]; exact hl)], h⟩
    · rw [List.getElem?_set_ne z] at hx ⊢
      exact s.sl j x hx
  · have nj : i ≠ j := fun z => by
      subst z
      have hl : i < ρ.length := by simpa using (List.getElem?_eq_some_iff.mp h1).1
      rw [List.getElem?_set_self hl] at h1; cases h1
    have nk : i ≠ k := fun z => by
      subst z
      have hl : i < ρ.length := by simpa using (List.getElem?_eq_some_iff.mp h2).1
      rw [List.getElem?_set_self hl] at h2; cases h2
    rw [List.getElem?_set_ne nj] at h1 h3
    rw [List.getElem?_set_ne nk] at h2 h4
    exact s.ne j k p ds es n h1 h2 h3 h4
  · have nj : i ≠ j := fun z => by
      subst z
      have hl : i < ρ.length := by simpa using (List.getElem?_eq_some_iff.mp h1).1
      rw [List.getElem?_set_self hl] at h1; cases h1
    rw [List.getElem?_set_ne nj] at h1 h2
    exact s.fr j p ds h1 h2
/-- a slot is forgotten -/
theorem Sl.forget (s : Sl T A σ B H ρ) {i : Nat} {o : Option V} : Sl T A (σ.set i o) B H (ρ.set i .emp) := by
  refine ⟨by simp [s.len], s.e, s.t, fun j x hx => ?_, fun j k p ds es n h1 h2 h3 h4 => ?_, fun j p ds h1 h2 => ?_, s.anc⟩
  · by_cases z : i = j
    · subst z
      have hl : i < ρ.length := by simpa using (List.getElem?_eq_some_iff.mp hx).1
      rw [List.getElem?_set_self hl] at hx
      cases hx
      trivial
    · rw [List.getElem?_set_ne z] at hx ⊢
      exact s.sl j x hx
  · have nj : i ≠ j := fun z => by
      subst z
      have hl : i < ρ.length := by simpa using (List.getElem?_eq_some_iff.mp h1).1
      rw [List.getElem?_set_self hl] at h1; cases h1
    have nk : i ≠ k := fun z => by
      subst z
      have hl : i < ρ.length := by simpa using (List.getElem?_eq_some_iff.mp h2).1
      rw [List.getElem?_set_self hl] at h2; cases h2
    rw [List.getElem?_set_ne nj] at h1 h3
    rw [List.getElem?_set_ne nk] at h2 h4
    exact s.ne j k p ds es n h1 h2 h3 h4
  · have nj : i ≠ j := fun z => by
      subst z
      have hl : i < ρ.length := by simpa using (List.getElem?_eq_some_iff.mp h1).1
      rw [List.getElem?_set_self hl] at h1; cases h1
    rw [List.getElem?_set_ne nj] at h1 h2
    exact s.fr j p ds h1 h2
/-- a slot gets a list of its own, new since the state (B0, H0) -/
theorem Sl.setO (s : Sl T A σ B H ρ) {i : Nat} {p : Addr} {vs : List V} {ds : List PyData} (q : Step T B H B1 H1) (hn : H p = none) (hb : B1 p = none) (hp : H1 p = some (.lst vs)) (h : DtA B1 vs ds) : Sl T A (σ.set i (some (.ref p))) B1 H1 (ρ.set i (.own ds)) := by
  have s1 := s.step q
  have nt : Tn T p := Tp.ne s.t hn
  have na : A.2 p = none := by
    cases e : A.2 p with
    | none => rfl
    | some o => rw [s.anc.k p o nt e] at hn; cases hn
  have other : ∀ {j : Nat} {es : List PyData}, ρ[j]? = some (.own es) → σ[j]? ≠ some (some (.ref p)) := fun {j es} h1 h2 => by
    obtain ⟨p', vs', e, _, _, hp', _⟩ := s.sl j _ h1
    rw [h2] at e
    cases e
    rw [hn] at hp'; cases hp'
  refine ⟨by simp [s.len], s1.e, s1.t, fun j x hx => ?_, fun j k p' ds' es n h1 h2 h3 h4 => ?_, fun j p' ds' h1 h2 => ?_, s1.anc⟩
  · by_cases z : i = j
    · subst z
      have hl : i < ρ.length := by simpa using (List.getElem?_eq_some_iff.mp hx).1
      rw [List.getElem?_set_self hl] at hx
      cases hx
      exact ⟨p, vs, by rw [List.getElem?_set_self (by rw [s.len]; exact hl)], nt, hb, hp, h⟩
    · rw [List.getElem?_set_ne z] at hx ⊢
      exact s1.sl j x hx
  · by_cases zj : i = j
    · subst zj
      have hl : i < ρ.length := by simpa using (List.getElem?_eq_some_iff.mp h1).1
      rw [List.getElem?_set_self (by rw [s.len]; exact hl)] at h3
      cases h3
      rw [List.getElem?_set_ne n] at h2 h4
      exact other h2 h4
    · rw [List.getElem?_set_ne zj] at h1 h3
      by_cases zk : i = k
      · subst zk
        have hl : i < ρ.length := by simpa using (List.getElem?_eq_some_iff.mp h2).1
        rw [List.getElem?_set_self (by rw [s.len]; exact hl)] at h4
        cases h4
        exact other h1 h3
      · rw [List.getElem?_set_ne zk] at h2 h4
        exact s.ne j k p' ds' es n h1 h2 h3 h4
  · by_cases zj : i = j
    · subst zj
      have hl : i < ρ.length := by simpa using (List.getElem?_eq_some_iff.mp h1).1
      rw [List.getElem?_set_self (by rw [s.len]; exact hl)] at h2
      cases h2
      exact na
    · rw [List.getElem?_set_ne zj] at h1 h2
      exact s.fr j p' ds' h1 h2
/-- the list that a slot holds alone is changed -/
theorem Sl.mut (s : Sl T A σ B H ρ) {i : Nat} {p : Addr} {vs : List V} {ds ds0 : List PyData} (hi : ρ[i]? = some (.own ds0)) (hs : σ[i]? = some (some (.ref p))) (h : DtA B vs ds) : Sl T A σ B (upd H p (.lst vs)) (ρ.set i (.own ds)) := by
  obtain ⟨p0, vs0, e0, nt, nb, hp, _⟩ := s.sl i _ hi
  rw [hs] at e0
  cases e0
  have hl : i < ρ.length := (List.getElem?_eq_some_iff.mp hi).1
  have hne : ∀ a o, B a = some o → a ≠ p := fun a o q z => by subst z; rw [nb] at q; cases q
  have tp : Tp T B (upd H p (.lst vs)) := fun a c q => by
    obtain ⟨h1, ns, x, y, z, h2, h3, h4⟩ := s.t a c q
    exact ⟨h1, ns, x, y, z, by rw [upd_ne (fun z => nt c (by rw [← z]; exact q))]; exact h2, h3, h4⟩
  have eB : Same B (upd H p (.lst vs)) := fun a o q => by rw [upd_ne (hne a o q)]; exact s.e a o q
  have na := s.fr i p _ hi hs
  refine ⟨by simp [s.len], eB, tp, fun j x hx => ?_, fun j k p' ds' es n h1 h2 h3 h4 => ?_, fun j p' ds' h1 h2 => ?_, ⟨s.anc.b, eB, fun a o n q => ?_, s.anc.u, tp⟩⟩
  · by_cases z : i = j
    · subst z
      rw [List.getElem?_set_self hl] at hx
      cases hx
      exact ⟨p, vs, hs, nt, nb, upd_same, h⟩
    · rw [List.getElem?_set_ne z] at hx
      have q := s.sl j x hx
      cases x with
      | emp => trivial
      | val d => exact q
      | own es =>
        obtain ⟨p', vs', e', nt', nb', hp', r'⟩ := q
        have : p' ≠ p := fun z' => by
          subst z'
          exact s.ne i j p' ds0 es z hi hx hs e'
        exact ⟨p', vs', e', nt', nb', by rw [upd_ne this]; exact hp', r'⟩
      | tape => exact q
      | obj P => exact q
  · have own : ∀ {j : Nat} {es : List PyData}, (ρ.set i (.own ds))[j]? = some (.own es) → ∃ es', ρ[j]? = some (.own es') := fun {j es} q => by
      by_cases z : i = j
      · subst z; exact ⟨_, hi⟩
      · rw [List.getElem?_set_ne z] at q; exact ⟨_, q⟩
    obtain ⟨_, h1⟩ := own h1
    obtain ⟨_, h2⟩ := own h2
    exact s.ne j k p' _ _ n h1 h2 h3 h4
  · by_cases z : i = j
    · subst z
      exact s.fr i p' _ hi h2
    · rw [List.getElem?_set_ne z] at h1
      exact s.fr j p' _ h1 h2
  · have : a ≠ p := fun z => by subst z; rw [na] at q; cases q
    rw [upd_ne this]
    exact s.anc.k a o n q
/-- the list that a slot holds alone settles, for a while -/
theorem Sl.view (s : Sl T A σ B H ρ) {i : Nat} {ds : List PyData} (hi : ρ[i]? = some (.own ds)) : ∃ p B', B p = none ∧ Tn T p ∧ B' = upd B p (H p |>.getD (.lst [])) ∧ (∃ vs, H p = some (.lst vs)) ∧ Sl T A σ B' H (ρ.set i (.val (.list ds))) := by
  obtain ⟨p, vs, hs, nt, nb, hp, r⟩ := s.sl i _ hi
  have hl : i < ρ.length := (List.getElem?_eq_some_iff.mp hi).1
  have na := s.fr i p _ hi hs
  have st := s.anc.settle na hp nt
  have sB : Same B (upd B p (.lst vs)) := fun a o q => by rw [upd_ne (fun z => by subst z; rw [nb] at q; cases q)]; exact q
  refine ⟨p, upd B p (.lst vs), nb, nt, by rw [hp]; rfl, ⟨vs, hp⟩, ⟨by simp [s.len], st.e, st.t, fun j x hx => ?_, fun j k p' ds' es n h1 h2 h3 h4 => ?_, fun j p' ds' h1 h2 => ?_, st⟩⟩
  · by_cases z : i = j
    · subst z
      rw [List.getElem?_set_self hl] at hx
      cases hx
      exact ⟨_, hs, .lst upd_same (r.mono sB)⟩
    · rw [List.getElem?_set_ne z] at hx
      have q := s.sl j x hx
      cases x with
      | emp => trivial
      | val d => obtain ⟨v, e, q⟩ := q; exact ⟨v, e, q.mono sB⟩
      | own es =>
        obtain ⟨p', vs', e', nt', nb', hp', r'⟩ := q
        have : p' ≠ p := fun z' => by
          subst z'
          exact s.ne i j p' ds es z hi hx hs e'
        exact ⟨p', vs', e', nt', by rw [upd_ne this]; exact nb', hp', r'.mono sB⟩
      | tape => exact q
      | obj P => obtain ⟨v, e, q⟩ := q; exact ⟨v, e, fun B2 sm => q B2 (sB.trans sm)⟩
  · have nj : i ≠ j := fun z => by subst z; rw [List.getElem?_set_self hl] at h1; cases h1
    have nk : i ≠ k := fun z => by subst z; rw [List.getElem?_set_self hl] at h2; cases h2
    rw [List.getElem?_set_ne nj] at h1
    rw [List.getElem?_set_ne nk] at h2
    exact s.ne j k p' _ _ n h1 h2 h3 h4
  · have nj : i ≠ j := fun z => by subst z; rw [List.getElem?_set_self hl] at h1; cases h1
    rw [List.getElem?_set_ne nj] at h1
    exact s.fr j p' _ h1 h2
/-- behind such a while -/
theorem Step.unview {p : Addr} {vs : List V} {B2 H2 : Hp} (s : Same B H) (nb : B p = none) (nt : Tn T p) (hp : H p = some (.lst vs)) (tB : Tp T B H) (q : Step T (upd B p (.lst vs)) H B2 H2) : ∃ B3, Step T B H B3 H2 ∧ (∀ a xs, B2 a = some (.tup xs) → B3 a = some (.tup xs)) := by
  have h2 : B2 p = some (.lst vs) := q.b p _ upd_same
  have f : ∀ a, a ≠ p → (fun a => if a = p then none else B2 a) a = B2 a := fun a z => if_neg z
  refine ⟨fun a => if a = p then none else B2 a, ⟨fun a o h => ?_, fun a o h => ?_, q.k, fun a o h hb => ?_, fun a c h => ?_⟩, fun a xs h => ?_⟩
  · have : a ≠ p := fun z => by subst z; rw [nb] at h; cases h
    show (if a = p then none else B2 a) = _
    rw [if_neg this]
    exact q.b a o (by rw [upd_ne this]; exact h)
  · have h' : (if a = p then none else B2 a) = some o := h
    split at h'
    · cases h'
    · exact q.e a o h'
  · show (if a = p then none else B2 a) = none
    split
    · rfl
    · rename_i z
      exact q.u a o h (by rw [upd_ne z]; exact hb)
  · obtain ⟨h1, ns, x, y, z, e1, e2, e3⟩ := q.t a c h
    obtain ⟨_, ns', _, _, _, _, e2', _⟩ := tB a c h
    have nc : c ≠ p := fun z => by subst z; rw [nb] at e2'; cases e2'
    refine ⟨?_, ns, x, y, z, e1, by show (if c = p then none else B2 c) = _; rw [if_neg nc]; exact e2, e3⟩
    show (if a = p then none else B2 a) = none
    split
    · rfl
    · exact h1
  · have : a ≠ p := fun z => by subst z; rw [h2] at h; cases h
    show (if a = p then none else B2 a) = _
    rw [if_neg this]; exact h
/-- the list that a slot holds alone settles -/
theorem Sl.freeze (s : Sl T A σ B H ρ) {i : Nat} {ds : List PyData} (hi : ρ[i]? = some (.own ds)) : ∃ B', Step T A.1 A.2 B' H ∧ Sl T A σ B' H (ρ.set i (.val (.list ds))) ∧ Same B B' := by
  obtain ⟨p, vs, hs, nt, nb, hp, r⟩ := s.sl i _ hi
  have hl : i < ρ.length := (List.getElem?_eq_some_iff.mp hi).1
  have na := s.fr i p _ hi hs
  have st := s.anc.settle na hp nt
  have sB : Same B (upd B p (.lst vs)) := fun a o q => by rw [upd_ne (fun z => by subst z; rw [nb] at q; cases q)]; exact q
  refine ⟨upd B p (.lst vs), st, ⟨by simp [s.len], st.e, st.t, fun j x hx => ?_, fun j k p' ds' es n h1 h2 h3 h4 => ?_, fun j p' ds' h1 h2 => ?_, st⟩, sB⟩
  · by_cases z : i = j
    · subst z
      rw [List.getElem?_set_self hl] at hx
      cases hx
      exact ⟨_, hs, .lst upd_same (r.mono sB)⟩
    · rw [List.getElem?_set_ne z] at hx
      have q := s.sl j x hx
      cases x with
      | emp => trivial
      | val d => obtain ⟨v, e, q⟩ := q; exact ⟨v, e, q.mono sB⟩
      | own es =>
        obtain ⟨p', vs', e', nt', nb', hp', r'⟩ := q
        have : p' ≠ p := fun z' => by
          subst z'
          exact s.ne i j p' ds es z hi hx hs e'
        exact ⟨p', vs', e', nt', by rw [upd_ne this]; exact nb', hp', r'.mono sB⟩
      | tape => exact q
      | obj P => obtain ⟨v, e, q⟩ := q; exact ⟨v, e, fun B2 sm => q B2 (sB.trans sm)⟩
  · have nj : i ≠ j := fun z => by subst z; rw [List.getElem?_set_self hl] at h1; cases h1
    have nk : i ≠ k := fun z => by subst z; rw [List.getElem?_set_self hl] at h2; cases h2
    rw [List.getElem?_set_ne nj] at h1
    rw [List.getElem?_set_ne nk] at h2
    exact s.ne j k p' _ _ n h1 h2 h3 h4
  · have nj : i ≠ j := fun z => by subst z; rw [List.getElem?_set_self hl] at h1; cases h1
    rw [List.getElem?_set_ne nj] at h1
    exact s.fr j p' _ h1 h2
end
end DL
namespace DL
open PySem PySem.Spec PyProof.Rows L2

/-! ### contexts -/
structure Glb where
  P : Program
  w : World
  K : PySem.W.Frag
  mg : Str → Option Value
  base : Heap
def ksB (N : List Str) (sc : Scope) (ks : List (Option NameKind)) : Bool := (N.zip ks).all fun p => match p.2 with
  | none => true
  | some k => decide (sc.names.lookup p.1 = some k) && !(p.1 == ("__debug__" : Str)) && !(p.1 == ("__classdict__" : Str))
def gsB (gs : List Str) (sc : Scope) : Bool := gs.all fun x => decide (sc.names.lookup x = some .globalImplicit) && !(x == ("__debug__" : Str)) && !(x == ("__name__" : Str))
structure XOk (G : Glb) (N : List Str) (sc : Scope) (ks : List (Option NameKind)) (gs : List Str) (fc : Bool) (lv : Nat) (X : Cx) : Prop where
  eP : X.prog = G.P
  ew : X.w = G.w
  eK : X.K = G.K
  eg : X.mg = G.mg
  eb : X.base = G.base
  eN : X.N = N
  nd : N.Nodup
  calm : X.calm = true
  es : X.env.scope = sc
  kind : sc.kind = .function
  hk : ∀ (i : Nat) (x : Str) (k : NameKind), N[i]? = some x → ks[i]? = some (some k) → sc.names.lookup x = some k ∧ (x == ("__debug__" : Str)) = false ∧ (x == ("__classdict__" : Str)) = false
  hg : ∀ (j : Nat) (x : Str), gs[j]? = some x → sc.names.lookup x = some .globalImplicit ∧ (x == ("__debug__" : Str)) = false ∧ x ≠ "__name__"
  hf : fc = true → ∀ x, X.fn x = true
  room : Room lv X.A
theorem ksB_ok {N : List Str} {sc : Scope} {ks : List (Option NameKind)} (h : ksB N sc ks = true) (i : Nat) (x : Str) (k : NameKind) (h1 : N[i]? = some x) (h2 : ks[i]? = some (some k)) : sc.names.lookup x = some k ∧ (x == ("__debug__" : Str)) = false ∧ (x == ("__classdict__" : Str)) = false := by
  unfold ksB at h
  rw [List.all_eq_true] at h
  have q := h (x, some k) (List.mem_of_getElem? (i := i) (by rw [List.getElem?_zip_eq_some]; exact ⟨h1, h2⟩))
  simp only [Bool.and_eq_true, decide_eq_true_eq, Bool.not_eq_true'] at q
  exact ⟨q.1.1, q.1.2, q.2⟩
theorem gsB_ok {gs : List Str} {sc : Scope} (h : gsB gs sc = true) (j : Nat) (x : Str) (h1 : gs[j]? = some x) : sc.names.lookup x = some .globalImplicit ∧ (x == ("__debug__" : Str)) = false ∧ x ≠ "__name__" := by
  unfold gsB at h
  rw [List.all_eq_true] at h
  have q := h x (List.mem_of_getElem? h1)
  simp only [Bool.and_eq_true, decide_eq_true_eq, Bool.not_eq_true'] at q
  exact ⟨q.1.1, q.1.2, fun e => by have := q.2; rw [e] at this; simp at this⟩
def visK : NameKind → Bool
  | .local => true
  | .cell => true
  | .free => true
  | _ => false
def locK (fc : Bool) : NameKind → Bool
  | .local => true
  | .cell => fc
  | _ => false
section
variable {G : Glb} {N : List Str} {sc : Scope} {ks : List (Option NameKind)} {gs : List Str} {fc : Bool} {lv : Nat} {X : Cx}
theorem XOk.vis (h : XOk G N sc ks gs fc lv X) {i : Nat} {x : Str} {k : NameKind} (h1 : N[i]? = some x) (h2 : ks[i]? = some (some k)) (hk : visK k = true) : Vis X.env.scope x := by
  have q := (h.hk i x k h1 h2).1
  unfold Vis
  rw [h.es, q]
  cases k <;> simp [visK] at hk <;> simp
theorem XOk.loc (h : XOk G N sc ks gs fc lv X) {i : Nat} {x : Str} {k : NameKind} (h1 : N[i]? = some x) (h2 : ks[i]? = some (some k)) (hk : locK fc k = true)   : L2.Loc X.env.scope x ∧ (X.fn x = true ∨ X.env.scope.names.lookup x = some .local) := by
  have q := (h.hk i x k h1 h2).1
  unfold L2.Loc
  rw [h.es, q]
  cases k with
  | «local» => exact ⟨.inl rfl, .inr rfl⟩
  | cell => exact ⟨.inr rfl, .inl (h.hf hk x)⟩
  | _ => simp [locK] at hk
theorem XOk.gl (h : XOk G N sc ks gs fc lv X) {j : Nat} {x : Str} (h1 : gs[j]? = some x) : Gl X x := by
  have q := (h.hg j x h1).1
  show X.env.scope.names.lookup x = _
  rw [h.es]; exact q
/-- a def's body -/
theorem xok_fn {CX : CXT} {P : Program} {w : World} {K : PySem.W.Frag} {mg : Str → Option Value} {base : Heap} {ps : List Str} {qual : Str} {f : Addr} {cd : Value} {A : Around} {outer : List Env} {s : Shared} {H : Hp} {E : XK}
    (S : FnScope N ps sc) (hk : ksB N sc ks = true) (hg : gsB gs sc = true) (hr : Room lv (A.deeper (envOfC qual sc s.heap.objs.size f cd))) : XOk ⟨P, w, K, mg, base⟩ N sc ks gs true lv (cxOf CX P w K mg base N qual sc f cd A outer s H E) :=
  ⟨rfl, rfl, rfl, rfl, rfl, rfl, S.nd, rfl, rfl, S.kind, ksB_ok hk, gsB_ok hg, fun _ _ => rfl, hr⟩
theorem XOk.nox (h : XOk G N sc ks gs fc lv X) : XOk G N sc ks gs fc lv X.nox := ⟨h.eP, h.ew, h.eK, h.eg, h.eb, h.eN, h.nd, h.calm, h.es, h.kind, h.hk, h.hg, h.hf, h.room⟩
/-- a comprehension's block -/
theorem XOk.blk (h : XOk G N sc ks gs fc lv X) {scope : Scope} {ks' : List (Option NameKind)} {gs' : List Str} (hki : scope.kind = .function) (hk : ksB N (relS scope sc) ks' = true) (hg : gsB gs' (relS scope sc) = true) (s : Shared) (H : Hp) (C : Addr) (cl : List (Str × Addr)) (fp : List Addr) :
    XOk G N (relS scope sc) ks' gs' false lv (X.blk s H scope (compEnvC scope cl C X.env) fp) :=
  ⟨h.eP, h.ew, h.eK, h.eg, h.eb, h.eN, h.nd, h.calm, by show relS scope X.env.scope = _; rw [h.es], hki, ksB_ok hk, gsB_ok hg, (fun z => by cases z), h.room⟩
end

/-! ### the readings in themselves -/
def WE (X : Cx) (e : Expr) : TE := fun σ H Q => ∀ (pins : List (Addr × Obj)) (s : Shared), Inv X pins σ H s → wpAny (model X.prog X.w) X.A (eval e X.env) (EP X pins σ Q) X.xe s
def WT (X : Cx) (e : Expr) : TT := fun σ H Q => ∀ (pins : List (Addr × Obj)) (s : Shared), Inv X pins σ H s → wpAny (model X.prog X.w) X.A (isTrue e X.env (eval e X.env)) (TP X pins σ Q) X.xe s
def WW (X : Cx) (e : Expr) : TT := fun σ H Q => ∀ (whole : Sem Value) (pins : List (Addr × Obj)) (s : Shared), Inv X pins σ H s → wpAny (model X.prog X.w) X.A (isTrue e X.env whole) (TP X pins σ Q) X.xe s
def WA (X : Cx) (es : List Expr) : TA := fun σ H Q => ∀ (pos : Pos) (pins : List (Addr × Obj)) (s : Shared), Inv X pins σ H s → wpAny (model X.prog X.w) X.A (spliced (backTo pos (starEach es X.env))) (AP X pins σ Q) X.xe s
def WS (X : Cx) (st : Stmt) : TS := fun D σ H => ∀ (pins : List (Addr × Obj)) (s : Shared), Inv X pins σ H s → wpAny (model X.prog X.w) X.A (exec st X.env) (SP X pins D) X.xe s
def WSs (X : Cx) (st : List Stmt) : TS := fun D σ H => ∀ (pins : List (Addr × Obj)) (s : Shared), Inv X pins σ H s → wpAny (model X.prog X.w) X.A (execs st X.env) (SP X pins D) X.xe s
def WO (X : Cx) (f : Value → Value → Sem Value) : R2 := fun x y H Q => ∀ (pins : List (Addr × Obj)) (s : Shared) (σ : L2.St) (v u : Value), Inv X pins σ H s → RelV x v → RelV y u → wpAny (model X.prog X.w) X.A (f v u) (EP X pins σ Q) X.xe s
def WU (X : Cx) (f : Value → Sem Value) : V → Hp → VK → Prop := fun x H Q => ∀ (pins : List (Addr × Obj)) (s : Shared) (σ : L2.St) (v : Value), Inv X pins σ H s → RelV x v → wpAny (model X.prog X.w) X.A (f v) (EP X pins σ Q) X.xe s
def WC (X : Cx) (f : Value) : List V → Hp → VK → Prop := fun vs H Q => ∀ (pins : List (Addr × Obj)) (s : Shared) (σ : L2.St) (us : List Value), Inv X pins σ H s → Vals vs us → wpAny (model X.prog X.w) X.A (call f us) (EP X pins σ Q) X.xe s
section
variable {X : Cx} {e : Expr} {es : List Expr} {st : Stmt} {sts : List Stmt} {f : Value → Value → Sem Value} {g : Value → Sem Value} {c : Value} {σ : L2.St} {H : Hp}
theorem pe_we : PE X e (WE X e) := ⟨fun pins s σ H Q I h => h pins s I⟩
theorem pt_wt : PT X e (WT X e) := ⟨fun pins s σ H Q I h => h pins s I⟩
theorem pw_ww : PW X e (WW X e) := ⟨fun wh pins s σ H Q I h => h wh pins s I⟩
theorem pa_wa : PA X es (WA X es) := ⟨fun pos pins s σ H Q I h => h pos pins s I⟩
theorem ps_ws : PS X st (WS X st) := ⟨fun pins s σ H D I h => h pins s I⟩
theorem pss_wss : PSs X sts (WSs X sts) := ⟨fun pins s σ H D I h => h pins s I⟩
theorem op_wo : OpR X f (WO X f) := fun pins s σ H x y v u Q I rx ry h => h pins s σ v u I rx ry
theorem un_wu : UnR X g (WU X g) := fun pins s σ H x v Q I rx h => h pins s σ v I rx
theorem call_wc : CallR X c (WC X c) := fun pins s σ H xs us Q I r h => h pins s σ us I r
theorem we_of {t : TE} {Q : VK} (h : PE X e t) (q : t σ H Q) : WE X e σ H Q := fun pins s I => h.run pins s σ H Q I q
theorem wt_of {t : TT} {Q : Bool → Hp → Prop} (h : PT X e t) (q : t σ H Q) : WT X e σ H Q := fun pins s I => h.run pins s σ H Q I q
theorem ww_of {t : TT} {Q : Bool → Hp → Prop} (h : PW X e t) (q : t σ H Q) : WW X e σ H Q := fun wh pins s I => h.run wh pins s σ H Q I q
theorem wa_of {t : TA} {Q : List V → Hp → Prop} (h : PA X es t) (q : t σ H Q) : WA X es σ H Q := fun pos pins s I => h.run pos pins s σ H Q I q
theorem ws_of {t : TS} {D : Ends} (h : PS X st t) (q : t D σ H) : WS X st D σ H := fun pins s I => h.run pins s σ H D I q
theorem wss_of {t : TS} {D : Ends} (h : PSs X sts t) (q : t D σ H) : WSs X sts D σ H := fun pins s I => h.run pins s σ H D I q
theorem wo_of {r : R2} {x y : V} {Q : VK} (h : OpR X f r) (q : r x y H Q) : WO X f x y H Q := fun pins s σ v u I rx ry => h pins s σ H x y v u Q I rx ry q
theorem wu_of {r : V → Hp → VK → Prop} {x : V} {Q : VK} (h : UnR X g r) (q : r x H Q) : WU X g x H Q := fun pins s σ v I rx => h pins s σ H x v Q I rx q
theorem wc_of {r : List V → Hp → VK → Prop} {vs : List V} {Q : VK} (h : CallR X c r) (q : r vs H Q) : WC X c vs H Q := fun pins s σ us I rx => h pins s σ H vs us Q I rx q
end

/-! ### judgements -/
/-- values of arguments: data, or the tape -/
inductive Vr (T : Tape) (B : Hp) : List V → List S → Prop
  | nil : Vr T B [] []
  | val {v : V} {d : PyData} {vs : List V} {ss : List S} : Dt B v d → Vr T B vs ss → Vr T B (v :: vs) (.val d :: ss)
  | tape {p c : Addr} {vs : List V} {ss : List S} : T = some (p, c) → Vr T B vs ss → Vr T B (.ref p :: vs) (.tape :: ss)
theorem Vr.mono {T : Tape} {B B' : Hp} (e : Same B B') : ∀ {vs : List V} {ss : List S}, Vr T B vs ss → Vr T B' vs ss
  | _, _, .nil => .nil
  | _, _, .val a b => .val (a.mono e) (Vr.mono e b)
  | _, _, .tape a b => .tape a (Vr.mono e b)
/-- what follows a value -/
def Kv (T : Tape) (B H : Hp) (Φ : PyData → Prop) (Q : VK) : Prop := ∀ v d B' H', Step T B H B' H' → Dt B' v d → Φ d → Q v H'
def Ev (X : Cx) (T : Tape) (ρ : List S) (e : Expr) (Φ : PyData → Prop) : Prop := ∀ A σ B H Q, Sl T A σ B H ρ → Kv T B H Φ Q → WE X e σ H Q
def Et (X : Cx) (T : Tape) (ρ : List S) (e : Expr) (Φ : Bool → Prop) : Prop := ∀ A σ B H (Q : Bool → Hp → Prop), Sl T A σ B H ρ → (∀ b B' H', Step T B H B' H' → Φ b → Q b H') → WT X e σ H Q
def Ew (X : Cx) (T : Tape) (ρ : List S) (e : Expr) (Φ : Bool → Prop) : Prop := ∀ A σ B H (Q : Bool → Hp → Prop), Sl T A σ B H ρ → (∀ b B' H', Step T B H B' H' → Φ b → Q b H') → WW X e σ H Q
def Ea (X : Cx) (T : Tape) (ρ : List S) (es : List Expr) (Φ : List S → Prop) : Prop := ∀ A σ B H (Q : List V → Hp → Prop), Sl T A σ B H ρ → (∀ vs ss B' H', Step T B H B' H' → Vr T B' vs ss → Φ ss → Q vs H') → WA X es σ H Q
/-- operations on data -/
def OpD (X : Cx) (f : Value → Value → Sem Value) (x y : PyData) (Φ : PyData → Prop) : Prop := ∀ T B H v w Q, Same B H → Tp T B H → Dt B v x → Dt B w y → Kv T B H Φ Q → WO X f v w H Q
def UnD (X : Cx) (f : Value → Sem Value) (x : PyData) (Φ : PyData → Prop) : Prop := ∀ T B H v Q, Same B H → Tp T B H → Dt B v x → Kv T B H Φ Q → WU X f v H Q
def CD (X : Cx) (f : Value) (ss : List S) (Φ : PyData → Prop) : Prop := ∀ T B H vs Q, Same B H → Tp T B H → Vr T B vs ss → Kv T B H Φ Q → WC X f vs H Q

section
variable {G : Glb} {N : List Str} {sc : Scope} {ks : List (Option NameKind)} {gs : List Str} {fc : Bool} {lv : Nat} {X : Cx} {T : Tape} {ρ : List S} {Φ Ψ : PyData → Prop} {Θ : Bool → Prop} {pos : Pos}
theorem Kv.step {B H B1 H1 : Hp} {Q : VK} (k : Kv T B H Φ Q) (s : Step T B H B1 H1) : Kv T B1 H1 Φ Q := fun v d B' H' q => k v d B' H' (s.trans q)
/-- a value as it is -/
theorem Kv.now {B H : Hp} {Q : VK} {v : V} {d : PyData} (k : Kv T B H Φ Q) (e : Same B H) (t : Tp T B H) (r : Dt B v d) (q : Φ d) : Q v H := k v d B H (Step.refl e t) r q
/-- a new list, a new tuple -/
theorem Kv.lst {B H : Hp} {Q : VK} {p : Addr} {vs : List V} {ds : List PyData} (k : Kv T B H Φ Q) (e : Same B H) (t : Tp T B H) (hp : H p = none) (r : DtA B vs ds) (q : Φ (.list ds)) : Q (.ref p) (upd H p (.lst vs)) := by
  have s := Step.new (o := .lst vs) e t hp
  exact k _ _ _ _ s (.lst upd_same (r.mono s.b)) q
theorem Kv.tup {B H : Hp} {Q : VK} {p : Addr} {vs : List V} {ds : List PyData} (k : Kv T B H Φ Q) (e : Same B H) (t : Tp T B H) (hp : H p = none) (r : DtA B vs ds) (q : Φ (.tuple ds)) : Q (.ref p) (upd H p (.tup vs)) := by
  have s := Step.new (o := .tup vs) e t hp
  exact k _ _ _ _ s (.tup upd_same (r.mono s.b)) q
theorem Ev.mono {e : Expr} (h : Ev X T ρ e Φ) (q : ∀ d, Φ d → Ψ d) : Ev X T ρ e Ψ := fun A σ B H Q s k => h A σ B H Q s fun v d B' H' st r z => k v d B' H' st r (q d z)
theorem Et.mono {e : Expr} {Θ' : Bool → Prop} (h : Et X T ρ e Θ) (q : ∀ d, Θ d → Θ' d) : Et X T ρ e Θ' := fun A σ B H Q s k => h A σ B H Q s fun b B' H' st z => k b B' H' st (q b z)
/-- names -/
theorem ev_name (h : XOk G N sc ks gs fc lv X) (i : Nat) {x : Str} {k : NameKind} {d : PyData} (hr : ρ[i]? = some (.val d)) (q : Φ d) (hN : N[i]? = some x := by rfl) (hk : ks[i]? = some (some k) := by rfl) (hv : visK k = true := by rfl) : Ev X T ρ (.Name x pos) Φ := by
  intro A σ B H Q s kQ
  obtain ⟨v, e, r⟩ := s.val hr
  have hd := h.hk i x k hN hk
  exact we_of (pe_var (by rw [h.eN]; exact hN) (h.vis hN hk hv) hd.2.1 hd.2.2) ⟨v, e, kQ.now s.e s.t r q⟩
theorem ev_gstr (h : XOk G N sc ks gs fc lv X) (j : Nat) {x z : Str} (hm : ∃ t, G.mg x = some (.str z t)) (q : Φ (.str z)) (hg : gs[j]? = some x := by rfl) : Ev X T ρ (.Name x pos) Φ := by
  intro A σ B H Q s kQ
  obtain ⟨t, hm⟩ := hm
  exact we_of (pe_glob (v := .str z) (h.gl hg) (by rw [h.eg]; exact hm) (show RelV (.str z) (.str z t) from ⟨t, rfl⟩) (h.hg j x hg).2.1) (kQ.now s.e s.t (.str z) q)
theorem ev_int {i : Int} {j} (q : Φ (.int i)) : Ev X T ρ (.Constant (.int i) j pos) Φ := fun A σ B H Q s kQ => we_of pe_int (kQ.now s.e s.t (.int i) q)
theorem ev_str {x : Str} {j} (q : Φ (.str x)) : Ev X T ρ (.Constant (.str x) j pos) Φ := fun A σ B H Q s kQ => we_of pe_str (kQ.now s.e s.t (.str x) q)
theorem ev_bl {b : Bool} {j} (q : Φ (.bool b)) : Ev X T ρ (.Constant (.bool b) j pos) Φ := fun A σ B H Q s kQ => we_of pe_bl (kQ.now s.e s.t (.bl b) q)
theorem ev_non {j} (q : Φ .none) : Ev X T ρ (.Constant .none j pos) Φ := fun A σ B H Q s kQ => we_of pe_non (kQ.now s.e s.t .non q)
/-- a list of the frame's own is looked at -/
theorem ev_view {e : Expr} (i : Nat) {ds : List PyData} (hi : ρ[i]? = some (.own ds)) (h : Ev X T (ρ.set i (.val (.list ds))) e fun d => imm d = true ∧ Φ d) : Ev X T ρ e Φ := by
  intro A σ B H Q s kQ
  obtain ⟨p, B', nb, nt, rfl, ⟨vs, hp⟩, s'⟩ := s.view hi
  rw [hp] at s'
  refine h A σ _ H Q s' fun v d B2 H2 q r z => ?_
  obtain ⟨B3, q3, kt⟩ := Step.unview s.e nb nt hp s.t q
  exact kQ v d B3 H2 q3 (r.tups kt z.1) z.2
theorem et_view {e : Expr} (i : Nat) {ds : List PyData} (hi : ρ[i]? = some (.own ds)) (h : Et X T (ρ.set i (.val (.list ds))) e Θ) : Et X T ρ e Θ := by
  intro A σ B H Q s kQ
  obtain ⟨p, B', nb, nt, rfl, ⟨vs, hp⟩, s'⟩ := s.view hi
  rw [hp] at s'
  refine h A σ _ H Q s' fun b B2 H2 q z => ?_
  obtain ⟨B3, q3, kt⟩ := Step.unview s.e nb nt hp s.t q
  exact kQ b B3 H2 q3 z
/-- two operands -/
theorem ev_bin {a b : Expr} {op : Operator} (h : Ev X T ρ a fun x => Ev X T ρ b fun y => OpD X (binaryOp op) x y Φ) : Ev X T ρ (.BinOp a op b pos) Φ := by
  intro A σ B H Q s kQ
  refine we_of (pe_op op_wo pe_we pe_we) (h A σ B H _ s fun v x B1 H1 s1 r1 q1 => ?_)
  refine q1 A σ B1 H1 _ (s.step s1) fun w y B2 H2 s2 r2 q2 => ?_
  exact q2 T B2 H2 v w Q s2.e s2.t (r1.mono s2.b) r2 ((kQ.step s1).step s2)
theorem ev_un {a : Expr} {op : UnaryOp} (h : Ev X T ρ a fun x => UnD X (unaryOp op) x Φ) : Ev X T ρ (.UnaryOp op a pos) Φ := by
  intro A σ B H Q s kQ
  refine we_of (pe_un un_wu pe_we) (h A σ B H _ s fun v x B1 H1 s1 r1 q1 => ?_)
  exact q1 T B1 H1 v Q s1.e s1.t r1 (kQ.step s1)
theorem ev_cmp {a b : Expr} {op : CmpOp} (h : Ev X T ρ a fun x => Ev X T ρ b fun y => OpD X (compareOp op) x y Φ) (hm : behindInMarks op b = false := by first | exact nomark _ | rfl) : Ev X T ρ (.Compare a [op] [b] pos) Φ := by
  intro A σ B H Q s kQ
  refine we_of (pe_cmpR op_wo pe_we pe_we hm) (h A σ B H _ s fun v x B1 H1 s1 r1 q1 => ?_)
  refine q1 A σ B1 H1 _ (s.step s1) fun w y B2 H2 s2 r2 q2 => ?_
  exact q2 T B2 H2 v w Q s2.e s2.t (r1.mono s2.b) r2 ((kQ.step s1).step s2)
theorem et_cmp {a b : Expr} {op : CmpOp} (h : Ev X T ρ a fun x => Ev X T ρ b fun y => OpD X (compareOp op) x y fun d => ∃ k, d = .bool k ∧ Θ k) (hm : behindInMarks op b = false := by first | exact nomark _ | rfl) : Et X T ρ (.Compare a [op] [b] pos) Θ := by
  intro A σ B H Q s kQ
  refine wt_of (pt_cmpR op_wo pe_we pe_we hm) (h A σ B H _ s fun v x B1 H1 s1 r1 q1 => ?_)
  refine q1 A σ B1 H1 _ (s.step s1) fun w y B2 H2 s2 r2 q2 => ?_
  refine q2 T B2 H2 v w _ s2.e s2.t (r1.mono s2.b) r2 fun u d B3 H3 s3 r3 q3 => ?_
  obtain ⟨k, rfl, q3⟩ := q3
  cases r3
  exact ⟨k, rfl, kQ k B3 H3 ((s1.trans s2).trans s3) q3⟩
/-- a < b < c -/
theorem chain_aux {a b c : Expr} {op op' : CmpOp} {A : Hp × Hp} {σ : L2.St} {B H : Hp} {Q : VK} (s : Sl T A σ B H ρ)
    (h : Ev X T ρ a fun x => Ev X T ρ b fun y => OpD X (compareOp op) x y fun d => ∃ k, d = .bool k ∧ if k = true then Ev X T ρ c fun z => OpD X (compareOp op') y z Φ else Φ (.bool false)) (kQ : Kv T B H Φ Q) :
    tChain (WO X (compareOp op)) (WO X (compareOp op')) (WE X a) (WE X b) (WE X c) σ H Q := by
  refine h A σ B H _ s fun v x B1 H1 s1 r1 q1 => ?_
  refine q1 A σ B1 H1 _ (s.step s1) fun w y B2 H2 s2 r2 q2 => ?_
  refine q2 T B2 H2 v w _ s2.e s2.t (r1.mono s2.b) r2 fun u d B3 H3 s3 r3 q3 => ?_
  obtain ⟨k, rfl, q3⟩ := q3
  cases r3
  refine ⟨k, rfl, ?_⟩
  cases k with
  | true =>
    rw [if_pos rfl] at q3 ⊢
    refine q3 A σ B3 H3 _ (((s.step s1).step s2).step s3) fun t z B4 H4 s4 r4 q4 => ?_
    exact q4 T B4 H4 w t Q s4.e s4.t ((r2.mono s3.b).mono s4.b) r4 ((((kQ.step s1).step s2).step s3).step s4)
  | false =>
    rw [if_neg Bool.false_ne_true] at q3 ⊢
    exact (((kQ.step s1).step s2).step s3).now s3.e s3.t (.bl false) q3
theorem ev_chain {a b c : Expr} {op op' : CmpOp} (h : Ev X T ρ a fun x => Ev X T ρ b fun y => OpD X (compareOp op) x y fun d => ∃ k, d = .bool k ∧ if k = true then Ev X T ρ c fun z => OpD X (compareOp op') y z Φ else Φ (.bool false))
    (hm : lastMarks [op, op'] [b, c] = false := by with_unfolding_all rfl) : Ev X T ρ (.Compare a [op, op'] [b, c] pos) Φ := by
  intro A σ B H Q s kQ
  exact we_of (pe_chain op_wo op_wo pe_we pe_we pe_we hm) (chain_aux s h kQ)
theorem et_chain {a b c : Expr} {op op' : CmpOp} (h : Ev X T ρ a fun x => Ev X T ρ b fun y => OpD X (compareOp op) x y fun d => ∃ k, d = .bool k ∧ if k = true then Ev X T ρ c fun z => OpD X (compareOp op') y z (fun d => ∃ k, d = .bool k ∧ Θ k) else Θ false)
    (hm : lastMarks [op, op'] [b, c] = false := by with_unfolding_all rfl) : Et X T ρ (.Compare a [op, op'] [b, c] pos) Θ := by
  intro A σ B H Q s kQ
  refine wt_of (pt_chain op_wo op_wo pe_we pe_we pe_we hm) (chain_aux (Φ := fun d => ∃ k, d = .bool k ∧ Θ k) s (h.mono fun x h1 => h1.mono fun y h2 T B H v w Q a1 a2 a3 a4 a5 => h2 T B H v w Q a1 a2 a3 a4 fun u d B' H' a6 a7 ⟨k, e, a8⟩ => a5 u d B' H' a6 a7 ⟨k, e, ?_⟩) fun v d B' H' s1 r q => ?_)
  · cases k with
    | true => exact a8
    | false => rw [if_neg Bool.false_ne_true] at a8 ⊢; exact ⟨false, rfl, a8⟩
  · obtain ⟨k, rfl, q⟩ := q
    cases r
    exact ⟨k, rfl, kQ k B' H' s1 q⟩
/-- and, or, not -/
theorem et_w {e : Expr} (h : Ew X T ρ e Θ) : Et X T ρ e Θ := fun A σ B H Q s kQ => wt_of (PW.pt pw_ww) (h A σ B H Q s kQ)
theorem ew_and1 {a : Expr} (h : Et X T ρ a Θ) : Ew X T ρ (.BoolOp .And [a] pos) Θ := fun A σ B H Q s kQ => ww_of (pw_and1 pt_wt) (h A σ B H Q s kQ)
theorem ew_or1 {a : Expr} (h : Et X T ρ a Θ) : Ew X T ρ (.BoolOp .Or [a] pos) Θ := fun A σ B H Q s kQ => ww_of (pw_or1 pt_wt) (h A σ B H Q s kQ)
theorem ew_and {a b : Expr} {rest : List Expr} (h : Et X T ρ a fun k => if k = true then Ew X T ρ (.BoolOp .And (b :: rest) pos) Θ else Θ false) : Ew X T ρ (.BoolOp .And (a :: b :: rest) pos) Θ := by
  intro A σ B H Q s kQ
  refine ww_of (pw_and pt_wt pw_ww) (h A σ B H _ s fun k B1 H1 s1 q => ?_)
  cases k with
  | true =>
    rw [if_pos rfl] at q ⊢
    exact q A σ B1 H1 Q (s.step s1) fun b B2 H2 s2 z => kQ b B2 H2 (s1.trans s2) z
  | false =>
    rw [if_neg Bool.false_ne_true] at q ⊢
    exact kQ false B1 H1 s1 q
theorem ew_or {a b : Expr} {rest : List Expr} (h : Et X T ρ a fun k => if k = true then Θ true else Ew X T ρ (.BoolOp .Or (b :: rest) pos) Θ) : Ew X T ρ (.BoolOp .Or (a :: b :: rest) pos) Θ := by
  intro A σ B H Q s kQ
  refine ww_of (pw_or pt_wt pw_ww) (h A σ B H _ s fun k B1 H1 s1 q => ?_)
  cases k with
  | true =>
    rw [if_pos rfl] at q ⊢
    exact kQ true B1 H1 s1 q
  | false =>
    rw [if_neg Bool.false_ne_true] at q ⊢
    exact q A σ B1 H1 Q (s.step s1) fun b B2 H2 s2 z => kQ b B2 H2 (s1.trans s2) z
theorem et_not {a : Expr} (h : Et X T ρ a fun k => Θ (!k)) : Et X T ρ (.UnaryOp .Not a pos) Θ := fun A σ B H Q s kQ =>
  wt_of (pt_not pt_wt) (h A σ B H _ s fun b B' H' s1 q => kQ (!b) B' H' s1 q)
theorem et_val {e : Expr} (h : Ev X T ρ e fun d => ∃ k, d = .bool k ∧ Θ k) (he : ∀ whole, isTrue e X.env whole = (do let v ← whole; standAt e.pos; holding [v] (truthy v)) := by intro _; rfl) : Et X T ρ e Θ := by
  intro A σ B H Q s kQ
  refine wt_of (pt_val pe_we he) (h A σ B H _ s fun v d B' H' s1 r q => ?_)
  obtain ⟨k, rfl, q⟩ := q
  cases r
  exact ⟨k, rfl, kQ k B' H' s1 q⟩
/-- .. as values -/
theorem ev_one {op} {a : Expr} (h : Ev X T ρ a Φ) : Ev X T ρ (.BoolOp op [a] pos) Φ := fun A σ B H Q s kQ => we_of (pe_one pe_we) (h A σ B H Q s kQ)
theorem ev_and {a b : Expr} {rest : List Expr} (h : Ev X T ρ a fun d => ∃ k, d = .bool k ∧ if k = true then Ev X T ρ (.BoolOp .And (b :: rest) pos) Φ else Φ (.bool false)) : Ev X T ρ (.BoolOp .And (a :: b :: rest) pos) Φ := by
  intro A σ B H Q s kQ
  refine we_of (pe_and pe_we pe_we) (h A σ B H _ s fun v d B1 H1 s1 r q => ?_)
  obtain ⟨k, rfl, q⟩ := q
  cases r
  refine ⟨k, rfl, ?_⟩
  cases k with
  | true =>
    rw [if_pos rfl] at q ⊢
    exact q A σ B1 H1 Q (s.step s1) (kQ.step s1)
  | false =>
    rw [if_neg Bool.false_ne_true] at q ⊢
    exact (kQ.step s1).now s1.e s1.t (.bl false) q
theorem ev_or {a b : Expr} {rest : List Expr} (h : Ev X T ρ a fun d => ∃ k, d = .bool k ∧ if k = true then Φ (.bool true) else Ev X T ρ (.BoolOp .Or (b :: rest) pos) Φ) : Ev X T ρ (.BoolOp .Or (a :: b :: rest) pos) Φ := by
  intro A σ B H Q s kQ
  refine we_of (pe_or pe_we pe_we) (h A σ B H _ s fun v d B1 H1 s1 r q => ?_)
  obtain ⟨k, rfl, q⟩ := q
  cases r
  refine ⟨k, rfl, ?_⟩
  cases k with
  | true =>
    rw [if_pos rfl] at q ⊢
    exact (kQ.step s1).now s1.e s1.t (.bl true) q
  | false =>
    rw [if_neg Bool.false_ne_true] at q ⊢
    exact q A σ B1 H1 Q (s.step s1) (kQ.step s1)
theorem ev_notV {a : Expr} (h : Ev X T ρ a fun d => ∃ k, d = .bool k ∧ Φ (.bool (!k))) : Ev X T ρ (.UnaryOp .Not a pos) Φ := by
  intro A σ B H Q s kQ
  refine we_of (pe_not pe_we) (h A σ B H _ s fun v d B1 H1 s1 r q => ?_)
  obtain ⟨k, rfl, q⟩ := q
  cases r
  exact ⟨k, rfl, (kQ.step s1).now s1.e s1.t (.bl (!k)) q⟩
theorem ev_ifExp {c a b : Expr} (h : Et X T ρ c fun k => if k = true then Ev X T ρ a Φ else Ev X T ρ b Φ) : Ev X T ρ (.IfExp c a b pos) Φ := by
  intro A σ B H Q s kQ
  refine we_of (pe_ifExp pt_wt pe_we pe_we) (h A σ B H _ s fun k B1 H1 s1 q => ?_)
  cases k with
  | true =>
    rw [if_pos rfl] at q ⊢
    exact q A σ B1 H1 Q (s.step s1) (kQ.step s1)
  | false =>
    rw [if_neg Bool.false_ne_true] at q ⊢
    exact q A σ B1 H1 Q (s.step s1) (kQ.step s1)
/-- arguments, displays -/
theorem ea_nil {Φ : List S → Prop} (q : Φ []) : Ea X T ρ [] Φ := fun A σ B H Q s kQ => wa_of pa_nil (kQ [] [] B H s.good .nil q)
theorem ea_val {e : Expr} {es : List Expr} {Φ : List S → Prop} (h : Ev X T ρ e fun d => Ea X T ρ es fun ss => Φ (.val d :: ss)) (hs : starEach (e :: es) X.env = (false, eval e X.env) :: starEach es X.env := by rfl) : Ea X T ρ (e :: es) Φ := by
  intro A σ B H Q s kQ
  refine wa_of (pa_cons pe_we pa_wa hs) (h A σ B H _ s fun v d B1 H1 s1 r1 q1 => ?_)
  exact q1 A σ B1 H1 _ (s.step s1) fun vs ss B2 H2 s2 r2 q2 => kQ (v :: vs) (.val d :: ss) B2 H2 (s1.trans s2) (.val (r1.mono s2.b) r2) q2
theorem ea_tape (h : XOk G N sc ks gs fc lv X) (i : Nat) {x : Str} {k : NameKind} {es : List Expr} {Φ : List S → Prop} (hr : ρ[i]? = some .tape) (q : Ea X T ρ es fun ss => Φ (.tape :: ss)) (hN : N[i]? = some x := by rfl) (hk : ks[i]? = some (some k) := by rfl) (hv : visK k = true := by rfl)
    (hs : starEach (.Name x pos :: es) X.env = (false, eval (.Name x pos) X.env) :: starEach es X.env := by rfl) : Ea X T ρ (.Name x pos :: es) Φ := by
  intro A σ B H Q s kQ
  obtain ⟨p, c, e, r⟩ := s.sl i _ hr
  have hd := h.hk i x k hN hk
  refine wa_of (pa_cons (pe_var (by rw [h.eN]; exact hN) (h.vis hN hk hv) hd.2.1 hd.2.2) pa_wa hs) ⟨_, r, ?_⟩
  exact q A σ B H _ s fun vs ss B2 H2 s2 r2 q2 => kQ (.ref p :: vs) (.tape :: ss) B2 H2 s2 (.tape e r2) q2
def allV : List S → Option (List PyData)
  | [] => some []
  | .val d :: r => (allV r).map (d :: ·)
  | _ => none
theorem Vr.dta {B : Hp} : ∀ {vs : List V} {ss : List S} {ds : List PyData}, Vr T B vs ss → allV ss = some ds → DtA B vs ds
  | _, _, _, .nil, h => by simp [allV] at h; subst h; exact .nil
  | _, _, _, .val a b, h => by
    simp only [allV, Option.map_eq_some_iff] at h
    obtain ⟨ds, h1, rfl⟩ := h
    exact .cons a (Vr.dta b h1)
  | _, _, _, .tape _ _, h => by simp [allV] at h
theorem ev_tup {es : List Expr} {x1} (h : Ea X T ρ es fun ss => ∃ ds, allV ss = some ds ∧ ds.length ≤ 1000 ∧ Φ (.tuple ds)) : Ev X T ρ (.Tuple es x1 pos) Φ := by
  intro A σ B H Q s kQ
  refine we_of (pe_tup pa_wa) (h A σ B H _ s fun vs ss B1 H1 s1 r q => ?_)
  obtain ⟨ds, e, hl, q⟩ := q
  have r' := r.dta e
  exact ⟨Nat.le_trans (by rw [r'.length]; exact hl) (by decide), fun p hp => (kQ.step s1).tup s1.e s1.t hp r' q⟩
theorem ev_lst {es : List Expr} (h : Ea X T ρ es fun ss => ∃ ds, allV ss = some ds ∧ ds.length ≤ 1000 ∧ Φ (.list ds)) : Ev X T ρ (.List es pos) Φ := by
  intro A σ B H Q s kQ
  refine we_of (pe_lst pa_wa) (h A σ B H _ s fun vs ss B1 H1 s1 r q => ?_)
  obtain ⟨ds, e, hl, q⟩ := q
  have r' := r.dta e
  exact ⟨Nat.le_trans (by rw [r'.length]; exact hl) (by decide), fun p hp => (kQ.step s1).lst s1.e s1.t hp r' q⟩
end

/-! ### calls of the text's own defs -/
/-- a def's contract: from the arguments, what is wanted of its value -/
abbrev Con := List S → (PyData → Prop) → Prop
def spC (C : Con) : Sp := fun vs H Q _ => ∃ T B ss Φ, Same B H ∧ Tp T B H ∧ Vr T B vs ss ∧ C ss Φ ∧ Kv T B H Φ Q
structure Cal (G : Glb) (x : Str) (k : Nat) (C : Con) : Prop where
  ex : ∃ f fd ps, G.mg x = some (.ref f) ∧ PySem.W.keepIn G.K (.ref f) = true ∧ Binds G.K fd ps [] ∧ FnOk G.P G.w G.K G.mg G.base CX0 k f fd ps (spC C)
section
variable {G : Glb} {N : List Str} {sc : Scope} {ks : List (Option NameKind)} {gs : List Str} {fc : Bool} {lv : Nat} {X : Cx} {T : Tape} {ρ : List S} {Φ Ψ : PyData → Prop} {Θ : Bool → Prop} {p pos : Pos}
theorem ev_call (h : XOk G N sc ks gs fc lv X) {x : Str} {k : Nat} {C : Con} (c : Cal G x k C) (j : Nat) {e : Expr} {es : List Expr} (ha : Ea X T ρ (e :: es) fun ss => C ss Φ) (hg : gs[j]? = some x := by rfl) (hk : k ≤ lv := by decide)
    (he : starEach (e :: es) X.env = (false, eval e X.env) :: starEach es X.env := by rfl) (hpl : (backTo pos (starEach es X.env)).any (·.1) = false := by rfl) : Ev X T ρ (.Call (.Name x p) (e :: es) [] pos) Φ := by
  intro A σ B H Q s kQ
  obtain ⟨f, fd, ps, hm, hkp, hb, F⟩ := c.ex
  have F' : FnOk X.prog X.w X.K X.mg X.base CX0 k f fd ps (spC C) := by rw [h.eP, h.ew, h.eK, h.eg, h.eb]; exact F
  refine we_of (pe_call F' (h.room.mono hk) (h.gl hg) (by rw [h.eg]; exact hm) (by rw [h.eK]; exact hkp) (by rw [h.eK]; exact hb) .nil pass0 pa_wa (h.hg j x hg).2.1 he hpl) ?_
  show WA X (e :: es) σ H fun vs H1 => spC C (vs ++ []) H1 Q E0
  refine ha A σ B H _ s fun vs ss B1 H1 s1 r q => ?_
  rw [List.append_nil]
  exact ⟨T, B1, ss, Φ, s1.e, s1.t, r, q, kQ.step s1⟩
/-- a built-in function, a built-in class -/
theorem ev_callB (h : XOk G N sc ks gs fc lv X) {x : Str} {id : String} (j : Nat) {e : Expr} {es : List Expr} (hm : G.mg x = none) (hv : bootBuiltins x = some (.builtin id)) (ha : Ea X T ρ (e :: es) fun ss => CD X (.builtin id) ss Φ) (hg : gs[j]? = some x := by rfl)
    (he : starEach (e :: es) X.env = (false, eval e X.env) :: starEach es X.env := by rfl) (hpl : (backTo pos (starEach es X.env)).any (·.1) = false := by rfl) : Ev X T ρ (.Call (.Name x p) (e :: es) [] pos) Φ := by
  intro A σ B H Q s kQ
  have q := h.hg j x hg
  refine we_of (pe_callB call_wc (h.gl hg) (by rw [h.eg]; exact hm) hv pa_wa q.2.2 q.2.1 he hpl) (ha A σ B H _ s fun vs ss B1 H1 s1 r z => ?_)
  exact z T B1 H1 vs Q s1.e s1.t r (kQ.step s1)
theorem ev_callT (h : XOk G N sc ks gs fc lv X) {x : Str} {id : String} (j : Nat) {e : Expr} {es : List Expr} (hm : G.mg x = none) (hv : bootBuiltins x = some (.type id)) (ha : Ea X T ρ (e :: es) fun ss => CD X (.type id) ss Φ) (hg : gs[j]? = some x := by rfl)
    (he : starEach (e :: es) X.env = (false, eval e X.env) :: starEach es X.env := by rfl) (hpl : (backTo pos (starEach es X.env)).any (·.1) = false := by rfl) : Ev X T ρ (.Call (.Name x p) (e :: es) [] pos) Φ := by
  intro A σ B H Q s kQ
  have q := h.hg j x hg
  refine we_of (pe_callTy call_wc (h.gl hg) (by rw [h.eg]; exact hm) hv pa_wa q.2.2 q.2.1 he hpl) (ha A σ B H _ s fun vs ss B1 H1 s1 r z => ?_)
  exact z T B1 H1 vs Q s1.e s1.t r (kQ.step s1)
end
end DL
namespace DL
open PySem PySem.Spec PyProof.Rows L2

/-! ### another point to start from -/
section
variable {T : Tape} {A : Hp × Hp} {σ : L2.St} {B H B1 H1 : Hp} {ρ : List S}
open Classical in
theorem Sl.anchor (s : Sl T A σ B H ρ) : ∃ A' : Hp × Hp, A'.1 = B ∧ Sl T A' σ B H ρ ∧ (∀ σ' B' H' ρ', Sl T A' σ' B' H' ρ' → Sl T A σ' B' H' ρ') ∧ (∀ B' H', Step T A'.1 A'.2 B' H' → Step T A.1 A.2 B' H') := by
  let H0 : Hp := fun a => if (∃ (i : Nat) (ds : List PyData), ρ[i]? = some (.own ds) ∧ σ[i]? = some (some (.ref a))) then none else H a
  have own : ∀ {a : Addr}, (∃ (i : Nat) (ds : List PyData), ρ[i]? = some (.own ds) ∧ σ[i]? = some (some (.ref a))) → Tn T a ∧ B a = none ∧ A.2 a = none := fun {a} ⟨i, ds, h1, h2⟩ => by
    obtain ⟨p, vs, e, nt, nb, _⟩ := s.sl i _ h1
    rw [h2] at e
    cases e
    exact ⟨nt, nb, s.fr i a ds h1 h2⟩
  have h0 : ∀ {a : Addr} {o : HO}, H0 a = some o → H a = some o := fun {a o} h => by
    have h' : (if (∃ (i : Nat) (ds : List PyData), ρ[i]? = some (.own ds) ∧ σ[i]? = some (some (.ref a))) then none else H a) = some o := h
    split at h'
    · cases h'
    · exact h'
  have h1 : ∀ {a : Addr} {o : HO}, H a = some o → ¬ (∃ (i : Nat) (ds : List PyData), ρ[i]? = some (.own ds) ∧ σ[i]? = some (some (.ref a))) → H0 a = some o := fun {a o} h n => by
    show (if (∃ (i : Nat) (ds : List PyData), ρ[i]? = some (.own ds) ∧ σ[i]? = some (some (.ref a))) then none else H a) = some o
    rw [if_neg n]; exact h
  have eB : Same B H0 := fun a o h => h1 (s.e a o h) fun z => by rw [(own z).2.1] at h; cases h
  have tB : Tp T B H0 := fun p c h => by
    obtain ⟨a1, ns, x, y, z, a2, a3, a4⟩ := s.t p c h
    exact ⟨a1, ns, x, y, z, h1 a2 fun z => (own z).1 c h, a3, a4⟩
  have to0 : Step T A.1 A.2 B H0 := ⟨s.anc.b, eB, (fun p o n h => h1 (s.anc.k p o n h) (fun z => by rw [(own z).2.2] at h; cases h)), s.anc.u, tB⟩
  refine ⟨(B, H0), rfl, ⟨s.len, s.e, s.t, s.sl, s.ne, fun i p ds h2 h3 => ?_, ⟨Same.refl _, s.e, fun p o _ h => h0 h, fun p o h n => n, s.t⟩⟩, fun σ' B' H' ρ' z => ⟨z.len, z.e, z.t, z.sl, z.ne, fun i p ds h2 h3 => ?_, to0.trans z.anc⟩, fun B' H' z => to0.trans z⟩
  · show (if (∃ (i : Nat) (ds : List PyData), ρ[i]? = some (.own ds) ∧ σ[i]? = some (some (.ref p))) then none else H p) = none
    rw [if_pos ⟨i, ds, h2, h3⟩]
  · obtain ⟨p', vs, e, nt, _⟩ := z.sl i _ h2
    rw [h3] at e
    cases e
    have z0 : H0 p = none := z.fr i p ds h2 h3
    cases e : A.2 p with
    | none => rfl
    | some o => rw [to0.k p o nt e] at z0; cases z0
theorem Sl.pre {x : Option V} {u : S} (s : Sl T A (σ ++ [x]) B H (ρ ++ [u])) : Sl T A σ B H ρ := by
  have hl : σ.length = ρ.length := by have := s.len; simp at this; exact this
  have f : ∀ {i : Nat} {y : S}, ρ[i]? = some y → (ρ ++ [u])[i]? = some y ∧ (σ ++ [x])[i]? = σ[i]? := fun {i y} h => by
    have hi := (List.getElem?_eq_some_iff.mp h).1
    exact ⟨by rw [List.getElem?_append_left hi]; exact h, by rw [List.getElem?_append_left (by rw [hl]; exact hi)]⟩
  refine ⟨hl, s.e, s.t, fun i y h => ?_, fun i j p ds es n h1 h2 h3 h4 => ?_, fun i p ds h1 h2 => ?_, s.anc⟩
  · have q := s.sl i y (f h).1
    rw [(f h).2] at q
    exact q
  · exact s.ne i j p ds es n (f h1).1 (f h2).1 (by rw [(f h1).2]; exact h3) (by rw [(f h2).2]; exact h4)
  · exact s.fr i p ds (f h1).1 (by rw [(f h1).2]; exact h2)
/-- a new list beside the slots -/
theorem Sl.push (s : Sl T A σ B H ρ) {p : Addr} (hn : H p = none) : Sl T A (σ ++ [some (.ref p)]) B (upd H p (.lst [])) (ρ ++ [.own []]) := by
  have q := Step.newO (o := .lst []) s.e s.t hn
  have s1 := s.step q
  have hb : B p = none := s.e.free hn
  have f : ∀ {i : Nat} {y : S}, (ρ ++ [.own []])[i]? = some y → (ρ[i]? = some y ∧ (σ ++ [some (.ref p)])[i]? = σ[i]? ∧ i < ρ.length) ∨ (i = ρ.length ∧ y = .own [] ∧ (σ ++ [some (.ref p)])[i]? = some (some (.ref p))) := fun {i y} h => by
    by_cases hi : i < ρ.length
    · exact .inl ⟨by rw [List.getElem?_append_left hi] at h; exact h, by rw [List.getElem?_append_left (by rw [s.len]; exact hi)], hi⟩
    · have hl : i < (ρ ++ [S.own []]).length := (List.getElem?_eq_some_iff.mp h).1
      simp at hl
      have e : i = ρ.length := by omega
      subst e
      rw [List.getElem?_append_right (Nat.le_refl _)] at h
      simp at h
      exact .inr ⟨rfl, h.symm, by rw [← s.len, List.getElem?_append_right (Nat.le_refl _)]; simp⟩
  have notold : ∀ {i : Nat} {ds : List PyData}, ρ[i]? = some (.own ds) → σ[i]? ≠ some (some (.ref p)) := fun {i ds} h1 h2 => by
    obtain ⟨p', vs, e, _, _, hp, _⟩ := s.sl i _ h1
    rw [h2] at e; cases e
    rw [hn] at hp; cases hp
  refine ⟨by simp [s.len], s1.e, s1.t, fun i y h => ?_, fun i j p' ds es n h1 h2 h3 h4 => ?_, fun i p' ds h1 h2 => ?_, s1.anc⟩
  · rcases f h with ⟨h1, h2, _⟩ | ⟨h1, rfl, h2⟩
    · rw [h2]; exact s1.sl i y h1
    · rw [h2]; exact ⟨p, [], rfl, Tp.ne s.t hn, hb, upd_same, .nil⟩
  · rcases f h1 with ⟨a1, a2, _⟩ | ⟨a1, _, a2⟩ <;> rcases f h2 with ⟨b1, b2, _⟩ | ⟨b1, _, b2⟩
    · rw [a2] at h3; rw [b2] at h4
      exact s.ne i j p' _ _ n a1 b1 h3 h4
    · rw [a2] at h3; rw [b2] at h4
      cases h4
      exact notold a1 h3
    · rw [a2] at h3; rw [b2] at h4
      cases h3
      exact notold b1 h4
    · exact n (a1.trans b1.symm)
  · rcases f h1 with ⟨a1, a2, _⟩ | ⟨a1, _, a2⟩
    · rw [a2] at h2; exact s.fr i p' ds a1 h2
    · rw [a2] at h2
      cases h2
      cases e : A.2 p with
      | none => rfl
      | some o => rw [s.anc.k p o (Tp.ne s.t hn) e] at hn; cases hn
theorem Step.mutO {p : Addr} {o : HO} {B0 H0 : Hp} (s : Step T B0 H0 B H) (hn : H0 p = none) (hb : B p = none) (ht : Tn T p) : Step T B0 H0 B (upd H p o) := by
  refine ⟨s.b, fun a u h => ?_, fun a u n h => ?_, s.u, fun a c h => ?_⟩
  · rw [upd_ne (fun z => by subst z; rw [hb] at h; cases h)]; exact s.e a u h
  · rw [upd_ne (ne_of_none h hn)]; exact s.k a u n h
  · obtain ⟨h1, ns, x, y, z, h2, h3, h4⟩ := s.t a c h
    exact ⟨h1, ns, x, y, z, by rw [upd_ne (fun z => ht c (by rw [← z]; exact h))]; exact h2, h3, h4⟩
end

/-! ### targets -/
theorem wipe_set {i : Nat} {x : Option V} : ∀ {vs : List Nat} {σ : L2.St}, i ∈ vs → wipe (σ.set i x) vs = wipe σ vs
  | [], _, h => by simp at h
  | v :: vs, σ, h => by
    unfold wipe
    by_cases hi : i ∈ vs
    · rw [wipe_set hi]
    · have e : i = v := by
        rcases List.mem_cons.mp h with h | h
        · exact h
        · exact absurd h hi
      subst e
      have comm : ∀ (us : List Nat) (τ : L2.St), i ∉ us → wipe (τ.set i x) us = (wipe τ us).set i x := by
        intro us
        induction us with
        | nil => intro τ _; rfl
        | cons u us ih =>
          intro τ hu
          rw [List.mem_cons, not_or] at hu
          unfold wipe
          rw [ih τ hu.2, List.set_comm _ _ hu.1]
      rw [comm vs σ hi, List.set_set]
theorem wipe_wipe {σ : L2.St} : ∀ {vs us : List Nat}, (∀ v ∈ us, v ∈ vs) → wipe (wipe σ us) vs = wipe σ vs
  | vs, [], _ => rfl
  | vs, u :: us, h => by
    show wipe ((wipe σ us).set u none) vs = _
    rw [wipe_set (h u (List.mem_cons_self ..))]
    exact wipe_wipe fun v hv => h v (List.mem_cons_of_mem _ hv)
def wipeS (ρ : List S) : List Nat → List S
  | [] => ρ
  | v :: vs => (wipeS ρ vs).set v .emp
theorem Sl.wipe {T : Tape} {A : Hp × Hp} {σ : L2.St} {B H : Hp} {ρ : List S} (s : Sl T A σ B H ρ) : ∀ vs : List Nat, Sl T A (L2.wipe σ vs) B H (wipeS ρ vs)
  | [] => s
  | _ :: vs => (Sl.wipe s vs).forget

def WG (X : Cx) (tg : Expr) : TG := fun v σ H Q => ∀ (pins : List (Addr × Obj)) (s : Shared) (u : Value), Inv X pins σ H s → RelV v u → wpAny (model X.prog X.w) X.A (assign tg X.env u) (fun _ s' => ∃ σ' H', Inv X pins σ' H' s' ∧ Q σ' H') X.xe s
theorem pg_wg {X : Cx} {tg : Expr} : PG X tg (WG X tg) := ⟨fun pins s σ H v u Q I r h => h pins s u I r⟩
theorem wg_of {X : Cx} {tg : Expr} {g : TG} {v : V} {σ : L2.St} {H : Hp} {Q : L2.St → Hp → Prop} (h : PG X tg g) (q : g v σ H Q) : WG X tg v σ H Q := fun pins s u I r => h.run pins s σ H v u Q I r q
/-- a target takes a datum; is: the slots that it stores -/
def Tg (X : Cx) (T : Tape) (tg : Expr) (is : List Nat) (d : PyData) (ρ : List S) (Φ : List S → Prop) : Prop := ∀ A σ B H v Q, Sl T A σ B H ρ → Dt B v d → (∀ σ' ρ', Sl T A σ' B H ρ' → Φ ρ' → (∀ vs, (∀ i ∈ is, i ∈ vs) → wipe σ' vs = wipe σ vs) → Q σ' H) → WG X tg v σ H Q
section
variable {G : Glb} {N : List Str} {sc : Scope} {ks : List (Option NameKind)} {gs : List Str} {fc : Bool} {lv : Nat} {X : Cx} {T : Tape} {ρ : List S} {pos : Pos}
theorem tg_name (h : XOk G N sc ks gs fc lv X) (i : Nat) {x : Str} {k : NameKind} {d : PyData} {Φ : List S → Prop} (q : Φ (ρ.set i (.val d))) (hN : N[i]? = some x := by rfl) (hk : ks[i]? = some (some k) := by rfl) (hv : locK fc k = true := by rfl) : Tg X T (.Name x pos) [i] d ρ Φ := by
  intro A σ B H v Q s r kQ
  have l := h.loc hN hk hv
  refine wg_of (pg_name (by rw [h.eN]; exact h.nd) (by rw [h.eN]; exact hN) l.1 l.2) ?_
  exact kQ _ _ (s.set r) q fun vs hv => wipe_set (hv i (by simp))
theorem names2 {x y : Str} {px py : Pos} {env : Env} : (assignEach [.Name x px, .Name y py] env).length = 2 ∧ (assignEach [.Name x px, .Name y py] env).findIdx? (·.1) = none := ⟨rfl, rfl⟩
theorem pgs2 (h : XOk G N sc ks gs fc lv X) {i j : Nat} {x y : Str} {k k' : NameKind} {px py : Pos} (hN : N[i]? = some x) (hk : ks[i]? = some (some k)) (hv : locK fc k = true) (hN' : N[j]? = some y) (hk' : ks[j]? = some (some k')) (hv' : locK fc k' = true) :
    PGs X [.Name x px, .Name y py] (gCons (gName i) (gCons (gName j) gNil)) := by
  have l := h.loc hN hk hv
  have l' := h.loc hN' hk' hv'
  exact pgs_cons (pg_name (by rw [h.eN]; exact h.nd) (by rw [h.eN]; exact hN) l.1 l.2) (pgs_cons (pg_name (by rw [h.eN]; exact h.nd) (by rw [h.eN]; exact hN') l'.1 l'.2) pgs_nil)
/-- a, b = a pair -/
theorem tg_pair (h : XOk G N sc ks gs fc lv X) (i j : Nat) {x y : Str} {k k' : NameKind} {c d : PyData} {px py : Pos} {kk : Nat} {Φ : List S → Prop} (q : Φ ((ρ.set i (.val c)).set j (.val d))) (hN : N[i]? = some x := by rfl) (hk : ks[i]? = some (some k) := by rfl) (hv : locK fc k = true := by rfl)
    (hN' : N[j]? = some y := by rfl) (hk' : ks[j]? = some (some k') := by rfl) (hv' : locK fc k' = true := by rfl) : Tg X T (.Tuple [.Name x px, .Name y py] kk pos) [i, j] (.tuple [c, d]) ρ Φ := by
  intro A σ B H v Q s r kQ
  refine wg_of (pg_tup h.calm (pgs2 h hN hk hv hN' hk' hv')) ?_
  cases r with
  | tup ha hd =>
    rename_i a xs
    cases hd with
    | cons r1 hd =>
      cases hd with
      | cons r2 hd =>
        cases hd
        refine ⟨a, _, rfl, SqT.of (s.e _ _ ha), rfl, _, _, rfl, _, _, rfl, rfl, ?_⟩
        refine kQ _ _ ((s.set r1).set r2) q fun vs hv => ?_
        rw [wipe_set (hv j (by simp)), wipe_set (hv i (by simp))]
theorem tg_pairL (h : XOk G N sc ks gs fc lv X) (i j : Nat) {x y : Str} {k k' : NameKind} {c d : PyData} {px py : Pos} {kk : Nat} {Φ : List S → Prop} (q : Φ ((ρ.set i (.val c)).set j (.val d))) (hN : N[i]? = some x := by rfl) (hk : ks[i]? = some (some k) := by rfl) (hv : locK fc k = true := by rfl)
    (hN' : N[j]? = some y := by rfl) (hk' : ks[j]? = some (some k') := by rfl) (hv' : locK fc k' = true := by rfl) : Tg X T (.Tuple [.Name x px, .Name y py] kk pos) [i, j] (.list [c, d]) ρ Φ := by
  intro A σ B H v Q s r kQ
  refine wg_of (pg_lst h.calm (pgs2 h hN hk hv hN' hk' hv')) ?_
  cases r with
  | lst ha hd =>
    rename_i a xs
    cases hd with
    | cons r1 hd =>
      cases hd with
      | cons r2 hd =>
        cases hd
        refine ⟨a, _, rfl, SqL.of (s.e _ _ ha), rfl, _, _, rfl, _, _, rfl, rfl, ?_⟩
        refine kQ _ _ ((s.set r1).set r2) q fun vs hv => ?_
        rw [wipe_set (hv j (by simp)), wipe_set (hv i (by simp))]
end

/-! ### what is walked -/
structure IsW (T : Tape) (B0 : Hp) (J : It) (xs : List PyData) : Prop where
  go : ∀ i B H, Same B0 B → Same B H → i < xs.length → J.go i H
  st : ∀ B H, Same B0 B → Same B H → J.stop xs.length H
  yl : ∀ i B H x H3, Same B0 B → Same B H → Tp T B H → i < xs.length → J.yld i H x H3 → ∃ B3 d, Step T B H B3 H3 ∧ xs[i]? = some d ∧ Dt B3 x d
def WI (X : Cx) (tg iter : Expr) : TI := fun σ H R => ∀ (pins : List (Addr × Obj)) (s : Shared), Inv X pins σ H s → wpAny (model X.prog X.w) X.A (eval iter X.env) (fun v s1 => wpAny (model X.prog X.w) X.A (pyIter v) (PIE X pins σ tg R) X.xe s1) X.xe s
theorem pi_wi {X : Cx} {tg iter : Expr} : PI X tg iter (WI X tg iter) := ⟨fun pins s σ H R I h => h pins s I⟩
theorem wi_of {X : Cx} {tg iter : Expr} {wi : TI} {σ : L2.St} {H : Hp} {R : It → Hp → Prop} (h : PI X tg iter wi) (q : wi σ H R) : WI X tg iter σ H R := fun pins s I => h.run pins s σ H R I q
def Ei (X : Cx) (T : Tape) (ρ : List S) (tg iter : Expr) (Ψ : List PyData → Prop) : Prop := ∀ A σ B H R, Sl T A σ B H ρ → (∀ J xs B' H', Step T B H B' H' → IsW T B' J xs → Ψ xs → R J H') → WI X tg iter σ H R
section
variable {G : Glb} {N : List Str} {sc : Scope} {ks : List (Option NameKind)} {gs : List Str} {fc : Bool} {lv : Nat} {X : Cx} {T : Tape} {ρ : List S} {p pos : Pos} {Ψ : List PyData → Prop} {tg e : Expr}
theorem isw_of {B0 : Hp} {J : It} {n : Nat} {Gd : Hp → Prop} {Y : Nat → Hp → V → Hp → Prop} {xs : List PyData} (w : Walk J n Gd Y) (hn : xs.length = n) (hg : ∀ B H, Same B0 B → Same B H → Gd H)
    (hy : ∀ i B H x H3, Same B0 B → Same B H → Tp T B H → i < xs.length → Y i H x H3 → ∃ B3 d, Step T B H B3 H3 ∧ xs[i]? = some d ∧ Dt B3 x d) : IsW T B0 J xs := by
  subst hn
  exact ⟨fun i B H a b hi => w.goes i H hi (hg B H a b), fun B H a b => w.stops H (hg B H a b), fun i B H x H3 a b t hi y => hy i B H x H3 a b t hi (w.yields i H x H3 hi (hg B H a b) y)⟩
/-- a list, a tuple -/
theorem ei_list (h : Ev X T ρ e fun d => ∃ xs, d = .list xs ∧ Ψ xs) : Ei X T ρ tg e Ψ := by
  intro A σ B H R s kR
  refine wi_of (pi_list pe_we) (h A σ B H _ s fun v d B1 H1 s1 r q => ?_)
  obtain ⟨xs, rfl, q⟩ := q
  cases r with
  | lst ha hd =>
    rename_i a vs
    refine ⟨a, rfl, ⟨vs, SqL.of (s1.e _ _ ha)⟩, kR _ xs B1 H1 s1 (isw_of walk_list hd.length.symm (fun B2 H2 a1 a2 => SqL.of (a2 _ _ (a1 _ _ ha))) fun i B2 H2 x H3 a1 a2 t hi y => ?_) q⟩
    obtain ⟨rfl, y⟩ := y
    obtain ⟨d, e1, r1⟩ := hd.get y
    exact ⟨B2, d, Step.refl a2 t, e1, r1.mono a1⟩
theorem ei_tup (h : Ev X T ρ e fun d => ∃ xs, d = .tuple xs ∧ Ψ xs) : Ei X T ρ tg e Ψ := by
  intro A σ B H R s kR
  refine wi_of (pi_tup pe_we) (h A σ B H _ s fun v d B1 H1 s1 r q => ?_)
  obtain ⟨xs, rfl, q⟩ := q
  cases r with
  | tup ha hd =>
    rename_i a vs
    refine ⟨a, rfl, ⟨vs, SqT.of (s1.e _ _ ha)⟩, kR _ xs B1 H1 s1 (isw_of walk_tup hd.length.symm (fun B2 H2 a1 a2 => SqT.of (a2 _ _ (a1 _ _ ha))) fun i B2 H2 x H3 a1 a2 t hi y => ?_) q⟩
    obtain ⟨rfl, y⟩ := y
    obtain ⟨d, e1, r1⟩ := hd.get y
    exact ⟨B2, d, Step.refl a2 t, e1, r1.mono a1⟩
/-- a text, sign by sign -/
theorem ei_str (h : Ev X T ρ e fun d => ∃ z : Str, d = .str z ∧ Ψ (z.cps.toList.map fun c => .str ⟨#[c]⟩)) : Ei X T ρ tg e Ψ := by
  intro A σ B H R s kR
  refine wi_of (pi_str pe_we) (h A σ B H _ s fun v d B1 H1 s1 r q => ?_)
  obtain ⟨z, rfl, q⟩ := q
  cases r
  refine ⟨z, rfl, kR _ _ B1 H1 s1 (isw_of walk_str (by simp) (fun _ _ _ _ => trivial) fun i B2 H2 x H3 a1 a2 t hi y => ?_) q⟩
  obtain ⟨rfl, c, e1, rfl⟩ := y
  refine ⟨B2, .str ⟨#[c]⟩, Step.refl a2 t, ?_, .str _⟩
  rw [List.getElem?_map, Array.getElem?_toList, e1]
  rfl
def rng (lo : Int) (n : Nat) : List PyData := (List.range n).map fun i : Nat => .int (lo + i)
theorem isw_range {B0 : Hp} {lo : Int} {n : Nat} : IsW T B0 (Itr lo n) (rng lo n) := by
  refine isw_of walk_range (by simp [rng]) (fun _ _ _ _ => trivial) fun i B2 H2 x H3 a1 a2 t hi y => ?_
  obtain ⟨rfl, rfl⟩ := y
  refine ⟨B2, .int (lo + i), Step.refl a2 t, ?_, .int _⟩
  simp [rng] at hi
  simp [rng, hi]
theorem ei_range1 (h : XOk G N sc ks gs fc lv X) (j : Nat) (hm : G.mg "range" = none) {a : Expr} (ha : Ev X T ρ a fun d => ∃ n : Int, d = .int n ∧ n < 2 ^ 62 ∧ -(2 ^ 62) ≤ n ∧ Ψ (rng 0 n.toNat)) (hg : gs[j]? = some ("range" : Str) := by rfl)
    (hs : starEach [a] X.env = [(false, eval a X.env)] := by rfl) : Ei X T ρ tg (.Call (.Name "range" p) [a] [] pos) Ψ := by
  intro A σ B H R s kR
  refine wi_of (pi_range1 (h.gl hg) (by rw [h.eg]; exact hm) (pa_cons pe_we pa_nil (by exact hs)) hs) (ha A σ B H _ s fun v d B1 H1 s1 r q => ?_)
  obtain ⟨n, rfl, h1, h2, q⟩ := q
  cases r
  exact ⟨n, rfl, h2, h1, kR _ _ B1 H1 s1 isw_range q⟩
theorem ei_range2 (h : XOk G N sc ks gs fc lv X) (j : Nat) (hm : G.mg "range" = none) {a b : Expr} (ha : Ev X T ρ a fun c => Ev X T ρ b fun d => ∃ m n : Int, c = .int m ∧ d = .int n ∧ (-(2 ^ 62) ≤ m ∧ m < 2 ^ 62 ∧ -(2 ^ 62) ≤ n ∧ n < 2 ^ 62) ∧ Ψ (rng m (n - m).toNat)) (hg : gs[j]? = some ("range" : Str) := by rfl)
    (hs : starEach [a, b] X.env = [(false, eval a X.env), (false, eval b X.env)] := by rfl) (hs2 : starEach [b] X.env = [(false, eval b X.env)] := by rfl) : Ei X T ρ tg (.Call (.Name "range" p) [a, b] [] pos) Ψ := by
  intro A σ B H R s kR
  refine wi_of (pi_range2 (h.gl hg) (by rw [h.eg]; exact hm) (pa_cons pe_we (pa_cons pe_we pa_nil (by exact hs2)) (by rw [hs, hs2])) hs hs2) (ha A σ B H _ s fun v c B1 H1 s1 r1 q1 => q1 A σ B1 H1 _ (s.step s1) fun w d B2 H2 s2 r2 q => ?_)
  obtain ⟨m, n, rfl, rfl, hb, q⟩ := q
  cases r1
  cases r2
  exact ⟨m, n, rfl, hb, kR _ _ B2 H2 (s1.trans s2) isw_range q⟩
def enumD (xs : List PyData) : List PyData := (List.range xs.length).zipWith (fun i x => .tuple [.int (i : Nat), x]) xs
theorem enumD_get {xs : List PyData} {i : Nat} {d : PyData} (h : xs[i]? = some d) : (enumD xs)[i]? = some (.tuple [.int (i : Nat), d]) := by
  have hi := (List.getElem?_eq_some_iff.mp h).1
  unfold enumD
  rw [List.getElem?_zipWith, h, List.getElem?_range hi]
theorem enumD_length {xs : List PyData} : (enumD xs).length = xs.length := by simp [enumD]
/-- for i, x in enumerate(a list) -/
theorem ei_enumL (h : XOk G N sc ks gs fc lv X) (j : Nat) (hm : G.mg "enumerate" = none) {a : Expr} {elts : List Expr} {kk : Nat} {tpos : Pos} (ha : Ev X T ρ a fun d => ∃ xs, d = .list xs ∧ Ψ (enumD xs)) (hg : gs[j]? = some ("enumerate" : Str) := by rfl)
    (hs : starEach [a] X.env = [(false, eval a X.env)] := by rfl) : Ei X T ρ (.Tuple elts kk tpos) (.Call (.Name "enumerate" p) [a] [] pos) Ψ := by
  intro A σ B H R s kR
  refine wi_of (pi_enum (h.gl hg) (by rw [h.eg]; exact hm) (pa_cons pe_we pa_nil (by exact hs)) hs) (ha A σ B H _ s fun v d B1 H1 s1 r q => ?_)
  obtain ⟨xs, rfl, q⟩ := q
  cases r with
  | lst ha hd =>
    rename_i a vs
    refine ⟨a, vs, rfl, SqL.of (s1.e _ _ ha), kR _ _ B1 H1 s1 (isw_of walk_enum (by rw [enumD_length]; exact hd.length.symm) (fun B2 H2 a1 a2 => SqL.of (a2 _ _ (a1 _ _ ha))) fun i B2 H2 x H3 a1 a2 t hi y => ?_) q⟩
    obtain ⟨Tt, x1, x2, rfl, hT, rfl, e1, e2⟩ := y
    cases e1
    obtain ⟨d, e3, r3⟩ := hd.get e2
    have st := Step.new (o := .tup [.int (i : Nat), x2]) a2 t hT
    exact ⟨_, _, st, enumD_get e3, .tup upd_same (.cons (.int _) (.cons ((r3.mono a1).mono st.b) .nil))⟩
end

/-! ### statements -/
structure Out where
  nx : List S → Prop
  rt : PyData → Prop
  bk : List S → Prop := fun _ => False
  ct : List S → Prop := fun _ => False
structure EndsOk (T : Tape) (A : Hp × Hp) (O : Out) (D : Ends) : Prop where
  nx : ∀ σ B H ρ, Sl T A σ B H ρ → O.nx ρ → D.nx σ H
  rt : ∀ v d B H, Step T A.1 A.2 B H → Dt B v d → O.rt d → D.rt v H
  bk : ∀ σ B H ρ, Sl T A σ B H ρ → O.bk ρ → D.bk σ H
  ct : ∀ σ B H ρ, Sl T A σ B H ρ → O.ct ρ → D.ct σ H
def Sx (X : Cx) (T : Tape) (ρ : List S) (sts : List Stmt) (O : Out) : Prop := ∀ A σ B H D, Sl T A σ B H ρ → EndsOk T A O D → WSs X sts D σ H
def S1 (X : Cx) (T : Tape) (ρ : List S) (st : Stmt) (O : Out) : Prop := ∀ A σ B H D, Sl T A σ B H ρ → EndsOk T A O D → WS X st D σ H
section
variable {G : Glb} {N : List Str} {sc : Scope} {ks : List (Option NameKind)} {gs : List Str} {fc : Bool} {lv : Nat} {X : Cx} {T : Tape} {ρ : List S} {p pos : Pos} {O : Out}
theorem sx_cons {st : Stmt} {rest : List Stmt} (h : S1 X T ρ st { O with nx := fun ρ' => Sx X T ρ' rest O }) : Sx X T ρ (st :: rest) O := by
  intro A σ B H D s k
  refine wss_of (pss_cons ps_ws pss_wss) ?_
  exact h A σ B H _ s ⟨fun σ' B' H' ρ' s' q => q A σ' B' H' D s' k, k.rt, k.bk, k.ct⟩
theorem sx_nil (h : O.nx ρ) : Sx X T ρ [] O := fun A σ B H D s k => wss_of pss_nil (k.nx σ B H ρ s h)
theorem sx_one {st : Stmt} (h : S1 X T ρ st O) : Sx X T ρ [st] O := by
  intro A σ B H D s k
  exact wss_of (pss_one ps_ws) (h A σ B H _ s k)
theorem sx_freeze (i : Nat) {sts : List Stmt} {ds : List PyData} (hi : ρ[i]? = some (.own ds)) (h : Sx X T (ρ.set i (.val (.list ds))) sts O) : Sx X T ρ sts O := by
  intro A σ B H D s k
  obtain ⟨B', _, s', _⟩ := s.freeze hi
  exact h A σ B' H D s' k
theorem s1_freeze (i : Nat) {st : Stmt} {ds : List PyData} (hi : ρ[i]? = some (.own ds)) (h : S1 X T (ρ.set i (.val (.list ds))) st O) : S1 X T ρ st O := by
  intro A σ B H D s k
  obtain ⟨B', _, s', _⟩ := s.freeze hi
  exact h A σ B' H D s' k
theorem Out.mono {O' : Out} {A : Hp × Hp} {D : Ends} (k : EndsOk T A O D) (h1 : ∀ ρ, O'.nx ρ → O.nx ρ) (h2 : ∀ d, O'.rt d → O.rt d) (h3 : ∀ ρ, O'.bk ρ → O.bk ρ) (h4 : ∀ ρ, O'.ct ρ → O.ct ρ) : EndsOk T A O' D :=
  ⟨fun σ B H ρ s q => k.nx σ B H ρ s (h1 ρ q), fun v d B H s r q => k.rt v d B H s r (h2 d q), fun σ B H ρ s q => k.bk σ B H ρ s (h3 ρ q), fun σ B H ρ s q => k.ct σ B H ρ s (h4 ρ q)⟩
theorem sx_mono {O' : Out} {sts : List Stmt} (h : Sx X T ρ sts O') (h1 : ∀ ρ, O'.nx ρ → O.nx ρ) (h2 : ∀ d, O'.rt d → O.rt d) (h3 : ∀ ρ, O'.bk ρ → O.bk ρ) (h4 : ∀ ρ, O'.ct ρ → O.ct ρ) : Sx X T ρ sts O := fun A σ B H D s k => h A σ B H D s (Out.mono k h1 h2 h3 h4)
/-- x = e -/
theorem s1_set (h : XOk G N sc ks gs fc lv X) (i : Nat) {x : Str} {k : NameKind} {e : Expr} {px : Pos} (he : Ev X T ρ e fun d => O.nx (ρ.set i (.val d))) (hN : N[i]? = some x := by rfl) (hk : ks[i]? = some (some k) := by rfl) (hv : locK fc k = true := by rfl)
    (hs : swapsWith e (some (.Name x px)) pos.line X.env = pure false := by rfl) : S1 X T ρ (.Assign [.Name x px] e pos) O := by
  intro A σ B H D s kD
  have l := h.loc hN hk hv
  refine ws_of (ps_set (by rw [h.eN]; exact h.nd) (by rw [h.eN]; exact hN) l.1 pe_we hs l.2) (he A σ B H _ s fun v d B1 H1 s1 r q => ?_)
  exact kD.nx _ B1 H1 _ ((s.step s1).set r) q
/-- x = [e, ..], a list of the frame's own -/
theorem s1_setO (h : XOk G N sc ks gs fc lv X) (i : Nat) {x : Str} {k : NameKind} {es : List Expr} {px pl : Pos} (he : Ea X T ρ es fun ss => ∃ ds, allV ss = some ds ∧ ds.length ≤ 1000 ∧ O.nx (ρ.set i (.own ds))) (hN : N[i]? = some x := by rfl) (hk : ks[i]? = some (some k) := by rfl) (hv : locK fc k = true := by rfl)
    (hs : swapsWith (.List es pl) (some (.Name x px)) pos.line X.env = pure false := by rfl) : S1 X T ρ (.Assign [.Name x px] (.List es pl) pos) O := by
  intro A σ B H D s kD
  have l := h.loc hN hk hv
  refine ws_of (ps_set (by rw [h.eN]; exact h.nd) (by rw [h.eN]; exact hN) l.1 (pe_lst pa_wa) hs l.2) (he A σ B H _ s fun vs ss B1 H1 s1 r q => ?_)
  obtain ⟨ds, e, hl, q⟩ := q
  have r' := r.dta e
  refine ⟨Nat.le_trans (by rw [r'.length]; exact hl) (by decide), fun a ha => ?_⟩
  have s2 := Step.newO (o := .lst vs) s1.e s1.t ha
  exact kD.nx _ B1 _ _ ((s.step s1).setO s2 ha (s1.e.free ha) upd_same r') q
/-- target = e -/
theorem s1_asg {tg e : Expr} {is : List Nat} (he : Ev X T ρ e fun d => Tg X T tg is d ρ O.nx) (hs : swapsWithSole [tg] e pos.line X.env = pure false := by rfl) (hw : swappedStores [tg] e X.env = pure none := by rfl)
    (h1 : (assignEach [tg] X.env).map (·.2) = [assign tg X.env] := by rfl) : S1 X T ρ (.Assign [tg] e pos) O := by
  intro A σ B H D s kD
  refine ws_of (ps_asg pe_we pg_wg hs hw h1) (he A σ B H _ s fun v d B1 H1 s1 r q => ?_)
  exact q A σ B1 H1 v _ (s.step s1) r fun σ' ρ' s' z _ => kD.nx σ' B1 H1 ρ' s' z
theorem s1_expr {e : Expr} (he : Ev X T ρ e fun _ => O.nx ρ) (hs : swapsWith e none pos.line X.env = pure false := by rfl) : S1 X T ρ (.Expr e pos) O := by
  intro A σ B H D s kD
  refine ws_of (ps_expr pe_we hs) (he A σ B H _ s fun v d B1 H1 s1 r q => ?_)
  exact kD.nx σ B1 H1 ρ (s.step s1) q
theorem s1_ret {e : Expr} (he : Ev X T ρ e O.rt) : S1 X T ρ (.Return (some e) pos) O := by
  intro A σ B H D s kD
  refine ws_of (ps_ret pe_we) (he A σ B H _ s fun v d B1 H1 s1 r q => ?_)
  exact kD.rt v d B1 H1 (s.step s1).anc r q
theorem s1_if {c : Expr} {a b : List Stmt} (h : Et X T ρ c fun k => if k = true then Sx X T ρ a O else Sx X T ρ b O) : S1 X T ρ (.If c a b pos) O := by
  intro A σ B H D s kD
  refine ws_of (ps_if pt_wt pss_wss pss_wss) (h A σ B H _ s fun k B1 H1 s1 q => ?_)
  cases k with
  | true =>
    rw [if_pos rfl] at q ⊢
    exact q A σ B1 H1 D (s.step s1) kD
  | false =>
    rw [if_neg Bool.false_ne_true] at q ⊢
    exact q A σ B1 H1 D (s.step s1) kD
theorem s1_while {c : Expr} {body : List Stmt} (hp : PassesOwn (model X.prog X.w) X.A X.env X.xe) (I : Nat → List S → Prop) (m : Nat) (h0 : I m ρ)
    (ht : ∀ m ρ', I m ρ' → Et X T ρ' c fun k => if k = true then Sx X T ρ' body { nx := fun ρ'' => ∃ m', m' < m ∧ I m' ρ'', rt := O.rt, bk := O.nx, ct := fun ρ'' => ∃ m', m' < m ∧ I m' ρ'' } else O.nx ρ') : S1 X T ρ (.While c body [] pos) O := by
  intro A σ B H D s kD
  refine ws_of (ps_while hp pt_wt pss_wss) ⟨fun m σ H => ∃ B ρ', Sl T A σ B H ρ' ∧ I m ρ', ⟨m, B, ρ, s, h0⟩, ?_⟩
  rintro m σ H ⟨B, ρ', s, hI⟩
  refine ht m ρ' hI A σ B H _ s fun k B1 H1 s1 q => ?_
  cases k with
  | true =>
    rw [if_pos rfl] at q ⊢
    refine ⟨fun σ' H' => ∃ m', m' < m ∧ ∃ B ρ', Sl T A σ' B H' ρ' ∧ I m' ρ', fun _ _ z => z, ?_⟩
    exact q A σ B1 H1 _ (s.step s1) ⟨fun σ' B' H' ρ'' s' ⟨m', hm, z⟩ => ⟨m', hm, B', ρ'', s', z⟩, kD.rt, kD.nx, fun σ' B' H' ρ'' s' ⟨m', hm, z⟩ => ⟨m', hm, B', ρ'', s', z⟩⟩
  | false =>
    rw [if_neg Bool.false_ne_true] at q ⊢
    exact kD.nx σ B1 H1 ρ' (s.step s1) q
theorem s1_for {tg iter : Expr} {body : List Stmt} {is : List Nat} (hp : PassesOwn (model X.prog X.w) X.A X.env X.xe) (h : XOk G N sc ks gs fc lv X)
    (hi : Ei X T ρ tg iter fun xs => ∃ I : Nat → List S → Prop, I 0 ρ ∧ (∀ i d ρ', xs[i]? = some d → I i ρ' → Tg X T tg is d ρ' fun ρ'' => Sx X T ρ'' body { nx := I (i + 1), rt := O.rt, bk := O.nx, ct := I (i + 1) }) ∧ (∀ ρ', I xs.length ρ' → O.nx ρ'))
    (hs : ∀ x, foldedSetIterable iter X.env x = pure x := by intro _; rfl) : S1 X T ρ (.For tg iter body [] pos) O := by
  intro A σ B H D s kD
  refine ws_of (ps_for hp h.calm pi_wi pg_wg pss_wss hs) (hi A σ B H _ s fun J xs B1 H1 s1 w ⟨I, h0, ht, hd⟩ => ?_)
  obtain ⟨A', eA, sA, back, backS⟩ := (s.step s1).anchor
  subst eA
  have kD' : EndsOk T A' O D := ⟨fun σ' B' H' ρ' z => kD.nx σ' B' H' ρ' (back _ _ _ _ z), fun v d B' H' z => kD.rt v d B' H' (backS _ _ z), fun σ' B' H' ρ' z => kD.bk σ' B' H' ρ' (back _ _ _ _ z), fun σ' B' H' ρ' z => kD.ct σ' B' H' ρ' (back _ _ _ _ z)⟩
  refine ⟨fun i m σ H => m = xs.length - i ∧ i ≤ xs.length ∧ ∃ B ρ', Sl T A' σ B H ρ' ∧ I i ρ', ⟨xs.length, by simp, Nat.zero_le _, A'.1, ρ, sA, h0⟩, ?_⟩
  rintro i m σ H ⟨rfl, hle, B, ρ', s, hI⟩
  by_cases hlt : i < xs.length
  · refine .inr ⟨w.go i B H s.anc.b s.e hlt, fun σ' H' => i < xs.length ∧ ∃ B ρ', Sl T A' σ' B H' ρ' ∧ I (i + 1) ρ', fun σ' H' z => ⟨xs.length - (i + 1), by omega, rfl, z.1, z.2⟩, fun x H' y => ?_⟩
    obtain ⟨B3, d, st, hd', r⟩ := w.yl i B H x H' s.anc.b s.e s.t hlt y
    refine ht i d ρ' hd' hI A' σ B3 H' x _ (s.step st) r fun σ' ρ'' s' z _ => ?_
    exact z A' σ' B3 H' _ s' ⟨fun σ2 B2 H2 ρ2 s2 q => ⟨hlt, B2, ρ2, s2, q⟩, kD'.rt, kD'.nx, fun σ2 B2 H2 ρ2 s2 q => ⟨hlt, B2, ρ2, s2, q⟩⟩
  · have e : i = xs.length := by omega
    subst e
    exact .inl ⟨w.st B H s.anc.b s.e, kD'.nx σ B H ρ' s (hd ρ' hI)⟩
end
end DL
namespace DL
open PySem PySem.Spec PyProof.Rows L2

/-! ### comprehensions -/
def WTs (X : Cx) (ifs : List Expr) : TT := fun σ H Q => ∀ (pins : List (Addr × Obj)) (s : Shared), Inv X pins σ H s →
  wpAny (model X.prog X.w) X.A (forIn ifs true fun c r => if r = true then do let ok ← isTrue c X.env (eval c X.env); pure (ForInStep.yield ok) else pure (ForInStep.yield r)) (TP X pins σ Q) X.xe s
def Ets (X : Cx) (T : Tape) (ρ : List S) (ifs : List Expr) (Φ : Bool → Prop) : Prop := ∀ A σ B H (Q : Bool → Hp → Prop), Sl T A σ B H ρ → (∀ b B' H', Step T B H B' H' → Φ b → Q b H') → WTs X ifs σ H Q
section
variable {X : Cx} {T : Tape} {ρ : List S} {Θ : Bool → Prop}
theorem ets_nil (h : Θ true) : Ets X T ρ [] Θ := fun A σ B H Q s k pins sh I => pts_nil.run pins sh σ H Q I (k true B H s.good h)
theorem ets_one {c : Expr} (h : Et X T ρ c Θ) : Ets X T ρ [c] Θ := fun A σ B H Q s k pins sh I => (pts_one pt_wt).run pins sh σ H Q I (h A σ B H Q s k)
end
theorem wipe_len {σ : L2.St} {vs : List Nat} : (wipe σ vs).length = σ.length := wipe_length σ vs
theorem wipeS_len {ρ : List S} : ∀ {vs : List Nat}, (wipeS ρ vs).length = ρ.length
  | [] => rfl
  | v :: vs => by unfold wipeS; rw [List.length_set, wipeS_len]
section
variable {G : Glb} {N : List Str} {sc : Scope} {ks : List (Option NameKind)} {gs : List Str} {fc : Bool} {lv : Nat} {X : Cx} {T : Tape} {ρ : List S} {p pos : Pos} {Φ : PyData → Prop} {O : Out}
/-- what a comprehension asks: R of the turns done and of the list so far -/
def LcQ (G : Glb) (N : List Str) (sc : Scope) (ks' : List (Option NameKind)) (gs' : List Str) (lv : Nat) (T : Tape) (ρ : List S) (scope : Scope) (vs is : List Nat) (tg elt : Expr) (ifs : List Expr) (Φ : PyData → Prop) (xs : List PyData) : Prop :=
  ∃ R : Nat → List PyData → Prop, R 0 [] ∧ xs.length ≤ 100000 ∧
    (∀ i d acc, xs[i]? = some d → R i acc → ∃ ρ' b, (∀ X', XOk G N (relS scope sc) ks' gs' false lv X' → Tg X' T tg is d (wipeS ρ vs) (· = ρ')) ∧ (∀ X', XOk G N (relS scope sc) ks' gs' false lv X' → Ets X' T ρ' ifs (· = b)) ∧
      (if b = true then ∀ X', XOk G N (relS scope sc) ks' gs' false lv X' → Ev X' T ρ' elt fun y => R (i + 1) (acc ++ [y]) else R (i + 1) acc)) ∧ (∀ acc, R xs.length acc → Φ (.list acc))
theorem Step.back {B H B1 H1 : Hp} (s : Step T B H B1 H1) {a : Addr} (h : H1 a = none) : H a = none := by
  cases e : H a with
  | none => rfl
  | some o => rw [s.k a o (Tp.ne s.t h) e] at h; cases h
theorem lc_dl {scope : Scope} {vs is : List Nat} {ks' : List (Option NameKind)} {gs' : List Str} {tg iter elt : Expr} {ifs : List Expr} (hisv : ∀ i ∈ is, i ∈ vs)
    (hi : Ei X T ρ tg iter (LcQ G N sc ks' gs' lv T ρ scope vs is tg elt ifs Φ)) {A : Hp × Hp} {σ : L2.St} {B H : Hp} {Q : VK} (s : Sl T A σ B H ρ) (kQ : Kv T B H Φ Q) :
    tLc (WI X tg iter) (fun v σ H Q => ∀ X', XOk G N (relS scope sc) ks' gs' false lv X' → WG X' tg v σ H Q) (fun σ H Q => ∀ X', XOk G N (relS scope sc) ks' gs' false lv X' → WTs X' ifs σ H Q) (fun σ H Q => ∀ X', XOk G N (relS scope sc) ks' gs' false lv X' → WE X' elt σ H Q) vs σ H Q := by
  refine hi A σ B H _ s fun J xs B1 H1 s1 w ⟨R, r0, hxs, rt, rd⟩ => ?_
  intro D hD
  obtain ⟨A', eA, sA, back, backS⟩ := (s.step s1).anchor
  subst eA
  have sP := (sA.wipe vs).push hD
  have stO : Step T A'.1 H1 A'.1 (upd H1 D (.lst [])) := Step.newO sA.e sA.t hD
  refine ⟨fun i m H => m = xs.length - i ∧ i ≤ xs.length ∧ ∃ B acc, Sl T A' (wipe σ vs ++ [some (.ref D)]) B H (wipeS ρ vs ++ [.own acc]) ∧ Step T A'.1 H1 B H ∧ acc.length ≤ i ∧ R i acc, ⟨xs.length, by simp, Nat.zero_le _, A'.1, [], sP, stO, Nat.zero_le _, r0⟩, ?_⟩
  rintro i m H ⟨rfl, hle, B, acc, s2, st, hacc, hR⟩
  have hlen : (wipe σ vs).length = (wipeS ρ vs).length := by rw [wipe_len, wipeS_len, s.len]
  have atX : ∀ τ : L2.St, (τ ++ [some (V.ref D)])[τ.length]? = some (some (V.ref D)) := fun τ => by rw [List.getElem?_append_right (Nat.le_refl _)]; simp
  have atS : ∀ (θ : List S) (a : List PyData), (θ ++ [S.own a])[θ.length]? = some (.own a) := fun θ a => by rw [List.getElem?_append_right (Nat.le_refl _)]; simp
  have dAt : ∀ {τ : L2.St} {θ : List S} {B H : Hp} {a : List PyData}, Sl T A' (τ ++ [some (V.ref D)]) B H (θ ++ [.own a]) → ∃ ys, H D = some (.lst ys) ∧ B D = none ∧ Tn T D ∧ DtA B ys a := fun {τ θ B H a} z => by
    have hl : τ.length = θ.length := by have := z.len; simp at this; exact this
    obtain ⟨q, ys, e, nt, nb, hp, r⟩ := z.sl _ _ (atS θ a)
    rw [← hl, atX] at e
    cases e
    exact ⟨ys, hp, nb, nt, r⟩
  by_cases hlt : i < xs.length
  · refine .inr ⟨w.go i B H s2.anc.b s2.e hlt, fun H' => ∃ B acc, Sl T A' (wipe σ vs ++ [some (.ref D)]) B H' (wipeS ρ vs ++ [.own acc]) ∧ Step T A'.1 H1 B H' ∧ acc.length ≤ i + 1 ∧ R (i + 1) acc, fun H' z => ⟨xs.length - (i + 1), by omega, rfl, by omega, z⟩, fun x H' y X' hX' => ?_⟩
    obtain ⟨B3, d, s3, hd, r3⟩ := w.yl i B H x H' s2.anc.b s2.e s2.t hlt y
    have s4 := s2.step s3
    obtain ⟨ρ', b, tg1, tt1, te1⟩ := rt i d acc hd hR
    refine tg1 X' hX' A' _ B3 H' x _ s4.pre r3 fun σ' ρ2 s5 z hw => ⟨(hw vs hisv).trans (wipe_wipe fun _ h => h), fun X2 hX2 => ?_⟩
    subst z
    refine tt1 X2 hX2 A' σ' B3 H' _ s5 fun b' B4 H4 s6 e6 => ?_
    subst e6
    have s7 := s4.step s6
    have st7 := (st.trans s3).trans s6
    cases b' with
    | false =>
      rw [if_neg Bool.false_ne_true] at te1 ⊢
      exact ⟨B4, acc, s7, st7, by omega, te1⟩
    | true =>
      rw [if_pos rfl] at te1 ⊢
      intro X3 hX3
      refine te1 X3 hX3 A' σ' B4 H4 _ (s5.step s6) fun yv yd B5 H5 s8 r8 q8 => ?_
      have s9 := s7.step s8
      obtain ⟨ys, hp, nb, nt, r9⟩ := dAt s9
      have e9 := r9.length
      refine ⟨ys, hp, Nat.lt_of_le_of_lt (by omega : ys.length ≤ 100000) (by decide), B5, acc ++ [yd], ?_, (st7.trans s8).mutO hD nb nt, by simp; omega, q8⟩
      have m := s9.mut (atS _ acc) (by rw [← hlen]; exact atX _) (r9.append (.cons r8 .nil))
      have e : (wipeS ρ vs ++ [S.own acc]).set (wipeS ρ vs).length (S.own (acc ++ [yd])) = wipeS ρ vs ++ [S.own (acc ++ [yd])] := by
        rw [List.set_append_right _ _ (Nat.le_refl _), Nat.sub_self]; rfl
      rw [e] at m
      exact m
  · have e : i = xs.length := by omega
    subst e
    obtain ⟨ys, hp, nb, nt, r⟩ := dAt s2
    refine .inl ⟨w.st B H s2.anc.b s2.e, ?_⟩
    have fin := (s1.trans st).settle (s1.back hD) hp nt
    exact kQ _ _ _ _ fin (.lst upd_same (r.mono fun a o q => by rw [upd_ne (fun z => by subst z; rw [nb] at q; cases q)]; exact q)) (rd acc hR)
/-- [elt for tg in iter if ..] -/
theorem ev_lc (h : XOk G N sc ks gs fc lv X) {scope : Scope} (own : List (Str × Nat)) (is : List Nat) (ks' : List (Option NameKind)) (gs' : List Str) {tg iter elt : Expr} {ifs : List Expr}
    (hi : Ei X T ρ tg iter (LcQ G N sc ks' gs' lv T ρ scope (own.map (·.2)) is tg elt ifs Φ))
    (hk : (blkC N sc scope own && (ksB N (relS scope sc) ks' && gsB gs' (relS scope sc))) = true := by decide +kernel) (hki : scope.kind = .function := by rfl) (his : (is.all fun i => (own.map (·.2)).contains i) = true := by rfl)
    (hs : ∀ x, foldedSetIterable iter X.env x = pure x := by intro _; rfl) : Ev X T ρ (.ListComp elt [⟨tg, iter, ifs, 0⟩] scope pos) Φ := by
  intro A σ B H Q s kQ
  rw [Bool.and_eq_true, Bool.and_eq_true] at hk
  have ok : BlkOk X.N X.env.scope scope own := by rw [h.eN, h.es]; exact blkOk_by hk.1
  have hb := fun s H C cl fp => h.blk hki hk.2.1 hk.2.2 s H C cl fp
  have hisv : ∀ i ∈ is, i ∈ own.map (·.2) := fun i hi => by
    rw [List.all_eq_true] at his
    have := his i hi
    simpa using this
  refine we_of (pe_lc h.calm (by rw [h.eN]; exact h.nd) pi_wi ok (fun s H C cl fp => ?_) (fun s H C cl fp => ?_) (fun s H C cl fp => ?_) hs) (lc_dl hisv hi s kQ)
  · exact ⟨fun pins s' σ' H' v u Q' I r q => q _ (hb s H C cl fp) pins s' u I r⟩
  · exact ⟨fun pins s' σ' H' Q' I q => q _ (hb s H C cl fp) pins s' I⟩
  · exact ⟨fun pins s' σ' H' Q' I q => q _ (hb s H C cl fp) pins s' I⟩
/-- x = [elt for tg in iter if ..] on one line -/
theorem s1_setLc (h : XOk G N sc ks gs fc lv X) (i : Nat) {y : Str} {py : Pos} {scope : Scope} (own : List (Str × Nat)) (is : List Nat) (ks' : List (Option NameKind)) (gs' : List Str) {tg iter elt : Expr} {ifs : List Expr} {lpos : Pos}
    (hi : Ei X T ρ tg iter (LcQ G N sc ks' gs' lv T ρ scope (own.map (·.2)) is tg elt ifs fun d => O.nx (ρ.set i (.val d))))
    (hN : N[i]? = some y := by rfl) (hkl : ks[i]? = some (some .local) := by rfl) (hl : (py.line == lpos.line) = true := by rfl) (ha : (scope.names.any fun (n, k) => n == y && (k == .local || k == .cell)) = false := by decide +kernel)
    (hk : (blkC N sc scope own && (ksB N (relS scope sc) ks' && gsB gs' (relS scope sc))) = true := by decide +kernel) (hki : scope.kind = .function := by rfl) (his : (is.all fun i => (own.map (·.2)).contains i) = true := by rfl)
    (hs : ∀ x, foldedSetIterable iter X.env x = pure x := by intro _; rfl) : S1 X T ρ (.Assign [.Name y py] (.ListComp elt [⟨tg, iter, ifs, 0⟩] scope lpos) pos) O := by
  intro A σ B H D s kD
  rw [Bool.and_eq_true, Bool.and_eq_true] at hk
  have ok : BlkOk X.N X.env.scope scope own := by rw [h.eN, h.es]; exact blkOk_by hk.1
  have hb := fun s H C cl fp => h.blk hki hk.2.1 hk.2.2 s H C cl fp
  have hisv : ∀ i ∈ is, i ∈ own.map (·.2) := fun i hi => by
    rw [List.all_eq_true] at his
    have := his i hi
    simpa using this
  have hyl : X.env.scope.names.lookup y = some .local := by rw [h.es]; exact (h.hk i y _ hN hkl).1
  refine ws_of (ps_setLc h.calm (by rw [h.eN]; exact h.nd) (by rw [h.eN]; exact hN) hyl (sw_true (by rw [h.es]; exact h.kind) hyl hl ha) pi_wi ok (fun s H C cl fp => ?_) (fun s H C cl fp => ?_) (fun s H C cl fp => ?_) hs)
    (lc_dl (Φ := fun d => O.nx (ρ.set i (.val d))) hisv hi s fun v d B1 H1 s1 r q => kD.nx _ B1 H1 _ ((s.step s1).set r) q)
  · exact ⟨fun pins s' σ' H' v u Q' I r q => q _ (hb s H C cl fp) pins s' u I r⟩
  · exact ⟨fun pins s' σ' H' Q' I q => q _ (hb s H C cl fp) pins s' I⟩
  · exact ⟨fun pins s' σ' H' Q' I q => q _ (hb s H C cl fp) pins s' I⟩
/-- a comprehension whose turns are told by functions: what is kept, what comes -/
theorem LcQ.of {scope : Scope} {vs is : List Nat} {ks' : List (Option NameKind)} {gs' : List Str} {tg elt : Expr} {ifs : List Expr} {xs : List PyData} (keep : PyData → Bool) (f : PyData → PyData) (hn : xs.length ≤ 100000)
    (ht : ∀ d ∈ xs, ∃ ρ', (∀ X', XOk G N (relS scope sc) ks' gs' false lv X' → Tg X' T tg is d (wipeS ρ vs) (· = ρ')) ∧ (∀ X', XOk G N (relS scope sc) ks' gs' false lv X' → Ets X' T ρ' ifs (· = keep d)) ∧
      (keep d = true → ∀ X', XOk G N (relS scope sc) ks' gs' false lv X' → Ev X' T ρ' elt (· = f d))) (q : Φ (.list ((xs.filter keep).map f))) : LcQ G N sc ks' gs' lv T ρ scope vs is tg elt ifs Φ xs := by
  refine ⟨fun i acc => acc = ((xs.take i).filter keep).map f, by simp, hn, fun i d acc hd e => ?_, fun acc e => by dsimp only at e; rw [List.take_length] at e; rw [e]; exact q⟩
  dsimp only at e ⊢
  obtain ⟨ρ', h1, h2, h3⟩ := ht d (List.mem_of_getElem? hd)
  have et : xs.take (i + 1) = xs.take i ++ [d] := by rw [List.take_add_one, hd]; rfl
  refine ⟨ρ', keep d, h1, h2, ?_⟩
  cases hk : keep d with
  | true =>
    rw [if_pos rfl]
    refine fun X' hX' => (h3 hk X' hX').mono fun y hy => ?_
    rw [et, List.filter_append, List.map_append, e, hy]
    simp [hk]
  | false =>
    rw [if_neg Bool.false_ne_true, et, List.filter_append, List.map_append, e]
    simp [hk]
end

/-! ### a def's contract from its body -/
theorem Vr.length {T : Tape} {B : Hp} : ∀ {vs : List V} {ss : List S}, Vr T B vs ss → vs.length = ss.length
  | _, _, .nil => rfl
  | _, _, .val _ b => congrArg Nat.succ (Vr.length b)
  | _, _, .tape _ b => congrArg Nat.succ (Vr.length b)
theorem Vr.get {T : Tape} {B H : Hp} : ∀ {vs : List V} {ss : List S} (i : Nat) (s : S), Vr T B vs ss → ss[i]? = some s → Sv T B H s ((vs.map some)[i]?) ∧ (∀ ds, s ≠ .own ds)
  | _, _, _, _, .nil, h => by simp at h
  | _, _, 0, _, .val a b, h => by simp at h; subst h; exact ⟨⟨_, rfl, a⟩, fun _ z => by cases z⟩
  | _, _, 0, _, .tape a b, h => by simp at h; subst h; exact ⟨⟨_, _, a, rfl⟩, fun _ z => by cases z⟩
  | _, _, i + 1, s, .val a b, h => by simpa using Vr.get i s b (by simpa using h)
  | _, _, i + 1, s, .tape a b, h => by simpa using Vr.get i s b (by simpa using h)
theorem sl_start {T : Tape} {B H : Hp} {N : List Str} {vs : List V} {ss : List S} (e : Same B H) (t : Tp T B H) (r : Vr T B vs ss) (hl : vs.length ≤ N.length) : Sl T (B, H) (start N vs) B H (ss ++ List.replicate (N.length - ss.length) .emp) := by
  have hv := r.length
  have key : ∀ (i : Nat) (s : S), (ss ++ List.replicate (N.length - ss.length) S.emp)[i]? = some s → Sv T B H s (start N vs)[i]? ∧ (∀ ds, s ≠ .own ds) := fun i s h => by
    by_cases hi : i < ss.length
    · rw [List.getElem?_append_left hi] at h
      have q := r.get (H := H) i s h
      unfold L2.start
      rw [List.getElem?_append_left (by simp; omega)]
      exact q
    · rw [List.getElem?_append_right (by omega), List.getElem?_replicate] at h
      split at h
      · cases h; exact ⟨trivial, fun _ z => by cases z⟩
      · cases h
  refine ⟨by unfold L2.start; simp; omega, e, t, fun i s h => (key i s h).1, fun i j p ds es _ h => absurd rfl ((key i _ h).2 ds), fun i p ds h => absurd rfl ((key i _ h).2 ds), Step.refl e t⟩
theorem cal_of {G : Glb} {x : Str} {st : Stmt} {sc : Scope} {f : Addr} {fd : FuncData} {N ps : List Str} {ks : List (Option NameKind)} {gs : List Str} {lv : Nat} {C : Con} (F : FunD G.K x x (defArgs st) (defBody st) sc [] [] f fd) (hg : G.mg x = some (.ref f)) (S0 : FnScope N ps sc)
    (hb : ∀ (kV doc pm : Value) (an : Option Addr) (cdv ct : Value) (us : List Value), us.length = ps.length → bindArgs (PySem.W.fnOf x x (defArgs st) (defBody st) sc .none kV doc pm an cdv ct) ⟨us, []⟩ = pure (ps.zip us)) (hkg : (ksB N sc ks && gsB gs sc) = true)
    (len : ∀ ss Φ, C ss Φ → ss.length = ps.length)
    (hbody : ∀ X T ss Φ, XOk G N sc ks gs true lv X → PassesOwn (model X.prog X.w) X.A X.env X.xe → C ss Φ → Sx X T (ss ++ List.replicate (N.length - ss.length) .emp) (defBody st) ⟨fun _ => Φ .none, Φ, fun _ => False, fun _ => False⟩) : Cal G x (lv + 1) C := by
  rw [Bool.and_eq_true] at hkg
  have hpl : ps.length ≤ N.length := by have := congrArg List.length S0.pre; rw [List.length_take] at this; omega
  refine ⟨f, fd, ps, hg, F.kp, ?_, ?_⟩
  · exact F.bindsN hb
  · refine F.ok S0 (fun vs H Q E h => ?_) (fun cdv A outer s H vs Q E hr h => ?_)
    · obtain ⟨T, B, ss, Φ, _, _, r, hC, _⟩ := h
      rw [r.length]; exact len ss Φ hC
    · obtain ⟨T, B, ss, Φ, e, t, r, hC, k⟩ := h
      refine ⟨_, PSs.nox pss_wss, ?_⟩
      have ok := (xok_fn (CX := CX0) (P := G.P) (w := G.w) (K := G.K) (mg := G.mg) (base := G.base) (qual := x) (f := f) (cd := cdv) (A := A) (outer := outer) (s := s) (H := H) (E := E) S0 hkg.1 hkg.2 hr).nox
      refine hbody _ T ss Φ ok PassesOwn.never hC (B, H) (start N vs) B H _ (sl_start e t r (by rw [r.length, len ss Φ hC]; exact hpl)) ⟨fun σ' B' H' ρ' z q => ?_, fun v d B' H' st r' q => ?_, fun σ' B' H' ρ' z q => q.elim, fun σ' B' H' ρ' z q => q.elim⟩
      · exact k .non .none B' H' z.anc .non q
      · exact k v d B' H' st r' q
end DL
namespace DL
open PySem PySem.Spec PyProof.Rows L2

section
variable {X : Cx} {Φ : PyData → Prop} {f : Value → Value → Sem Value} {g : Value → Sem Value} {c : Value}
theorem opd_of {r : R2} {x y : PyData} (ho : OpR X f r) (h : ∀ T B H v w Q, Same B H → Tp T B H → Dt B v x → Dt B w y → Kv T B H Φ Q → r v w H Q) : OpD X f x y Φ := fun T B H v w Q a b c d k => wo_of ho (h T B H v w Q a b c d k)
theorem und_of {r : V → Hp → VK → Prop} {x : PyData} (ho : UnR X g r) (h : ∀ T B H v Q, Same B H → Tp T B H → Dt B v x → Kv T B H Φ Q → r v H Q) : UnD X g x Φ := fun T B H v Q a b c k => wu_of ho (h T B H v Q a b c k)
theorem cd_of {r : List V → Hp → VK → Prop} {ss : List S} (ho : CallR X c r) (h : ∀ T B H vs Q, Same B H → Tp T B H → Vr T B vs ss → Kv T B H Φ Q → r vs H Q) : CD X c ss Φ := fun T B H vs Q a b d k => wc_of ho (h T B H vs Q a b d k)
theorem od_int {i j : Int} {fn : Int → Int → Int} (ho : OpR X f (rI0 fun i j => .int (fn i j))) (q : Φ (.int (fn i j))) : OpD X f (.int i) (.int j) Φ := opd_of ho fun T B H v w Q a b c d k => by
  cases c; cases d
  exact ⟨i, j, rfl, rfl, k.now a b (.int _) q⟩
theorem od_intC {C : Int → Int → Prop} {i j : Int} {fn : Int → Int → Int} (ho : OpR X f (rI C fun i j => .int (fn i j))) (hc : C i j) (q : Φ (.int (fn i j))) : OpD X f (.int i) (.int j) Φ := opd_of ho fun T B H v w Q a b c d k => by
  cases c; cases d
  exact ⟨i, j, rfl, rfl, hc, k.now a b (.int _) q⟩
theorem od_add {i j : Int} (q : Φ (.int (i + j))) : OpD X (binaryOp .Add) (.int i) (.int j) Φ := od_int op_add q
theorem od_sub {i j : Int} (q : Φ (.int (i - j))) : OpD X (binaryOp .Sub) (.int i) (.int j) Φ := od_int op_sub q
theorem od_mul {i j : Int} (hc : CMul i j) (q : Φ (.int (i * j))) : OpD X (binaryOp .Mult) (.int i) (.int j) Φ := od_intC op_mul hc q
theorem od_mod {i j : Int} (hc : 0 < j) (q : Φ (.int (i % j))) : OpD X (binaryOp .Mod) (.int i) (.int j) Φ := od_intC op_mod hc q
theorem od_div {i j : Int} (hc : CDiv i j) (q : Φ (.int (i / j))) : OpD X (binaryOp .FloorDiv) (.int i) (.int j) Φ := od_intC op_fdiv hc q
theorem od_pow {i j : Int} (hc : CPow i j) (q : Φ (.int (i ^ j.toNat))) : OpD X (binaryOp .Pow) (.int i) (.int j) Φ := od_intC op_pow hc q
theorem ud_neg {i : Int} (q : Φ (.int (-i))) : UnD X (unaryOp .USub) (.int i) Φ := und_of un_neg fun T B H v Q a b c k => by
  cases c
  exact ⟨i, rfl, k.now a b (.int _) q⟩
theorem od_cmp {i j : Int} {fn : Int → Int → Bool} (ho : OpR X f (rI0 fun i j => .bl (fn i j))) (q : Φ (.bool (fn i j))) : OpD X f (.int i) (.int j) Φ := opd_of ho fun T B H v w Q a b c d k => by
  cases c; cases d
  exact ⟨i, j, rfl, rfl, k.now a b (.bl _) q⟩
theorem od_lt {i j : Int} (q : Φ (.bool (decide (i < j)))) : OpD X (compareOp .Lt) (.int i) (.int j) Φ := od_cmp op_lt q
theorem od_le {i j : Int} (q : Φ (.bool (decide (i ≤ j)))) : OpD X (compareOp .LtE) (.int i) (.int j) Φ := od_cmp op_le q
theorem od_gt {i j : Int} (q : Φ (.bool (decide (j < i)))) : OpD X (compareOp .Gt) (.int i) (.int j) Φ := od_cmp op_gt q
theorem od_ge {i j : Int} (q : Φ (.bool (decide (j ≤ i)))) : OpD X (compareOp .GtE) (.int i) (.int j) Φ := od_cmp op_ge q
/-- == and != of any data -/
theorem od_eq {x y : PyData} (hu : X.A.units + 64 < cLine) (h1 : SeqAt.shaped x = true) (h2 : SeqAt.shaped y = true) (q : Φ (.bool (PyData.eqv x y))) : OpD X (compareOp .Eq) x y Φ := opd_of (op_eqD hu) fun T B H v w Q a b c d k =>
  ⟨x, y, (c.mono a).dp, (d.mono a).dp, h1, h2, k.now a b (.bl _) q⟩
theorem od_ne {x y : PyData} (hu : X.A.units + 64 < cLine) (h1 : SeqAt.shaped x = true) (h2 : SeqAt.shaped y = true) (q : Φ (.bool (!PyData.eqv x y))) : OpD X (compareOp .NotEq) x y Φ := opd_of (op_neD hu) fun T B H v w Q a b c d k =>
  ⟨x, y, (c.mono a).dp, (d.mono a).dp, h1, h2, k.now a b (.bl _) q⟩
/-- .. of scalars, without a look at the stack -/
theorem od_eqS {x y : Str} (q : Φ (.bool (decide (x = y)))) : OpD X (compareOp .Eq) (.str x) (.str y) Φ := opd_of op_eq fun T B H v w Q a b c d k => by
  cases c; cases d
  refine ⟨rfl, ?_⟩
  have e : decide (V.str x = V.str y) = decide (x = y) := by by_cases z : x = y <;> simp [z]
  rw [e]
  exact k.now a b (.bl _) q
theorem od_neS {x y : Str} (q : Φ (.bool (!decide (x = y)))) : OpD X (compareOp .NotEq) (.str x) (.str y) Φ := opd_of op_ne fun T B H v w Q a b c d k => by
  cases c; cases d
  refine ⟨rfl, ?_⟩
  have e : decide (V.str x = V.str y) = decide (x = y) := by by_cases z : x = y <;> simp [z]
  rw [e]
  exact k.now a b (.bl _) q
theorem od_eqI {x y : Int} (q : Φ (.bool (decide (x = y)))) : OpD X (compareOp .Eq) (.int x) (.int y) Φ := opd_of op_eq fun T B H v w Q a b c d k => by
  cases c; cases d
  refine ⟨rfl, ?_⟩
  have e : decide (V.int x = V.int y) = decide (x = y) := by by_cases z : x = y <;> simp [z]
  rw [e]
  exact k.now a b (.bl _) q
theorem od_neI {x y : Int} (q : Φ (.bool (!decide (x = y)))) : OpD X (compareOp .NotEq) (.int x) (.int y) Φ := opd_of op_ne fun T B H v w Q a b c d k => by
  cases c; cases d
  refine ⟨rfl, ?_⟩
  have e : decide (V.int x = V.int y) = decide (x = y) := by by_cases z : x = y <;> simp [z]
  rw [e]
  exact k.now a b (.bl _) q
theorem od_eqB {x y : Bool} (q : Φ (.bool (decide (x = y)))) : OpD X (compareOp .Eq) (.bool x) (.bool y) Φ := opd_of op_eq fun T B H v w Q a b c d k => by
  cases c; cases d
  refine ⟨rfl, ?_⟩
  have e : decide (V.bl x = V.bl y) = decide (x = y) := by by_cases z : x = y <;> simp [z]
  rw [e]
  exact k.now a b (.bl _) q
theorem od_neB {x y : Bool} (q : Φ (.bool (!decide (x = y)))) : OpD X (compareOp .NotEq) (.bool x) (.bool y) Φ := opd_of op_ne fun T B H v w Q a b c d k => by
  cases c; cases d
  refine ⟨rfl, ?_⟩
  have e : decide (V.bl x = V.bl y) = decide (x = y) := by by_cases z : x = y <;> simp [z]
  rw [e]
  exact k.now a b (.bl _) q
theorem od_isB {x y : Bool} (q : Φ (.bool (decide (x = y)))) : OpD X (compareOp .Is) (.bool x) (.bool y) Φ := opd_of op_isBl fun T B H v w Q a b c d k => by
  cases c; cases d
  exact ⟨x, y, rfl, rfl, k.now a b (.bl _) q⟩
/-- a sign in a text -/
theorem od_inS {c : Nat} {z : Str} (q : Φ (.bool (decide (c ∈ z.cps.toList)))) : OpD X (compareOp .In) (.str ⟨#[c]⟩) (.str z) Φ := opd_of op_in_sign fun T B H v w Q a b c' d k => by
  cases c'; cases d
  exact ⟨c, z, rfl, rfl, k.now a b (.bl _) q⟩
/-- a text in a tuple of texts -/
theorem od_inT {x : Str} {ys : List Str} (q : Φ (.bool (decide (x ∈ ys)))) : OpD X (compareOp .In) (.str x) (.tuple (ys.map .str)) Φ := opd_of op_in_seq fun T B H v w Q a b c d k => by
  cases c
  cases d with
  | tup ha hd =>
    rename_i p vs
    have ev : ∀ {ys : List Str} {vs : List V}, DtA B vs (ys.map .str) → vs = ys.map V.str := fun {ys} => by
      induction ys with
      | nil => intro vs h; cases h; rfl
      | cons y ys ih =>
        intro vs h
        cases h with
        | cons h1 h2 => cases h1; rw [ih h2]; rfl
    have e := ev hd
    subst e
    refine ⟨p, _, rfl, .inr (SqT.of (a _ _ ha)), rfl, ?_, ?_⟩
    · rw [List.all_eq_true]; intro z hz; obtain ⟨y, _, rfl⟩ := List.mem_map.mp hz; rfl
    · have e2 : inV (.str x) (ys.map V.str) = decide (x ∈ ys) := by
        unfold inV
        rw [Bool.eq_iff_iff, List.any_eq_true, decide_eq_true_eq]
        constructor
        · rintro ⟨z, hz, hq⟩
          obtain ⟨y, hy, rfl⟩ := List.mem_map.mp hz
          have : (y == x) = true := by simpa [eqV] using hq
          rw [← beq_iff_eq.mp this]; exact hy
        · intro h
          exact ⟨.str x, List.mem_map.mpr ⟨x, h, rfl⟩, by simp [eqV]⟩
      show Q (.bl (if false = true then !inV (.str x) (ys.map V.str) else inV (.str x) (ys.map V.str))) H
      rw [if_neg Bool.false_ne_true, e2]
      exact k.now a b (.bl _) q
/-- s + t -/
theorem od_addS {x y : Str} (hl : x.length + y.length ≤ 100000) (q : Φ (.str (x ++ y))) : OpD X (binaryOp .Add) (.str x) (.str y) Φ := opd_of op_add_str fun T B H v w Q a b c d k => by
  cases c; cases d
  exact ⟨x, y, rfl, rfl, Nat.le_trans hl (by decide), k.now a b (.str _) q⟩
/-- t + u, tuples -/
theorem od_addT {xs ys : List PyData} (hl : xs.length + ys.length ≤ 100000) (q : Φ (.tuple (xs ++ ys))) : OpD X (binaryOp .Add) (.tuple xs) (.tuple ys) Φ := opd_of op_catA fun T B H v w Q a b c d k => by
  cases c with
  | tup h1 r1 =>
    cases d with
    | tup h2 r2 =>
      have e1 := r1.length
      have e2 := r2.length
      refine ⟨_, _, _, _, rfl, rfl, SqT.of (a _ _ h1), SqT.of (a _ _ h2), Nat.le_trans (by omega : _ ≤ 100000) (by decide), fun z => ?_, fun _ z => ?_, fun _ _ p hp => ?_⟩
      · subst z; cases r1; exact k.now a b (.tup h2 r2) q
      · subst z; cases r2; rw [List.append_nil] at q; exact k.now a b (.tup h1 r1) q
      · exact k.tup a b hp (r1.append r2) q
/-- xs + ys, lists -/
theorem od_addL {xs ys : List PyData} (hl : xs.length + ys.length ≤ 100000) (q : Φ (.list (xs ++ ys))) : OpD X (binaryOp .Add) (.list xs) (.list ys) Φ := opd_of op_cat fun T B H v w Q a b c d k => by
  cases c with
  | lst h1 r1 =>
    cases d with
    | lst h2 r2 =>
      have e1 := r1.length
      have e2 := r2.length
      exact ⟨_, _, _, _, rfl, rfl, a _ _ h1, a _ _ h2, Nat.le_trans (by omega : _ ≤ 100000) (by decide), fun p hp => k.lst a b hp (r1.append r2) q⟩
/-- len -/
theorem cd_lenL {xs : List PyData} (q : Φ (.int xs.length)) : CD X (.builtin "len") [.val (.list xs)] Φ := cd_of call_len_seq fun T B H vs Q a b r k => by
  cases r with
  | val r1 r2 =>
    cases r2
    cases r1 with
    | lst h1 r1 =>
      refine ⟨_, _, rfl, .inl (SqL.of (a _ _ h1)), ?_⟩
      rw [r1.length]
      exact k.now a b (.int _) q
theorem cd_lenT {xs : List PyData} (q : Φ (.int xs.length)) : CD X (.builtin "len") [.val (.tuple xs)] Φ := cd_of call_len_seq fun T B H vs Q a b r k => by
  cases r with
  | val r1 r2 =>
    cases r2
    cases r1 with
    | tup h1 r1 =>
      refine ⟨_, _, rfl, .inr (SqT.of (a _ _ h1)), ?_⟩
      rw [r1.length]
      exact k.now a b (.int _) q
theorem cd_lenS {z : Str} (hl : z.length ≤ 100000) (q : Φ (.int z.length)) : CD X (.builtin "len") [.val (.str z)] Φ := cd_of call_len_str fun T B H vs Q a b r k => by
  cases r with
  | val r1 r2 =>
    cases r2
    cases r1
    exact ⟨z, rfl, Nat.le_trans hl (by decide), k.now a b (.int _) q⟩
/-- all of a list of truths -/
theorem bools_of {B : Hp} : ∀ {bs : List Bool} {vs : List V}, DtA B vs (bs.map .bool) → vs = bs.map V.bl
  | [], _, h => by cases h; rfl
  | b :: bs, _, h => by
    cases h with
    | cons h1 h2 => cases h1; rw [bools_of h2]; rfl
theorem ints_of {B : Hp} : ∀ {bs : List Int} {vs : List V}, DtA B vs (bs.map .int) → vs = bs.map V.int
  | [], _, h => by cases h; rfl
  | b :: bs, _, h => by
    cases h with
    | cons h1 h2 => cases h1; rw [ints_of h2]; rfl
theorem strs_of {B : Hp} : ∀ {bs : List Str} {vs : List V}, DtA B vs (bs.map .str) → vs = bs.map V.str
  | [], _, h => by cases h; rfl
  | b :: bs, _, h => by
    cases h with
    | cons h1 h2 => cases h1; rw [strs_of h2]; rfl
theorem of_ints {B : Hp} : ∀ {bs : List Int}, DtA B (bs.map V.int) (bs.map .int)
  | [] => .nil
  | _ :: _ => .cons (.int _) of_ints
theorem cd_all {bs : List Bool} (hc : X.calm = true) (q : Φ (.bool (bs.all id))) : CD X (.builtin "all") [.val (.list (bs.map .bool))] Φ := cd_of (cr_all hc) fun T B H vs Q a b r k => by
  cases r with
  | val r1 r2 =>
    cases r2
    cases r1 with
    | lst h1 r1 =>
      have e := bools_of r1
      subst e
      exact ⟨_, bs, rfl, SqL.of (a _ _ h1), k.now a b (.bl _) q⟩
/-- max(m, n), min(m, n) -/
theorem cd_max2 {i j : Int} (hc : X.calm = true) (q : Φ (.int (if j > i then j else i))) : CD X (.builtin "max") [.val (.int i), .val (.int j)] Φ := cd_of (call_max2 hc) fun T B H vs Q a b r k => by
  cases r with
  | val r1 r2 =>
    cases r2 with
    | val r3 r4 =>
      cases r4; cases r1; cases r3
      exact ⟨i, j, rfl, k.now a b (.int _) q⟩
theorem cd_min2 {i j : Int} (hc : X.calm = true) (q : Φ (.int (if j < i then j else i))) : CD X (.builtin "min") [.val (.int i), .val (.int j)] Φ := cd_of (call_min2 hc) fun T B H vs Q a b r k => by
  cases r with
  | val r1 r2 =>
    cases r2 with
    | val r3 r4 =>
      cases r4; cases r1; cases r3
      exact ⟨i, j, rfl, k.now a b (.int _) q⟩
/-- list(xs), list(t), tuple(xs) -/
theorem cd_listL {xs : List PyData} (q : Φ (.list xs)) : CD X (.type "list") [.val (.list xs)] Φ := cd_of call_list_of fun T B H vs Q a b r k => by
  cases r with
  | val r1 r2 =>
    cases r2
    cases r1 with
    | lst h1 r1 => exact ⟨_, _, rfl, .inl (SqL.of (a _ _ h1)), fun l hl => k.lst a b hl r1 q⟩
theorem cd_tupL {xs : List PyData} (q : Φ (.tuple xs)) : CD X (.type "tuple") [.val (.list xs)] Φ := cd_of call_tuple_of fun T B H vs Q a b r k => by
  cases r with
  | val r1 r2 =>
    cases r2
    cases r1 with
    | lst h1 r1 => exact ⟨_, _, rfl, .inl ⟨SqL.of (a _ _ h1), fun l hl => k.tup a b hl r1 q⟩⟩
/-- int(a truth) -/
theorem cd_intB {z : Bool} (q : Φ (.int (if z then 1 else 0))) : CD X (.type "int") [.val (.bool z)] Φ := cd_of call_int1 fun T B H vs Q a b r k => by
  cases r with
  | val r1 r2 =>
    cases r2
    cases r1
    refine .inr ⟨z, rfl, ?_⟩
    cases z with
    | true => exact k.now a b (.int 1) q
    | false => exact k.now a b (.int 0) q
end

section
variable {G : Glb} {N : List Str} {sc : Scope} {ks : List (Option NameKind)} {gs : List Str} {fc : Bool} {lv : Nat} {X : Cx} {T : Tape} {ρ : List S} {p pos : Pos} {Φ : PyData → Prop} {O : Out} {a b e : Expr}
/-- t[i], xs[i], s[i] -/
def Ixd (X : Cx) (x y : PyData) (Φ : PyData → Prop) : Prop := ∃ r : R2, IxR X r ∧ ∀ T B H v w Q, Same B H → Tp T B H → Dt B v x → Dt B w y → Kv T B H Φ Q → r v w H Q
theorem ev_ix (h : Ev X T ρ a fun x => Ev X T ρ b fun y => Ixd X x y Φ) (hs : PlainIx b := by exact fun _ _ => rfl) : Ev X T ρ (.Subscript a b pos) Φ := by
  intro A σ B H Q s kQ
  have hr : IxR X (fun v w H Q => ∃ x y, Ixd X x y Φ ∧ ∃ T B, Same B H ∧ Tp T B H ∧ Dt B v x ∧ Dt B w y ∧ Kv T B H Φ Q) := by
    intro value slice pins s σ H v w vv uu Q I rx ry ⟨x, y, ⟨r, hr, hd⟩, T, B, e, t, r1, r2, k⟩ hs
    exact hr value slice pins s σ H v w vv uu Q I rx ry (hd T B H v w Q e t r1 r2 k) hs
  refine we_of (pe_ix hr pe_we pe_we hs) (h A σ B H _ s fun v x B1 H1 s1 r1 q1 => ?_)
  refine q1 A σ B1 H1 _ (s.step s1) fun w y B2 H2 s2 r2 q2 => ?_
  exact ⟨x, y, q2, T, B2, s2.e, s2.t, r1.mono s2.b, r2, (kQ.step s1).step s2⟩
theorem atI_dta {B : Hp} {vs : List V} {ds : List PyData} {i : Int} {d : PyData} (r : DtA B vs ds) (h : atI ds i = some d) : ∃ v, atI vs i = some v ∧ Dt B v d := by
  unfold atI at h ⊢
  rw [r.length]
  cases e : ixN ds.length i with
  | none => rw [e] at h; cases h
  | some j =>
    rw [e] at h
    exact r.get' h
theorem ix_T {xs : List PyData} {i : Int} {d : PyData} (hd : atI xs i = some d) (q : Φ d) : Ixd X (.tuple xs) (.int i) Φ := ⟨_, ix_tup, fun T B H v w Q a b c e k => by
  cases e
  cases c with
  | tup h1 r1 =>
    obtain ⟨v, hv, r⟩ := atI_dta r1 hd
    exact ⟨_, _, i, v, rfl, rfl, SqT.of (a _ _ h1), hv, k.now a b r q⟩⟩
theorem ix_L {xs : List PyData} {i : Int} {d : PyData} (hd : atI xs i = some d) (q : Φ d) : Ixd X (.list xs) (.int i) Φ := ⟨_, ix_list, fun T B H v w Q a b c e k => by
  cases e
  cases c with
  | lst h1 r1 =>
    obtain ⟨v, hv, r⟩ := atI_dta r1 hd
    exact ⟨_, _, i, v, rfl, rfl, SqL.of (a _ _ h1), hv, k.now a b r q⟩⟩
theorem ix_S {z : Str} {i : Int} {c : Nat} (hl : z.length ≤ 100000) (hd : atI z.cps.toList i = some c) (q : Φ (.str ⟨#[c]⟩)) : Ixd X (.str z) (.int i) Φ := ⟨_, ix_str, fun T B H v w Q a b c' e k => by
  cases e
  cases c'
  exact ⟨z, i, c, rfl, rfl, Nat.le_trans hl (by decide), hd, k.now a b (.str _) q⟩⟩
/-- slices -/
def Eo (X : Cx) (T : Tape) (ρ : List S) (o : Option Expr) (Ψ : Option Int → Prop) : Prop := ∀ A σ B H (Q : Option Int → Hp → Prop), Sl T A σ B H ρ → (∀ z B' H', Step T B H B' H' → Ψ z → Q z H') → ∃ to, PO X o to ∧ to σ H Q
def WPo (X : Cx) (o : Option Expr) : TO := fun σ H Q => ∃ to, PO X o to ∧ to σ H Q
theorem po_wp {o : Option Expr} : PO X o (WPo X o) := ⟨fun pins s σ H Q I ⟨to, h, q⟩ => h.run pins s σ H Q I q⟩
theorem eo_none {Ψ : Option Int → Prop} (q : Ψ none) : Eo X T ρ none Ψ := fun A σ B H Q s k => ⟨_, po_none, k none B H s.good q⟩
theorem eo_some {Ψ : Option Int → Prop} (h : Ev X T ρ e fun d => ∃ i : Int, d = .int i ∧ Ψ (some i)) : Eo X T ρ (some e) Ψ := fun A σ B H Q s k => ⟨_, po_some pe_we, h A σ B H _ s fun v d B' H' s1 r q => by
  obtain ⟨i, rfl, q⟩ := q
  cases r
  exact ⟨i, rfl, k (some i) B' H' s1 q⟩⟩
def Sld (X : Cx) (x : PyData) (lo hi : Option Int) (Φ : PyData → Prop) : Prop := ∃ r, SlR X r ∧ ∀ T B H v Q, Same B H → Tp T B H → Dt B v x → Kv T B H Φ Q → r v lo hi H Q
theorem ev_slice {lo hi : Option Expr} {p2 : Pos} (h : Ev X T ρ e fun x => Eo X T ρ lo fun l => Eo X T ρ hi fun u => Sld X x l u Φ) : Ev X T ρ (.Subscript e (.Slice lo hi none p2) pos) Φ := by
  intro A σ B H Q s kQ
  have hr : SlR X (fun v l u H Q => ∃ x, Sld X x l u Φ ∧ ∃ T B, Same B H ∧ Tp T B H ∧ Dt B v x ∧ Kv T B H Φ Q) := by
    intro pins s σ H v vv vl vu l u sl Q I rx a b c ⟨x, ⟨r, hr, hd⟩, T, B, e, t, r1, k⟩
    exact hr pins s σ H v vv vl vu l u sl Q I rx a b c (hd T B H v Q e t r1 k)
  refine we_of (pe_slice hr pe_we po_wp po_wp) (h A σ B H _ s fun v x B1 H1 s1 r1 q1 => ?_)
  refine q1 A σ B1 H1 _ (s.step s1) fun l B2 H2 s2 q2 => ?_
  refine q2 A σ B2 H2 _ ((s.step s1).step s2) fun u B3 H3 s3 q3 => ?_
  exact ⟨x, q3, T, B3, s3.e, s3.t, (r1.mono s2.b).mono s3.b, ((kQ.step s1).step s2).step s3⟩
def cutD (xs : List PyData) (lo hi : Option Int) : List PyData := (xs.drop (HT.sIx xs.length 0 lo)).take (HT.sIx xs.length xs.length hi - HT.sIx xs.length 0 lo)
theorem cutD_dta {B : Hp} {vs : List V} {ds : List PyData} (lo hi : Option Int) (r : DtA B vs ds) : DtA B (cutV vs lo hi) (cutD ds lo hi) := by
  unfold cutV cutD
  rw [r.length]
  exact (r.drop _).take _
theorem sl_L {xs : List PyData} {lo hi : Option Int} (q : Φ (.list (cutD xs lo hi))) : Sld X (.list xs) lo hi Φ := ⟨_, sl_list, fun T B H v Q a b c k => by
  cases c with
  | lst h1 r1 => exact ⟨_, _, rfl, SqL.of (a _ _ h1), fun p hp => k.lst a b hp (cutD_dta lo hi r1) q⟩⟩
theorem sl_T {xs : List PyData} {lo hi : Option Int} (q : Φ (.tuple (cutD xs lo hi))) : Sld X (.tuple xs) lo hi Φ := ⟨_, sl_tupA, fun T B H v Q a b c k => by
  cases c with
  | tup h1 r1 =>
    refine ⟨_, _, rfl, SqT.of (a _ _ h1), fun z => ?_, fun _ p hp => k.tup a b hp (cutD_dta lo hi r1) q⟩
    have e : cutD xs lo hi = xs := by
      unfold cutD
      rw [← r1.length, z.1, z.2]
      simp [r1.length]
    rw [e] at q
    exact k.now a b (.tup h1 r1) q⟩
theorem sl_S {z : Str} {lo hi : Option Int} (hl : z.length ≤ 100000) (q : Φ (.str (cutS z lo hi))) : Sld X (.str z) lo hi Φ := ⟨_, sl_str, fun T B H v Q a b c k => by
  cases c
  exact ⟨z, rfl, Nat.le_trans hl (by decide), k.now a b (.str _) q⟩⟩
/-- a text's methods -/
theorem ev_upper {o : Expr} {apos : Pos} (h : Ev X T ρ o fun d => ∃ z : Str, d = .str z ∧ z.length ≤ 100000 ∧ Φ (.str (Txt.upper z))) (hbase : attributeBase o "upper" X.env (eval o X.env) = eval o X.env := by rfl) (hline : (apos.endLine == pos.line) = true := by rfl) : Ev X T ρ (.Call (.Attribute o "upper" apos) [] [] pos) Φ := by
  intro A σ B H Q s kQ
  refine we_of (pe_upper pe_we hbase hline) (h A σ B H _ s fun v d B1 H1 s1 r q => ?_)
  obtain ⟨z, rfl, hl, q⟩ := q
  cases r
  exact ⟨⟨_, rfl⟩, z, rfl, rfl, Nat.le_trans hl (by decide), (kQ.step s1).now s1.e s1.t (.str _) q⟩
theorem ev_lower {o : Expr} {apos : Pos} (h : Ev X T ρ o fun d => ∃ z : Str, d = .str z ∧ z.length ≤ 100000 ∧ Φ (.str (Txt.lower z))) (hbase : attributeBase o "lower" X.env (eval o X.env) = eval o X.env := by rfl) (hline : (apos.endLine == pos.line) = true := by rfl) : Ev X T ρ (.Call (.Attribute o "lower" apos) [] [] pos) Φ := by
  intro A σ B H Q s kQ
  refine we_of (pe_lower pe_we hbase hline) (h A σ B H _ s fun v d B1 H1 s1 r q => ?_)
  obtain ⟨z, rfl, hl, q⟩ := q
  cases r
  exact ⟨⟨_, rfl⟩, z, rfl, rfl, Nat.le_trans hl (by decide), (kQ.step s1).now s1.e s1.t (.str _) q⟩
theorem ev_join {o : Expr} {apos : Pos} (h : Ev X T ρ o fun d => ∃ z : Str, d = .str z ∧ Ev X T ρ e fun x => ∃ (ys : List Str), (x = .list (ys.map .str) ∨ x = .tuple (ys.map .str)) ∧ (ys.map (·.length)).sum + ys.length * z.length ≤ 100000 ∧ Φ (.str (Txt.join z ys)))
    (hs : starEach [e] X.env = [(false, eval e X.env)] := by rfl) (hbase : attributeBase o "join" X.env (eval o X.env) = eval o X.env := by rfl) (hline : (apos.endLine == pos.line) = true := by rfl) : Ev X T ρ (.Call (.Attribute o "join" apos) [e] [] pos) Φ := by
  intro A σ B H Q s kQ
  refine we_of (pe_join pe_we pe_we hs hbase hline) (h A σ B H _ s fun v d B1 H1 s1 r q => ?_)
  obtain ⟨z, rfl, q⟩ := q
  cases r
  refine ⟨⟨z, rfl⟩, ?_⟩
  · refine q A σ B1 H1 _ (s.step s1) fun w x B2 H2 s2 r2 q2 => ?_
    obtain ⟨ys, hx, hl, q2⟩ := q2
    have k2 := (kQ.step s1).step s2
    rcases hx with rfl | rfl
    · cases r2 with
      | lst h1 r1 =>
        have e := strs_of r1
        subst e
        exact ⟨z, _, ys, rfl, rfl, .inl (SqL.of (s2.e _ _ h1)), Nat.le_trans hl (by decide), k2.now s2.e s2.t (.str _) q2⟩
    · cases r2 with
      | tup h1 r1 =>
        have e := strs_of r1
        subst e
        exact ⟨z, _, ys, rfl, rfl, .inr (SqT.of (s2.e _ _ h1)), Nat.le_trans hl (by decide), k2.now s2.e s2.t (.str _) q2⟩
end
end DL
namespace DL
open PySem PySem.Spec PyProof.Rows L2

/-! ### word[::-1], row[::-1] -/
abbrev backE (e : Expr) (k : Nat) (p1 p2 p3 pos : Pos) : Expr := .Subscript e (.Slice none none (some (.UnaryOp .USub (.Constant (.int 1) k p1) p2)) p3) pos
section
variable {X : Cx} {e : Expr} {te : TE} {k : Nat} {p1 p2 p3 pos : Pos}
/-- the parts of such a slice, all three looked at -/
theorem back_parts {σ : L2.St} {H : Hp} {pins : List (Addr × Obj)} {s1 : Shared} {v : Value} {Q : Value → Shared → Prop} (I1 : Inv X pins σ H s1)
    (h : ∀ (t : Tok) (s4 : Shared), Inv X pins σ H s4 → wpAny (model X.prog X.w) X.A (subscriptTail e (.Slice none none (some (.UnaryOp .USub (.Constant (.int 1) k p1) p2)) p3) v (.ref s4.heap.objs.size)) Q X.xe { s4 with heap := s4.heap.push { cls := .type "slice", data := .fields #[.none, .none, .int (-1) t] } }) :
    wpAny (model X.prog X.w) X.A (eval (.Slice none none (some (.UnaryOp .USub (.Constant (.int 1) k p1) p2)) p3) X.env) (fun iv s => wpAny (model X.prog X.w) X.A (subscriptTail e (.Slice none none (some (.UnaryOp .USub (.Constant (.int 1) k p1) p2)) p3) v iv) Q X.xe s) X.xe s1 := by
  have hst : PO X (some (.UnaryOp .USub (.Constant (.int 1) k p1) p2)) (tPart (tUn (rU fun i => .int (-i)) (tC (.int 1)))) := po_some (pe_un un_neg pe_int)
  refine wpAny_Slice ?_
  rw [evalPart_none]
  refine wpAny_pure ?_
  refine wpAny_pure (thn (hst.run pins s1 σ H (fun o H4 => o = some (-1) ∧ H4 = H) I1 ⟨1, rfl, -1, rfl, rfl, rfl⟩) fun vs s4 ⟨o, H4, I4, ps, eo, e4⟩ => ?_)
  subst eo e4
  cases ps with
  | int i t => exact h t s4 I4
def tRevS (te : TE) : TE := fun σ H Q => te σ H fun x H1 => ∃ z : Str, x = .str z ∧ z.length ≤ 100000 ∧ Q (.str ⟨z.cps.reverse⟩) H1
theorem rev_picked (z : Str) : (List.filterMap (fun i => z.cps[i]?) (Builtin.Str.strSliceIndices none none (-1) z.length)).toArray = z.cps.reverse := by
  have e : Builtin.Str.strSliceIndices none none (-1) z.length = (List.range z.cps.size).reverse := by
    rw [← PySem.W.krv_range, ← PySem.W.krv_sliceRange]
    unfold Builtin.Str.strSliceIndices
    rfl
  rw [e, List.filterMap_reverse, PySem.W.krv_all]
  rw [← Array.toList_reverse]
theorem pe_revS (he : PE X e te) : PE X (backE e k p1 p2 p3 pos) (tRevS te) := by
  refine ⟨fun pins s σ H Q I h => Subscript_ (thn (he.run pins s σ H _ I h) fun v s1 ⟨x, H1, I1, r1, z, ez, hl, q1⟩ => ?_)⟩
  subst ez
  obtain ⟨tk, rfl⟩ := r1
  refine back_parts I1 fun t s4 I4 => ?_
  have I5 : Inv X pins σ H1 { s4 with heap := s4.heap.push { cls := .type "slice", data := .fields #[.none, .none, .int (-1) t] } } := I4.kept (t' := s4.toks) fun b ob q => Heap.get?_push_of_some _ q
  refine tail_any (ops := [.str z tk, .ref s4.heap.objs.size]) (typeIs_str _ _ _) F.slot_str_getitem.lookup ?_ (by with_unfolding_all rfl)
  refine wpAny_getItem_str_slice (l := none) (u := none) (st := some (-1, t)) ⟨_, Heap.get?_push_size _ rfl, rfl, rfl⟩ rfl ?_
  have e1 : sliceMade z tk none none (some (-1, t)) = .str ⟨z.cps.reverse⟩ := by
    unfold sliceMade slicePicked
    rw [if_neg (by intro h; rw [Bool.and_eq_true] at h; exact absurd h.1 Bool.false_ne_true)]
    show Made.str ⟨(List.filterMap (fun i => z.cps[i]?) (Builtin.Str.strSliceIndices none none (-1) z.length)).toArray⟩ = _
    rw [rev_picked]
  rw [e1]
  refine ⟨?_, .str ⟨z.cps.reverse⟩, H1, I5.tok _, ⟨_, rfl⟩, q1⟩
  show z.cps.reverse.size ≤ sizeLine
  rw [Array.size_reverse]
  exact Nat.le_trans hl (by decide)
/-- a tuple turned round: always a new one -/
theorem adjust_back (n : Nat) : Builtin.Slice.sliceAdjust none none (-1) (n : Int) = ((n : Int) - 1, -1) := by
  unfold Builtin.Slice.sliceAdjust
  rfl
theorem places_back (n : Nat) : Builtin.Slice.slicePlaces ((n : Int) - 1) (-1) (-1) = n := by
  unfold Builtin.Slice.slicePlaces
  have h1 : ¬ ((-1 : Int) > 0) := by omega
  simp only [h1, if_false]
  by_cases h : (n : Int) - 1 > -1
  · simp only [h, if_true]
    rw [show (- -1 : Int) = 1 by decide, Int.ediv_one]
    omega
  · simp only [h, if_false]
    omega
theorem filterMap_on {α β : Type} {f g : α → Option β} : ∀ {l : List α}, (∀ x ∈ l, f x = g x) → l.filterMap f = l.filterMap g
  | [], _ => rfl
  | x :: l, h => by rw [List.filterMap_cons, List.filterMap_cons, h x (List.mem_cons_self ..), filterMap_on fun y hy => h y (List.mem_cons_of_mem _ hy)]
theorem pick_back (xs : Array Value) : ((List.range xs.size).filterMap fun (m : Nat) => xs[(((xs.size : Int) - 1) + (m : Int) * (-1)).toNat]?).toArray = xs.toList.reverse.toArray := by
  have e : (List.range xs.size).filterMap (fun (m : Nat) => xs[(((xs.size : Int) - 1) + (m : Int) * (-1)).toNat]?) = ((List.range xs.size).map fun k => xs.size - 1 - k).filterMap (xs[·]?) := by
    rw [List.filterMap_map]
    refine filterMap_on fun m hm => ?_
    have := List.mem_range.mp hm
    have e : (((xs.size : Int) - 1) + (m : Int) * (-1)).toNat = xs.size - 1 - m := by omega
    rw [e]
    exact rfl
  rw [e, PySem.W.krv_range, List.filterMap_reverse, PySem.W.krv_all]
section
variable {prog : Program} {w : World} {A : Around} {E : Value → Shared → Prop} {s : Shared}
theorem applied_back {sl : Addr} {tk : Tok} {n : Nat} {Q : Int × Int × Nat → Shared → Prop} (hs : s.heap.IsSliceOf sl .none .none (.int (-1) tk)) (h : Q ((n : Int) - 1, -1, n) s) :
    wpAny (model prog w) A (Builtin.Slice.sliceApplied (.ref sl) (pure (n : Int))) Q E s := by
  obtain ⟨os, hos, hcs, hds⟩ := id hs
  unfold Builtin.Slice.sliceApplied Builtin.Slice.sliceFields
  refine wpAny_bind (wpAny_bind (wpAny_field hos hds (x := .none) rfl (wpAny_bind (wpAny_field hos hds (x := .none) rfl (wpAny_bind (wpAny_field hos hds (x := .int (-1) tk) rfl (wpAny_pure ?_)))))))
  refine wpAny_bind (slicePart_int ?_)
  show wpAny _ _ (if ((-1 : Int) == 0) = true then _ else _) _ _ s
  rw [if_neg (by decide)]
  refine wpAny_bind (slicePart_none (wpAny_bind (slicePart_none (wpAny_bind (wpAny_pure ?_)))))
  show wpAny _ _ (match Builtin.Slice.sliceAdjust none none (-1) (n : Int) with | (lo, hi) => pure (lo, (-1 : Int), Builtin.Slice.slicePlaces lo hi (-1))) _ _ s
  rw [adjust_back]
  show wpAny _ _ (pure ((n : Int) - 1, (-1 : Int), Builtin.Slice.slicePlaces ((n : Int) - 1) (-1) (-1))) _ _ s
  rw [places_back]
  exact wpAny_pure h
theorem tup_back {t sl : Addr} {tk : Tok} {items : Array Value} {Q : Value → Shared → Prop} (ht : IsTup s.heap t items) (hs : s.heap.IsSliceOf sl .none .none (.int (-1) tk))
    (h : Q (.ref s.heap.objs.size) { s with heap := s.heap.push { cls := .type "tuple", data := .seq items.toList.reverse.toArray } }) (hsz : items.size ≤ sizeLine) : wpAny (model prog w) A (getItem (.ref t) (.ref sl)) Q E s := by
  have hz : sizeOk (.seq items.toList.reverse.toArray) := by
    show items.toList.reverse.toArray.size ≤ sizeLine
    rw [List.size_toArray, List.length_reverse, Array.length_toList]
    exact hsz
  obtain ⟨os, hos, hcs, hds⟩ := id hs
  have hTs : s.TypeIs (.ref sl) "slice" := ⟨os, hos, hcs⟩
  unfold getItem
  try with_reducible refine wpAny_holding ?_
  first | refine wpAny_bind (wpAny_pure ?_) | skip
  refine wpAny_bind (wpAny_sequenceKey ht.typeIs (by decide) ?_)
  refine wpAny_bind (wpAny_callSpecial?_slot (name := Str.ofString "__getitem__") ht.typeIs slot_tuple_getitem
    (wpAny_call_entry slot_tuple_getitem ht.typeIs entry_tuple_getitem ?_ (args_tuple_getitem _ _)))
  show wpAny _ _ (Builtin.Tuple.tupleItemsOf (.ref t) >>= _) _ _ s
  refine wpAny_bind (tupleItemsOf_ ht ?_)
  refine wpAny_bind (wpAny_typeOf hTs ?_)
  rw [if_pos (by decide)]
  refine wpAny_bind (applied_back hs ?_)
  have no : ¬ (((items.size : Int) - 1 == 0 && (-1 : Int) == 1 && items.size == items.size) = true) := by
    intro q
    rw [Bool.and_eq_true, Bool.and_eq_true] at q
    exact absurd q.1.2 (by decide)
  show wpAny _ _ (if ((items.size : Int) - 1 == 0 && (-1 : Int) == 1 && items.size == items.size) = true then _ else _) _ _ s
  rw [if_neg no, pick_back]
  first
    | exact wpAny_bind (m := Builtin.Tuple.tupleExact _) (wpAny_newObj_type (wpAny_pure ⟨_, rfl, wpAny_pure h⟩) hz)
    | exact wpAny_bind (m := Builtin.Tuple.tupleExact _) (wpAny_newObj_type (wpAny_bind (wpAny_pure (wpAny_pure ⟨_, rfl, wpAny_pure h⟩))) hz)
    | exact wpAny_bind (wpAny_bind (m := Builtin.Tuple.tupleExact _) (wpAny_newObj_type (wpAny_pure (wpAny_pure ⟨_, rfl, wpAny_pure h⟩)) hz))
end
def tRevT (K : PySem.W.Frag) (te : TE) : TE := fun σ H Q => te σ H fun x H1 => ∃ a xs, x = .ref a ∧ SqT K H1 a xs ∧ ∀ p, H1 p = none → Q (.ref p) (upd H1 p (.tup xs.reverse))
theorem pe_revT (he : PE X e te) : PE X (backE e k p1 p2 p3 pos) (tRevT X.K te) := by
  refine ⟨fun pins s σ H Q I h => Subscript_ (thn (he.run pins s σ H _ I h) fun v s1 ⟨x, H1, I1, r1, a, xs, ex, hx, q1⟩ => ?_)⟩
  subst ex
  cases r1
  refine back_parts I1 fun t s4 I4 => ?_
  have I5 : Inv X pins σ H1 { s4 with heap := s4.heap.push { cls := .type "slice", data := .fields #[.none, .none, .int (-1) t] } } := I4.kept (t' := s4.toks) fun b ob q => Heap.get?_push_of_some _ q
  obtain ⟨its, r, ht, hz⟩ := I5.tuple hx
  have hlen := r.length
  refine tail_any (ops := [.ref a, .ref s4.heap.objs.size]) ht.typeIs slot_tuple_getitem.lookup ?_ (by with_unfolding_all rfl)
  refine tup_back ht (Heap.IsSliceOf.new _ _ _ _) ?_ (by rw [List.size_toArray]; omega)
  refine ⟨.ref _, _, I5.laid (t' := s4.toks) (o := .tup xs.reverse) (fun b ob q => Heap.get?_push_of_some _ q) (Nat.le_refl _) ?_, rfl, q1 _ (I5.hok.fresh (Nat.le_refl _))⟩
  exact ⟨by rw [List.length_reverse]; exact hz, its.reverse, r.reverse, ⟨_, Heap.get?_push_size _ rfl, rfl, _, rfl⟩⟩
end
section
variable {X : Cx} {T : Tape} {ρ : List S} {Φ : PyData → Prop} {e : Expr} {k : Nat} {p1 p2 p3 pos : Pos}
theorem ev_revS (h : Ev X T ρ e fun d => ∃ z : Str, d = .str z ∧ z.length ≤ 100000 ∧ Φ (.str ⟨z.cps.reverse⟩)) : Ev X T ρ (backE e k p1 p2 p3 pos) Φ := by
  intro A σ B H Q s kQ
  refine we_of (pe_revS pe_we) (h A σ B H _ s fun v d B1 H1 s1 r q => ?_)
  obtain ⟨z, rfl, hl, q⟩ := q
  cases r
  exact ⟨z, rfl, hl, (kQ.step s1).now s1.e s1.t (.str _) q⟩
theorem ev_revT (h : Ev X T ρ e fun d => ∃ xs, d = .tuple xs ∧ Φ (.tuple xs.reverse)) : Ev X T ρ (backE e k p1 p2 p3 pos) Φ := by
  intro A σ B H Q s kQ
  refine we_of (pe_revT pe_we) (h A σ B H _ s fun v d B1 H1 s1 r q => ?_)
  obtain ⟨xs, rfl, q⟩ := q
  cases r with
  | tup h1 r1 => exact ⟨_, _, rfl, SqT.of (s1.e _ _ h1), fun p hp => (kQ.step s1).tup s1.e s1.t hp r1.reverse q⟩
end
end DL
namespace DL
open PySem PySem.Spec PyProof.Rows L2

/-! ### enumerate(a tuple) -/
theorem enumT_new {l : Addr} {items : Array Value} :
    Meets (Builtin.«enumerate.__new__» ⟨[.type "enumerate", .ref l], []⟩) (fun _ R s => s.heap.IsTuple l items ∧
      R (.ok (.ret (.ref (s.heap.push { cls := .type "tuple_iterator", data := .fields #[.ref l, .int 0 0] }).objs.size)))
        { s with heap := (s.heap.push { cls := .type "tuple_iterator", data := .fields #[.ref l, .int 0 0] }).push { cls := .type "enumerate", data := .fields #[.none, .bool false, .ref s.heap.objs.size, rawInt 0, .none, .none] } }) :=
  .of_wp fun prog w A R s h => by
    obtain ⟨hp, g, d, tk, os⟩ := s
    obtain ⟨h1, h⟩ := h
    have hsub := sub_enumerate
    have q1 : ∀ {A' : Around} {E : Value → Shared → Prop} {Q : Value → Shared → Prop}, Q (.ref hp.objs.size) ⟨hp.push { cls := .type "tuple_iterator", data := .fields #[.ref l, .int 0 0] }, g, d, tk, os⟩ → wpAny (model prog w) A' (pyIter (.ref l)) Q E ⟨hp, g, d, tk, os⟩ :=
      fun q => wpAny_pyIter_tuple h1 q
    wp_walk using q1
    refine wpAny_stack_any fun st => wpAny_pure ?_
    split
    · rename_i c _ _ _ _ _
      cases (c == Value.type "enumerate") <;> (wp_walk using q1; exact ⟨_, rfl, h⟩)
    · wp_walk using q1
      exact ⟨_, rfl, h⟩
theorem call_enumT {prog : Program} {w : World} {A : Around} {E : Value → Shared → Prop} {s : Shared} {l : Addr} {items : Array Value} {Q : Value → Shared → Prop} (hL : s.heap.IsTuple l items)
    (h : ∀ h', IsEnum h' (s.heap.objs.size + 1) s.heap.objs.size 0 .none → h'.IsTupleIter s.heap.objs.size l 0 →
      (∀ b o, s.heap.get? b = some o → h'.get? b = some o) → Q (.ref (s.heap.objs.size + 1)) { s with heap := h' }) :
    wpAny (model prog w) A (call (.type "enumerate") [.ref l]) Q E s := by
  refine callType_new F.called_enumerate (by decide) (F.typeCall_enumerate_1 _) (F.newCall_enumerate_1 _) (fun obj => F.args_object_init_2 obj _) F.entry_enumerate_new enumT_new ⟨hL, ?_⟩
  have hz : (s.heap.push { cls := .type "tuple_iterator", data := .fields #[.ref l, .int 0 0] }).objs.size = s.heap.objs.size + 1 := Heap.size_push ..
  show _ ∧ _
  rw [hz]
  have he : IsEnum ((s.heap.push { cls := .type "tuple_iterator", data := .fields #[.ref l, .int 0 0] }).push { cls := .type "enumerate", data := .fields #[.none, .bool false, .ref s.heap.objs.size, rawInt 0, .none, .none] }) (s.heap.objs.size + 1) s.heap.objs.size 0 .none := by
    have q := Heap.get?_push_size (s.heap.push { cls := .type "tuple_iterator", data := .fields #[.ref l, .int 0 0] }) (o := { cls := .type "enumerate", data := .fields #[.none, .bool false, .ref s.heap.objs.size, rawInt 0, .none, .none] }) rfl
    rw [hz] at q
    exact q
  refine ⟨⟨_, he, rfl⟩, h _ he ⟨_, Heap.get?_push_of_some _ (Heap.get?_push_size _ rfl), rfl, rfl⟩ fun b ob x => Heap.get?_push_of_some _ (Heap.get?_push_of_some _ x)⟩
def ItE (K : PySem.W.Frag) (a : Addr) : It :=
  ⟨fun i H => ∃ (xs : List V) (x : V), SqT K H a xs ∧ (∃ y, H a = some y) ∧ xs[i]? = some x, fun i H v H' => ∃ T x, v = .ref T ∧ H T = none ∧ H' = upd H T (.tup [.int (i : Nat), x]) ∧ ∀ xs, SqT K H a xs → xs[i]? = some x,
    fun i H => ∃ xs : List V, SqT K H a xs ∧ (∃ y, H a = some y) ∧ xs.length = i⟩
theorem turn_enumT {P : Program} {w : World} {K : PySem.W.Frag} {elts : List Expr} {kk : Nat} {tpos : Pos} (a e it : Addr) :
    Turn P w K (.Tuple elts kk tpos) (ItE K a) [e, it] e (fun i h => (∃ old, IsEnum h e it ((i : Nat) : Int) old) ∧ h.IsTupleIter it a i ∧ e ≠ it) where
  mem := by simp
  obj := fun i h st b hb => by
    obtain ⟨⟨old, he⟩, ⟨o, ho, hc, hd⟩, _⟩ := st
    rcases List.mem_cons.mp hb with z | z
    · exact ⟨_, by rw [z]; exact he, (fun v q => by cases q)⟩
    · rw [List.mem_singleton.mp z]; exact ⟨o, ho, fun v q => by rw [hd] at q; cases q⟩
  keep := fun i h h' st k => let ⟨⟨old, he⟩, hi, hne⟩ := st; ⟨⟨old, k e (by simp) _ he⟩, hi.at fun o q => k it (by simp) o q, hne⟩
  item := by
    intro X hP hw hK hc i pins s σ H E I hf st hg
    obtain ⟨⟨old, he⟩, hit, hne⟩ := st
    obtain ⟨xs, x, hq, ⟨y, hy⟩, hx⟩ := hg
    subst hP hw hK
    obtain ⟨its, rv, p, hz⟩ := I.tuple hq
    obtain ⟨u, hu, ru⟩ := rv.get hx
    have nea : e ≠ a := fun z => by have := (hf e (by simp)).1; rw [z, hy] at this; cases this
    have nia : a ≠ it := fun z => by have := (hf it (by simp)).1; rw [← z, hy] at this; cases this
    have hlt : i < its.toArray.size := by
      have := (List.getElem?_eq_some_iff.mp hu).1
      simpa using this
    refine wpAny_pyNext_enum_itemD (Draws.tuple (A := X.A.in1) (I.ok.hd hc) it a nia its.toArray) he ⟨hit, p⟩ hlt hne (by simp [hne, nea]) fun x' h' tk hP' ho hst' hT hsz hk => ?_
    have ex : x' = u := by
      have q : its[i]? = some x' := by simpa using hP'
      rw [hu] at q
      exact (Option.some.inj q).symm
    subst ex
    refine ⟨_, rfl, wpAny_letOwnedTupleGo_enum (s := { s with heap := h', toks := tk + 1 }) ho fun h'' he' sb => ?_⟩
    have hel : e < s.heap.objs.size := Heap.lt_size he
    have hil : it < s.heap.objs.size := by obtain ⟨_, q, _⟩ := hit; exact Heap.lt_size q
    have hT2 : h''.get? s.heap.objs.size = some { cls := .type "tuple", data := .seq #[.int i tk, x'] } := (sb.2 _ (Nat.ne_of_gt hel)).trans hT
    have nw : ObjOk X.prog X.w (upd H s.heap.objs.size (.tup [.int (i : Nat), x])) h'' s.heap.objs.size (.tup [.int (i : Nat), x]) :=
      ⟨by show 2 ≤ sizeLine; decide, [.int i tk, x'], .cons ⟨_, rfl⟩ (.cons ru .nil), ⟨_, hT2, rfl, _, rfl⟩⟩
    have I1 : Inv X pins σ (upd H s.heap.objs.size (.tup [.int (i : Nat), x])) { s with heap := h'', toks := tk + 1 } :=
      I.turnedNew (ch := [e, it]) (fun b ob hb q => (sb.2 b (fun z => hb (by simp [z]))).trans (hk b ob (fun z => hb (by simp [z])) (fun z => hb (by simp [z])) q)) hf (Nat.le_refl _) nw
    refine ⟨.ref s.heap.objs.size, _, I1, rfl, ⟨_, x, rfl, I.hok.fresh (Nat.le_refl _), rfl, fun ys hys => by rw [I.tuple_inj hys hq]; exact hx⟩, ⟨⟨x', by rw [Int.natCast_succ]; exact he'⟩, hst'.1.at fun o q => (sb.2 it (Ne.symm hne)).trans q, hne⟩, fun b hb => ?_⟩
    have hb' : b < s.heap.objs.size := by
      rcases List.mem_cons.mp hb with z | z
      · rw [z]; exact hel
      · rw [List.mem_singleton.mp z]; exact hil
    rw [upd_ne (Nat.ne_of_lt hb')]
    exact (hf b hb).1
  done := by
    intro X hP hw hK hc i pins s σ H E I hf st hg
    obtain ⟨⟨old, he⟩, hit, hne⟩ := st
    obtain ⟨xs, hq, ⟨y, hy⟩, hx⟩ := hg
    subst hP hw hK
    obtain ⟨its, rv, p, hz⟩ := I.tuple hq
    have nia : a ≠ it := fun z => by have := (hf it (by simp)).1; rw [← z, hy] at this; cases this
    obtain ⟨f0, f1, f2, f3, f4, f5⟩ := hf it (by simp)
    have hl := rv.length
    subst hx
    refine wpAny_pyNext_enum_endD (Draws.tuple (A := X.A.in1) (I.ok.hd hc) it a nia its.toArray) he ⟨by rw [List.size_toArray, ← hl]; exact hit, p⟩ fun h' eb => ⟨rfl, I.turned (t' := s.toks) (fun b o hb q => eb b o hb q) f0 f1 f3 f4 f5⟩
  self := fun A i s Q E st h => let ⟨⟨_, he⟩, _⟩ := st; wpAny_pyIter_enum he h
section
variable {G : Glb} {N : List Str} {sc : Scope} {ks : List (Option NameKind)} {gs : List Str} {fc : Bool} {lv : Nat} {X : Cx} {T : Tape} {ρ : List S} {p pos : Pos} {Ψ : List PyData → Prop} {Φ : PyData → Prop} {O : Out} {tg e : Expr}
def iEnumT (K : PySem.W.Frag) (ta : TA) : TI := fun σ H R => ta σ H fun vs H1 => ∃ a xs, vs = [.ref a] ∧ SqT K H1 a xs ∧ R (ItE K a) H1
theorem pi_enumT {ta : TA} {tpos : Pos} {elts : List Expr} {kk : Nat} (hg : Gl X "enumerate") (hm : X.mg "enumerate" = none) (ha : PA X [e] ta) (hs : starEach [e] X.env = [(false, eval e X.env)] := by rfl) :
    PI X (.Tuple elts kk tpos) (.Call (.Name "enumerate" p) [e] [] pos) (iEnumT X.K ta) := by
  refine ⟨fun pins s σ H R I h => Call_ (ld_blt I hg hm boot_enumerate (PyProof.Rows.callWith_type1 (thn (ha.run pos pins s σ H _ I h) fun us s1 ⟨vs, H1, I1, r1, a, xs, ex, hq, q⟩ => ?_) hs rfl))⟩
  subst ex
  cases r1 with
  | cons r rr =>
    cases rr
    cases r
    obtain ⟨its, rv, p', hz⟩ := I1.tuple hq
    refine call_enumT p' fun h' he hit hk => wpAny_pyIter_enum he ?_
    refine ⟨s1.heap.objs.size + 1, [s1.heap.objs.size + 1, s1.heap.objs.size], _, _, H1, rfl, I1.kept (t' := s1.toks) hk, turn_enumT a (s1.heap.objs.size + 1) s1.heap.objs.size, ⟨⟨.none, he⟩, hit, Nat.succ_ne_self _⟩, fun b hb => ?_, q⟩
    have hle : s1.heap.objs.size ≤ b := by
      rcases List.mem_cons.mp hb with z | z
      · rw [z]; exact Nat.le_add_right _ _
      · rw [List.mem_singleton.mp z]; exact Nat.le_refl _
    exact I1.fpOk hle (I1.hok.fresh hle)
theorem ei_enumT (h : XOk G N sc ks gs fc lv X) (j : Nat) (hm : G.mg "enumerate" = none) {a : Expr} {elts : List Expr} {kk : Nat} {tpos : Pos} (ha : Ev X T ρ a fun d => ∃ xs, d = .tuple xs ∧ Ψ (enumD xs)) (hg : gs[j]? = some ("enumerate" : Str) := by rfl)
    (hs : starEach [a] X.env = [(false, eval a X.env)] := by rfl) : Ei X T ρ (.Tuple elts kk tpos) (.Call (.Name "enumerate" p) [a] [] pos) Ψ := by
  intro A σ B H R s kR
  refine wi_of (pi_enumT (h.gl hg) (by rw [h.eg]; exact hm) (pa_cons pe_we pa_nil (by exact hs)) hs) (ha A σ B H _ s fun v d B1 H1 s1 r q => ?_)
  obtain ⟨xs, rfl, q⟩ := q
  cases r with
  | tup ha hd =>
    rename_i a vs
    refine ⟨a, vs, rfl, SqT.of (s1.e _ _ ha), kR _ _ B1 H1 s1 ⟨fun i B2 H2 a1 a2 hi => ?_, fun B2 H2 a1 a2 => ?_, fun i B2 H2 x H3 a1 a2 t hi y => ?_⟩ q⟩
    · rw [enumD_length, ← hd.length] at hi
      exact ⟨vs, vs[i], SqT.of (a2 _ _ (a1 _ _ ha)), ⟨_, a2 _ _ (a1 _ _ ha)⟩, by simp [hi]⟩
    · exact ⟨vs, SqT.of (a2 _ _ (a1 _ _ ha)), ⟨_, a2 _ _ (a1 _ _ ha)⟩, by rw [enumD_length]; exact hd.length⟩
    · obtain ⟨Tt, x2, rfl, hT, rfl, e2⟩ := y
      obtain ⟨d, e3, r3⟩ := hd.get (e2 vs (SqT.of (a2 _ _ (a1 _ _ ha))))
      have st := Step.new (o := .tup [.int (i : Nat), x2]) a2 t hT
      exact ⟨_, _, st, enumD_get e3, .tup upd_same (.cons (.int _) (.cons ((r3.mono a1).mono st.b) .nil))⟩

/-! ### methods of a list of the frame's own -/
theorem own_recv {x : Str} {i : Nat} {k : NameKind} {ds : List PyData} {A : Hp × Hp} {σ : L2.St} {B H : Hp} {px : Pos} (h : XOk G N sc ks gs fc lv X) (hi : ρ[i]? = some (.own ds)) (hN : N[i]? = some x) (hk : ks[i]? = some (some k)) (hv : visK k = true) (s : Sl T A σ B H ρ) :
    PE X (.Name x px) (tVar i) ∧ ∃ p vs, σ[i]? = some (some (.ref p)) ∧ H p = some (.lst vs) ∧ DtA B vs ds := by
  have hd := h.hk i x k hN hk
  obtain ⟨p, vs, e, nt, nb, hp, r⟩ := s.sl i _ hi
  exact ⟨pe_var (by rw [h.eN]; exact hN) (h.vis hN hk hv) hd.2.1 hd.2.2, p, vs, e, hp, r⟩
theorem own_later {i : Nat} {ds : List PyData} {A : Hp × Hp} {σ : L2.St} {B H : Hp} {a : Addr} (s : Sl T A σ B H ρ) (hi : ρ[i]? = some (.own ds)) (hs : σ[i]? = some (some (.ref a))) : ∃ vs, H a = some (.lst vs) ∧ DtA B vs ds := by
  obtain ⟨p', vs, e, nt, nb, hp, r⟩ := s.sl i _ hi
  rw [hs] at e
  cases e
  exact ⟨vs, hp, r⟩
/-- x.append(e) -/
theorem s1_append (h : XOk G N sc ks gs fc lv X) (i : Nat) {x : Str} {k : NameKind} {ds : List PyData} {px apos cpos : Pos} (hi : ρ[i]? = some (.own ds)) (he : Ev X T ρ e fun d => ds.length < 100000 ∧ O.nx (ρ.set i (.own (ds ++ [d])))) (hN : N[i]? = some x := by rfl) (hk : ks[i]? = some (some k) := by rfl) (hv : visK k = true := by rfl)
    (hs : starEach [e] X.env = [(false, eval e X.env)] := by rfl) (hline : (apos.endLine == cpos.line) = true := by rfl) : S1 X T ρ (.Expr (.Call (.Attribute (.Name x px) "append" apos) [e] [] cpos) pos) O := by
  intro A σ B H D s kD
  obtain ⟨hn, a, vs0, ea, ha, _⟩ := own_recv (px := px) h hi hN hk hv s
  refine ws_of (ps_expr (pe_bm F.plainAttrs_list F.slot_list_append F.type_list_append mt_append hn (pa_cons pe_we pa_nil (by exact hs)) rfl (by rw [hs]; rfl) hline (by exact hs) rfl) rfl) ⟨_, ea, .inl ⟨rfl, _, SqL.of ha⟩, ?_⟩
  refine he A σ B H _ s fun v d B1 H1 s1 r q => ?_
  obtain ⟨vs, hp, r1⟩ := own_later (s.step s1) hi ea
  refine ⟨a, vs, v, rfl, rfl, hp, Nat.lt_of_lt_of_le (by rw [r1.length]; exact q.1) (by decide), ?_⟩
  exact kD.nx σ B1 _ _ ((s.step s1).mut hi ea (r1.append (.cons r .nil))) q.2
/-- x.extend(e) -/
theorem s1_extend (h : XOk G N sc ks gs fc lv X) (i : Nat) {x : Str} {k : NameKind} {ds : List PyData} {px apos cpos : Pos} (hi : ρ[i]? = some (.own ds)) (he : Ev X T ρ e fun d => ∃ es, d = .list es ∧ ds.length + es.length ≤ 100000 ∧ O.nx (ρ.set i (.own (ds ++ es)))) (hN : N[i]? = some x := by rfl) (hk : ks[i]? = some (some k) := by rfl) (hv : visK k = true := by rfl)
    (hs : starEach [e] X.env = [(false, eval e X.env)] := by rfl) (hline : (apos.endLine == cpos.line) = true := by rfl) : S1 X T ρ (.Expr (.Call (.Attribute (.Name x px) "extend" apos) [e] [] cpos) pos) O := by
  intro A σ B H D s kD
  obtain ⟨hn, a, vs0, ea, ha, _⟩ := own_recv (px := px) h hi hN hk hv s
  refine ws_of (ps_expr (pe_bm F.plainAttrs_list F.slot_list_extend F.type_list_extend mt_extend hn (pa_cons pe_we pa_nil (by exact hs)) rfl (by rw [hs]; rfl) hline (by exact hs) rfl) rfl) ⟨_, ea, .inl ⟨rfl, _, SqL.of ha⟩, ?_⟩
  refine he A σ B H _ s fun v d B1 H1 s1 r q => ?_
  obtain ⟨es, rfl, hl, q⟩ := q
  obtain ⟨vs, hp, r1⟩ := own_later (s.step s1) hi ea
  cases r with
  | lst hb r2 =>
    have l1 := r1.length
    have l2 := r2.length
    refine ⟨a, _, vs, _, rfl, rfl, hp, s1.e _ _ hb, Nat.le_trans (by omega : _ ≤ 100000) (by decide), ?_⟩
    exact kD.nx σ B1 _ _ ((s.step s1).mut hi ea (r1.append r2)) q
/-- x.insert(i, e) -/
theorem s1_insert (h : XOk G N sc ks gs fc lv X) (i : Nat) {x : Str} {k : NameKind} {ds : List PyData} {px apos cpos : Pos} {b : Expr} (hi : ρ[i]? = some (.own ds)) (he : Ev X T ρ e fun c => Ev X T ρ b fun d => ∃ n : Nat, c = .int n ∧ n ≤ 100000 ∧ ds.length < 100000 ∧ O.nx (ρ.set i (.own (ds.take n ++ [d] ++ ds.drop n)))) (hN : N[i]? = some x := by rfl) (hk : ks[i]? = some (some k) := by rfl) (hv : visK k = true := by rfl)
    (hs : starEach [e, b] X.env = [(false, eval e X.env), (false, eval b X.env)] := by rfl) (hs2 : starEach [b] X.env = [(false, eval b X.env)] := by rfl) (hline : (apos.endLine == cpos.line) = true := by rfl) : S1 X T ρ (.Expr (.Call (.Attribute (.Name x px) "insert" apos) [e, b] [] cpos) pos) O := by
  intro A σ B H D s kD
  obtain ⟨hn, a, vs0, ea, ha, _⟩ := own_recv (px := px) h hi hN hk hv s
  refine ws_of (ps_expr (pe_bm F.plainAttrs_list F.slot_list_insert F.type_list_insert mt_insert hn (pa_cons pe_we (pa_cons pe_we pa_nil (by exact hs2)) (by rw [hs, hs2])) rfl (by rw [hs]; rfl) hline (by rw [hs, hs2]) (by rw [hs2]; rfl)) rfl) ⟨_, ea, .inl ⟨rfl, _, SqL.of ha⟩, ?_⟩
  refine he A σ B H _ s fun v c B1 H1 s1 r q => q A σ B1 H1 _ (s.step s1) fun w d B2 H2 s2 r2 q => ?_
  obtain ⟨n, rfl, hn1, hl, q⟩ := q
  obtain ⟨vs, hp, r1⟩ := own_later ((s.step s1).step s2) hi ea
  have e0 : v = .int (n : Int) := by cases r; rfl
  subst e0
  refine ⟨a, vs, (n : Int), w, rfl, rfl, hp, Nat.lt_of_lt_of_le (by rw [r1.length]; exact hl) (by decide), by omega, by omega, ?_⟩
  exact kD.nx σ B2 _ _ (((s.step s1).step s2).mut hi ea (((r1.take n).append (.cons r2 .nil)).append (r1.drop n))) q
/-- x.pop(), x.reverse() -/
theorem s1_pop (h : XOk G N sc ks gs fc lv X) (i : Nat) {x : Str} {k : NameKind} {ds : List PyData} {px apos cpos : Pos} (hi : ρ[i]? = some (.own ds)) (hne : 0 < ds.length) (q : O.nx (ρ.set i (.own ds.dropLast))) (hN : N[i]? = some x := by rfl) (hk : ks[i]? = some (some k) := by rfl) (hv : visK k = true := by rfl)
    (hline : (apos.endLine == cpos.line) = true := by rfl) : S1 X T ρ (.Expr (.Call (.Attribute (.Name x px) "pop" apos) [] [] cpos) pos) O := by
  intro A σ B H D s kD
  obtain ⟨hn, a, vs, ea, ha, r⟩ := own_recv (px := px) h hi hN hk hv s
  refine ws_of (ps_expr (pe_bm0 F.plainAttrs_list F.slot_list_pop F.type_list_pop mt_pop hn rfl hline) rfl) ⟨_, ea, .inl ⟨rfl, _, SqL.of ha⟩, ?_⟩
  have l := r.length
  have hl : vs.length - 1 < vs.length := by omega
  refine ⟨a, vs, vs[vs.length - 1], rfl, rfl, ha, by simp [hl], ?_⟩
  have e1 : vs.dropLast = vs.take (vs.length - 1) := List.dropLast_eq_take ..
  have e2 : ds.dropLast = ds.take (vs.length - 1) := by rw [l]; exact List.dropLast_eq_take ..
  rw [e2] at q
  rw [e1]
  exact kD.nx σ B _ _ (s.mut hi ea (r.take _)) q
theorem s1_reverse (h : XOk G N sc ks gs fc lv X) (i : Nat) {x : Str} {k : NameKind} {ds : List PyData} {px apos cpos : Pos} (hi : ρ[i]? = some (.own ds)) (q : O.nx (ρ.set i (.own ds.reverse))) (hN : N[i]? = some x := by rfl) (hk : ks[i]? = some (some k) := by rfl) (hv : visK k = true := by rfl)
    (hline : (apos.endLine == cpos.line) = true := by rfl) : S1 X T ρ (.Expr (.Call (.Attribute (.Name x px) "reverse" apos) [] [] cpos) pos) O := by
  intro A σ B H D s kD
  obtain ⟨hn, a, vs, ea, ha, r⟩ := own_recv (px := px) h hi hN hk hv s
  refine ws_of (ps_expr (pe_bm0 F.plainAttrs_list F.slot_list_reverse F.type_list_reverse mt_reverse hn rfl hline) rfl) ⟨_, ea, .inl ⟨rfl, _, SqL.of ha⟩, ?_⟩
  exact ⟨a, vs, rfl, rfl, ha, kD.nx σ B _ _ (s.mut hi ea r.reverse) q⟩
end
end DL
namespace DL
open PySem PySem.Spec PyProof.Rows L2

/-! ### sorted(a list), sorted(a tuple) -/
section
variable {prog : Program} {w : World} {A : Around} {E : Value → Shared → Prop} {s : Shared}
theorem collT {l : Addr} {us : List Value} {Q : List Value → Shared → Prop} (hl : s.heap.IsTuple l us.toArray) (h : Q us { s with heap := (s.heap.push (seqObj "list" #[] 0)).update s.heap.objs.size (Obj.mapSeq (· ++ us.toArray)) }) (hz : us.length ≤ sizeLine) :
    wpAny (model prog w) A (collect (.ref l)) Q E s := by
  obtain ⟨o, ho, hc, n, hd⟩ := id hl
  unfold collect
  refine wpAny_bind (wpAny_runValue (codeAny_builtin entry_proto_collect' ?_))
  show wpAny _ _ (do again (.builtin "list.__iadd__" ⟨[← newList [], .ref l], []⟩)) _ _ s
  refine wpAny_bind (wpAny_newList (wpAny_pure ⟨Code.quiet_builtin _ (by decide +kernel), codeAny_builtin entry_list_iadd' ?_⟩))
  show wpAny _ _ (Builtin.List.listExtendWith (.ref s.heap.objs.size) (.ref l) (.ref s.heap.objs.size)) _ _ { s with heap := s.heap.push (seqObj "list" #[] 0) }
  unfold Builtin.List.listExtendWith
  have ho2 : (s.heap.push (seqObj "list" #[] 0)).get? l = some o := Heap.get?_push_of_some _ ho
  refine wpAny_bind (wpAny_typeOf (T := "tuple") ⟨o, ho2, hc⟩ ?_)
  rw [if_pos (by rw [show (Value.type "tuple" == Value.type "tuple") = true from rfl, Bool.or_true])]
  refine wpAny_bind (listItems_at ho2 hd (wpAny_bind (listItems_at (xs := #[]) (n := 0) (Heap.get?_push_size _ rfl) rfl ?_)))
  rw [if_neg (by simp)]
  refine wpAny_bind (listUpdate_at (xs := #[]) (n := 0) (Heap.get?_push_size _ rfl) rfl ?_ (Nat.zero_le _) (by show (#[] ++ us.toArray).size ≤ sizeLine + 1; simp only [Array.size_append, List.size_toArray, List.length_nil]; omega))
  refine wpAny_pure ?_
  show wpAny (model prog w) A (do
      let ob ← load s.heap.objs.size
      match ob.data with
      | .seq xs _ => pure xs.toList
      | _ => unsupported "internal:collect") Q E { s with heap := (s.heap.push (seqObj "list" #[] 0)).update s.heap.objs.size (Obj.mapSeq (· ++ us.toArray)) }
  refine wpAny_bind (wpAny_load (get?_update_seq (Heap.get?_push_size _ rfl) _) ?_)
  show wpAny _ _ (pure ((#[] : Array Value) ++ us.toArray).toList) Q E _
  rw [show ((#[] : Array Value) ++ us.toArray).toList = us by simp]
  exact wpAny_pure h
open PySem.W in
theorem sortedT_data {β : Type} {l : Addr} {us : List Value} {bs : List β} {enc : β → PyData} {R : Value → β → Prop} {Q : Value → Shared → Prop} (hl : s.heap.IsTuple l us.toArray) (e : EachIs R us bs) (er : EachIs (fun v b => ∃ as, Reads s.heap v (enc b) as) us bs) (hal : AllAlike (bs.map enc)) (hk : Sortable (bs.map enc)) (hL : bs.length ≤ sizeLine)
    (hu : ∀ b, b ∈ bs → A.units + 2 + (enc b).depth < cLine) (h : ∀ out, out.length = bs.length → EachIs R out (bs.mergeSort (dataLe false enc)) → Q (.ref (s.heap.objs.size + 1)) { s with heap := sortedAll s.heap us (List.toArray out) }) :
    wpAny (model prog w) A (call (.builtin "sorted") [.ref l]) Q E s := by
  have er2 : EachIs (fun v b => ∃ as, Reads (sortingHeap (copyHeap s.heap us) (s.heap.objs.size + 1) us) v (enc b) as) us bs := er.mono fun _ _ ⟨as, r⟩ => ⟨as, PyProof.Rows.Reads.keeps (fun _ _ => sorting_copy_old) r⟩
  have hL2 : us.length ≤ sizeLine := by rw [e.length]; exact hL
  have srt : SortsAt prog w A.in1.in1 { s with heap := sortingHeap (copyHeap s.heap us) (s.heap.objs.size + 1) us } (dataKind (sortingHeap (copyHeap s.heap us) (s.heap.objs.size + 1) us) (bs.map enc)) us :=
    SortsAt.data (s := { s with heap := sortingHeap (copyHeap s.heap us) (s.heap.objs.size + 1) us }) (each_map (R := fun v d => ∃ as, Reads (sortingHeap (copyHeap s.heap us) (s.heap.objs.size + 1) us) v d as) enc er2) hal hk (bound_map hu)
  refine Calls.call_function_entry kind_sorted plain_sorted entry_sorted (args_sorted1 _) ?_
  unfold Builtin.«sorted»
  refine wpAny_bind (m := checkCount "sorted" 1 1 _) (wpAny_pure (wpAny_bind (collT hl (wpAny_bind (wpAny_newList ?_ hL2)) hL2)))
  have hsz : ((s.heap.push (seqObj "list" #[] 0)).update s.heap.objs.size (Obj.mapSeq (· ++ us.toArray))).objs.size = s.heap.objs.size + 1 := by rw [Heap.size_update, size_push']
  show wpAny _ _ _ _ _ { s with heap := copyHeap s.heap us }
  rw [hsz]
  refine wpAny_bind (wpAny_holding (wpAny_call_entry slot_list_sort ⟨_, copyHeap_at s.heap us, rfl⟩ entry_list_sort ?body (args_list_sort _)))
  show wpAny (model prog w) A.in1.in1 (Builtin.«list.sort» ⟨[.ref (s.heap.objs.size + 1)], []⟩) _ _ _
  exact list_sort_vals (s := { s with heap := copyHeap s.heap us }) (copyHeap_at s.heap us) srt hL2 ⟨_, rfl, wpAny_pure ⟨_, rfl, h _ (by rw [sortVals_length false rfl]; exact e.length) (sortVals_data false e er2 hal)⟩⟩
end
section
variable {X : Cx} {Φ : PyData → Prop}
theorem each_of {β : Type} {B : Hp} {enc : β → PyData} : ∀ {bs : List β} {vs : List V} {us : List Value}, DtA B vs (bs.map enc) → Vals vs us → PySem.W.EachIs (fun u b => ∃ v, RelV v u ∧ Dt B v (enc b)) us bs
  | [], _, _, h, r => by cases h; cases r; exact .nil
  | b :: bs, _, _, h, r => by
    cases h with
    | cons h1 h2 =>
      cases r with
      | cons r1 r2 => exact .cons ⟨_, r1, h1⟩ (each_of h2 r2)
theorem each_back {β : Type} {B : Hp} {enc : β → PyData} : ∀ {bs : List β} {us : List Value}, PySem.W.EachIs (fun u b => ∃ v, RelV v u ∧ Dt B v (enc b)) us bs → ∃ vs, Vals vs us ∧ DtA B vs (bs.map enc)
  | _, _, .nil => ⟨[], .nil, .nil⟩
  | _, _, .cons ⟨v, r, h⟩ t => by
    obtain ⟨vs, r2, h2⟩ := each_back t
    exact ⟨v :: vs, .cons r r2, .cons h h2⟩
theorem each_reads {β : Type} {B H : Hp} {enc : β → PyData} {pins : List (Addr × Obj)} {σ : L2.St} {s : Shared} (I : Inv X pins σ H s) (e : Same B H) : ∀ {bs : List β} {us : List Value}, PySem.W.EachIs (fun u b => ∃ v, RelV v u ∧ Dt B v (enc b)) us bs → PySem.W.EachIs (fun u b => ∃ as, Reads s.heap u (enc b) as) us bs
  | _, _, .nil => .nil
  | _, _, .cons ⟨v, r, h⟩ t => .cons (Dp.reads I _ _ _ ((h.mono e).dp) r) (each_reads I e t)
theorem sorted_fin {β : Type} {T : Tape} {B H : Hp} {enc : β → PyData} {Q : VK} {pins : List (Addr × Obj)} {σ : L2.St} {s : Shared} {its out : List Value} {bs : List β} (I : Inv X pins σ H s) (e : Same B H) (t : Tp T B H) (hn : bs.length ≤ 100000) (k : Kv T B H Φ Q)
    (hl : out.length = bs.length) (ho : PySem.W.EachIs (fun u b => ∃ v, RelV v u ∧ Dt B v (enc b)) out (bs.mergeSort (PySem.W.dataLe false enc))) (q : Φ (.list ((bs.mergeSort (PySem.W.dataLe false enc)).map enc))) :
    EP X pins σ Q (.ref (s.heap.objs.size + 1)) { s with heap := sortedAll s.heap its (List.toArray out) } := by
  obtain ⟨vs, rv, hd⟩ := each_back ho
  obtain ⟨ep, he⟩ := sortedAll_at s.heap its (List.toArray out)
  have hlen : vs.length ≤ sizeLine := by rw [rv.length, hl]; exact Nat.le_trans hn (by decide)
  have hf := I.hok.fresh (Nat.le_succ s.heap.objs.size)
  exact ⟨.ref _, upd H (s.heap.objs.size + 1) (.lst vs), I.laid (t' := s.toks) (fun _ _ => sortedAll_old) (Nat.le_succ _) ⟨hlen, out, ep, rv, he⟩, rfl, k.lst e t hf hd q⟩
theorem cd_sortedL {β : Type} (enc : β → PyData) (bs : List β) (hu : X.A.units + 64 < cLine) (hal : ∀ b b', PySem.W.alike (enc b) (enc b') = true) (hk : PySem.W.Sortable (bs.map enc)) (hdp : ∀ b, (enc b).depth ≤ 8) (hn : bs.length ≤ 100000)
    (q : Φ (.list ((bs.mergeSort (PySem.W.dataLe false enc)).map enc))) : CD X (.builtin "sorted") [.val (.list (bs.map enc))] Φ := by
  intro T B H vs Q e t r k pins s σ us I rv
  cases r with
  | val r1 r2 =>
    cases r2
    cases r1 with
    | lst h1 r1 =>
      rw [Vals.ref1 rv]
      obtain ⟨its, rits, hl, hz⟩ := I.list (SqL.of (e _ _ h1))
      have ea := each_of r1 rits
      have hlen := ea.length
      exact PySem.W.sorted_data hl.isList ea (each_reads I e ea) (PySem.W.AllAlike.of hal) hk (Nat.le_trans hn (by decide)) (fun b _ => by have := hdp b; omega) fun out ho h => sorted_fin I e t hn k ho h q
theorem cd_sortedT {β : Type} (enc : β → PyData) (bs : List β) (hu : X.A.units + 64 < cLine) (hal : ∀ b b', PySem.W.alike (enc b) (enc b') = true) (hk : PySem.W.Sortable (bs.map enc)) (hdp : ∀ b, (enc b).depth ≤ 8) (hn : bs.length ≤ 100000)
    (q : Φ (.list ((bs.mergeSort (PySem.W.dataLe false enc)).map enc))) : CD X (.builtin "sorted") [.val (.tuple (bs.map enc))] Φ := by
  intro T B H vs Q e t r k pins s σ us I rv
  cases r with
  | val r1 r2 =>
    cases r2
    cases r1 with
    | tup h1 r1 =>
      rw [Vals.ref1 rv]
      obtain ⟨its, rits, hl, hz⟩ := I.tuple (SqT.of (e _ _ h1))
      have ea := each_of r1 rits
      have hlen := ea.length
      exact sortedT_data hl ea (each_reads I e ea) (PySem.W.AllAlike.of hal) hk (Nat.le_trans hn (by decide)) (fun b _ => by have := hdp b; omega) fun out ho h => sorted_fin I e t hn k ho h q
/-- x < y of alike data -/
theorem od_ltD {x y : PyData} (hu : X.A.units + 64 < cLine) (hal : PySem.W.alike x y = true) (hx : x ≠ .none) (hd : x.depth ≤ 8) (q : Φ (.bool (PySem.W.dataLt x y))) : OpD X (compareOp .Lt) x y Φ := by
  intro T B H v w Q e t r1 r2 k pins s σ vv ww I rv rw'
  obtain ⟨as, q1⟩ := Dp.reads I _ _ _ ((r1.mono e).dp) rv
  obtain ⟨bs, q2⟩ := Dp.reads I _ _ _ ((r2.mono e).dp) rw'
  have h := PySem.W.rcLt_alike x y X.A s vv ww as bs q1 q2 hal hx (by omega)
  exact h X.prog X.w X.xe _ ⟨.bl _, H, I, rfl, k.now e t (.bl _) q⟩
end
end DL
namespace DL
open PySem PySem.Spec PyProof.Rows L2
section
variable {G : Glb} {N : List Str} {sc : Scope} {ks : List (Option NameKind)} {gs : List Str} {fc : Bool} {lv : Nat} {X : Cx} {T : Tape} {ρ : List S} {Φ : PyData → Prop} {O : Out} {p q pos : Pos} {e : Expr}

/-! ### isinstance(x, T) -/
def tyD : PyData → String
  | .none => "NoneType"
  | .bool _ => "bool"
  | .int _ => "int"
  | .str _ => "str"
  | .list _ => "list"
  | .tuple _ => "tuple"
  | .dict _ => "dict"
theorem tyx_of {K : PySem.W.Frag} {B H : Hp} (e : Same B H) : ∀ {d : PyData} {v : V}, Dt B v d → TyX K H v (.type (tyD d))
  | .none, _, h => by cases h; exact .base .non
  | .bool b, _, h => by cases h; exact .base (.bl b)
  | .int i, _, h => by cases h; exact .base (.int i)
  | .str z, _, h => by cases h; exact .base (.str z)
  | .list ds, _, h => by cases h with | lst a r => exact .base (.lst (e _ _ a))
  | .tuple ds, _, h => by cases h with | tup a r => exact .base (.tup (e _ _ a))
  | .dict _, _, h => by cases h
theorem isi_one {K : PySem.W.Frag} {H : Hp} {v : V} {t : String} {b : Bool} {Q : VK} {T0 : Value} (ty : TyX K H v T0) (hT : ∃ s, T0 = .type s ∧ kitB s t = some b) (q : Q (.bl b) H) : rIsi K [v, .ty t] H Q := by
  obtain ⟨s, rfl, hk⟩ := hT
  exact ⟨v, .ty t, .type s, .type t, b, rfl, .ty t, ty, kit_ty hk, q⟩
theorem ev_isi (h : XOk G N sc ks gs fc lv X) (j i : Nat) {t : Str} {c : String} (hm : G.mg "isinstance" = none) (hm2 : G.mg t = none) (hb : bootBuiltins t = some (.type c)) (he : Ev X T ρ e fun d => ∃ b, kitB (tyD d) c = some b ∧ Φ (.bool b)) (hg : gs[j]? = some ("isinstance" : Str) := by rfl) (hg2 : gs[i]? = some t := by rfl)
    (hs : starEach [e, .Name t q] X.env = (false, eval e X.env) :: starEach [.Name t q] X.env := by rfl) (hs2 : starEach [.Name t q] X.env = (false, eval (.Name t q) X.env) :: starEach [] X.env := by rfl)
    (hpl : (backTo pos (starEach [.Name t q] X.env)).any (·.1) = false := by rfl) : Ev X T ρ (.Call (.Name "isinstance" p) [e, .Name t q] [] pos) Φ := by
  intro A σ B H Q s kQ
  have g2 := h.hg i t hg2
  refine we_of (pe_callB call_isi (h.gl hg) (by rw [h.eg]; exact hm) (by decide +kernel) (pa_cons pe_we (pa_cons (pe_bltn (h.gl hg2) (by rw [h.eg]; exact hm2) hb (show RelV (.ty c) (.type c) from rfl) g2.2.2 g2.2.1) pa_nil hs2) hs) (by decide) (by decide) hs hpl) ?_
  refine he A σ B H _ s fun v d B1 H1 s1 r1 q1 => ?_
  obtain ⟨b, hk, q1⟩ := q1
  exact isi_one (tyx_of s1.e r1) ⟨_, rfl, hk⟩ (kQ _ (.bool b) B1 H1 s1 (.bl b) q1)

/-! ### text.index(sign) -/
theorem at_one {x : Str} {c i : Nat} : PySem.StrLaws.At x ⟨#[c]⟩ x.length i ↔ x.cps.toList[i]? = some c := by
  have e1 : (⟨#[c]⟩ : Str).length = 1 := rfl
  unfold PySem.StrLaws.At Builtin.Str.subAt
  rw [e1]
  have key : ∀ h : i + 1 ≤ x.cps.size, (x.cps.extract i (i + 1) == #[c]) = true ↔ x.cps.toList[i]? = some c := fun h => by
    have e2 : x.cps.extract i (i + 1) = #[x.cps[i]] := by
      apply Array.ext
      · simp; omega
      · intro k h1 h2
        simp at h2
        subst h2
        simp
    rw [e2, beq_iff_eq]
    simp [Array.getElem?_toList, Array.getElem?_eq_getElem (show i < x.cps.size by omega)]
  constructor
  · rintro ⟨h1, h2⟩
    exact (key h1).mp h2
  · intro h1
    have h3 : i < x.cps.toList.length := (List.getElem?_eq_some_iff.mp h1).1
    simp at h3
    exact ⟨h3, (key h3).mpr h1⟩
theorem occ_sign {x : Str} {c : Nat} (hc : c ∈ x.cps.toList) : ∃ r, Builtin.Str.occurrences x ⟨#[c]⟩ 0 x.length 1 = x.cps.toList.idxOf c :: r := by
  have hl : x.cps.toList.idxOf c < x.cps.toList.length := List.idxOf_lt_length_iff.mpr hc
  have hi : x.cps.toList[x.cps.toList.idxOf c]? = some c := by rw [List.getElem?_eq_getElem hl, List.getElem_idxOf hl]
  rcases PySem.StrLaws.occ_head x ⟨#[c]⟩ 1 (Nat.le_refl _) with ⟨_, hn⟩ | ⟨i, r, e, ha, hn⟩
  · exact absurd (at_one.mpr hi) (hn _)
  · have ha' := at_one.mp ha
    refine ⟨r, ?_⟩
    rw [e]
    congr 1
    rcases Nat.lt_trichotomy i (x.cps.toList.idxOf c) with h | h | h
    · obtain ⟨h1, h2⟩ := List.getElem?_eq_some_iff.mp ha'
      have := List.not_of_lt_findIdx (p := (· == c)) (xs := x.cps.toList) (i := i) h
      rw [h2] at this
      simp at this
    · exact h
    · exact absurd (at_one.mpr hi) (hn _ h)
theorem ev_sindex {o : Expr} {apos : Pos} (h : Ev X T ρ o fun d => ∃ z : Str, d = .str z ∧ Ev X T ρ e fun y => ∃ c : Nat, y = .str ⟨#[c]⟩ ∧ c ∈ z.cps.toList ∧ Φ (.int (z.cps.toList.idxOf c : Nat)))
    (hs : starEach [e] X.env = (false, eval e X.env) :: starEach [] X.env := by rfl) (hbase : attributeBase o "index" X.env (eval o X.env) = eval o X.env := by rfl) (hline : (apos.endLine == pos.line) = true := by rfl)
    (hfew : ((backTo pos (starEach [e] X.env)).all (fun x => !x.1) && (backToKw pos (keywordEach [] X.env)).all (fun x => x.1.isSome) && decide ([e].length + ([] : List Keyword).length + (if ([] : List Keyword).isEmpty then 0 else 1) < 30)) = true := by rfl) :
    Ev X T ρ (.Call (.Attribute o "index" apos) [e] [] pos) Φ := by
  intro A σ B H Q s kQ
  refine we_of (pe_bm (T := "str") PySem.F.plainAttrs_str PySem.F.slot_str_index PySem.F.type_str_index mt_sindex pe_we (pa_cons pe_we pa_nil hs) hbase hfew hline hs rfl) ?_
  refine h A σ B H _ s fun v d B1 H1 s1 r1 q1 => ?_
  obtain ⟨z, rfl, q1⟩ := q1
  cases r1
  refine ⟨rfl, ?_⟩
  refine q1 A σ B1 H1 _ (s.step s1) fun w y B2 H2 s2 r2 q2 => ?_
  obtain ⟨c, rfl, hc, q2⟩ := q2
  cases r2
  obtain ⟨r, ho⟩ := occ_sign hc
  exact ⟨z, _, _, r, rfl, rfl, ho, ((kQ.step s1).step s2).now s2.e s2.t (.int _) q2⟩
end
end DL

/-! ### the lesser of two data -/
namespace PySem
section
variable {prog : Program} {w : World} {A : Around} {E : Value → Shared → Prop} {s : Shared}
theorem lesser_data {a b : Value} {da db : PyData} {as bs : List Addr} {Q : Value → Shared → Prop} (hc : A.handled = none) (ra : Reads s.heap a da as) (rb : Reads s.heap b db bs) (hab : PySem.W.alike da db = true) (hba : PySem.W.alike db da = true) (na : da ≠ .none) (nb : db ≠ .none) (hal : PySem.W.alike da da = true) (hbl : PySem.W.alike db db = true)
    (hu : A.units + 64 < cLine) (hda : da.depth ≤ 8) (hdb : db.depth ≤ 8)
    (fin : ∀ h' tk, (∀ c o, s.heap.get? c = some o → h'.get? c = some o) → Q (if PySem.W.dataLt db da then b else a) { s with heap := h', toks := tk }) : wpAny (model prog w) A (call (.builtin "min") [a, b]) Q E s := by
  refine call_function_tree F.kind_min F.plain_min F.entry_min (F.args_min2 _ _) ?_
  show wpAny _ A.in1 (Builtin.Builtins.bindParams "min" ["key", "default"] 0 ⟨[], []⟩ >>= _) _ _ s
  refine wpAny_bind (wpAny_of_eq (show Builtin.Builtins.bindParams "min" ["key", "default"] 0 ⟨[], []⟩ = pure [none, none] from rfl) ?_)
  show wpAny _ A.in1 (newTuple [a, b] >>= _) _ _ s
  refine wpAny_bind (wpAny_newObj_type ?_)
  have tup : (s.heap.push { cls := .type "tuple", data := .seq #[a, b] }).IsTuple s.heap.objs.size #[a, b] := ⟨_, Heap.get?_push_size _ rfl, rfl, _, rfl⟩
  have up : ∀ c o, s.heap.get? c = some o → (s.heap.push { cls := .type "tuple", data := .seq #[a, b] }).get? c = some o := fun c o z => Heap.get?_push_of_some _ z
  refine wpAny_bind (PySem.W.iter_tupleW (A := A.in1) (s := { s with heap := s.heap.push { cls := .type "tuple", data := .seq #[a, b] } }) hc tup fun s2 e2 W st small _ more => ?_)
  refine wpAny_bind (wpAny_newObj_type ?_)
  have cmp : CmpIn prog w A.in1 .Lt s.heap (fun i v => (#[a, b] : Array Value)[i]? = some v) (fun i j => PySem.W.dataLt (if i = 0 then da else db) (if j = 0 then da else db)) := by
    intro i j vi vj s' Q' E' keep hi hj q
    have two : ∀ (k : Nat) (v : Value), (#[a, b] : Array Value)[k]? = some v → (k = 0 ∧ v = a) ∨ (k = 1 ∧ v = b) := fun k v z => by
      match k, z with
      | 0, z => simp at z; exact .inl ⟨rfl, z.symm⟩
      | 1, z => simp at z; exact .inr ⟨rfl, z.symm⟩
      | k + 2, z => simp at z
    have ra' := PySem.W.reads_keeps keep ra
    have rb' := PySem.W.reads_keeps keep rb
    have hu' : A.in1.units = A.units + 1 := rfl
    rcases two i vi hi with ⟨rfl, rfl⟩ | ⟨rfl, rfl⟩ <;> rcases two j vj hj with ⟨rfl, rfl⟩ | ⟨rfl, rfl⟩
    · exact PySem.W.rcLt_alike da da A.in1 s' _ _ as as ra' ra' hal na (by have := Nat.min_le_left da.depth da.depth; omega) prog w E' Q' q
    · exact PySem.W.rcLt_alike da db A.in1 s' _ _ as bs ra' rb' hab na (by have := Nat.min_le_left da.depth db.depth; omega) prog w E' Q' q
    · exact PySem.W.rcLt_alike db da A.in1 s' _ _ bs as rb' ra' hba nb (by have := Nat.min_le_left db.depth da.depth; omega) prog w E' Q' q
    · exact PySem.W.rcLt_alike db db A.in1 s' _ _ bs bs rb' rb' hbl nb (by have := Nat.min_le_left db.depth db.depth; omega) prog w E' Q' q
  have nm : (toString "min" ++ toString ".loop" : String) = "min.loop" := by decide
  rw [nm]
  have out : s2.heap.objs.size ∉ [(s.heap.push { cls := .type "tuple", data := .seq #[a, b] }).objs.size, s.heap.objs.size] := fun z => absurd (small _ z) (Nat.lt_irrefl _)
  have keep2 : ∀ c o, s.heap.get? c = some o → s2.heap.get? c = some o := fun c o z => more c o (up c o z)
  refine wpAny_pure ⟨plainId_quiet F.plain_min_loop _, codeAny_min_loop_firstH W s.heap (fun c o z hw => ?_) _ cmp s2.heap.objs.size out (fresh_in keep2) _ (by simp) (fun c o z => Heap.get?_push_of_some _ (keep2 c o z)) (W.frame 0 s2 _ s2.toks st (Nat.le_refl _) fun c _ o z => Heap.get?_push_of_some _ z) (Heap.get?_push_size _ rfl) fun v s' hP hm => ?_⟩
  · have e := Heap.lt_size (up c o z)
    rw [List.mem_singleton.mp hw] at e
    exact absurd e (Nat.lt_irrefl _)
  · have e3 : v = if PySem.W.dataLt db da then b else a := by
      show _ = _
      have hb : argBest (fun i j => PySem.W.dataLt (if i = 0 then da else db) (if j = 0 then da else db)) 1 = if PySem.W.dataLt db da then 1 else 0 := rfl
      have hP' : (#[a, b] : Array Value)[argBest (fun i j => PySem.W.dataLt (if i = 0 then da else db) (if j = 0 then da else db)) 1]? = some v := hP
      rw [hb] at hP'
      split at hP' <;> rename_i z <;> simp [z] at hP' ⊢ <;> exact hP'.symm
    rw [e3]
    obtain ⟨h', tk, rfl, k'⟩ := PySem.W.moved_old e2 rfl (Moved.drop_new (tk := s2.toks) hm (Nat.le_refl _))
    exact fin h' tk fun c o z => k' c o (up c o z)
end
end PySem

namespace DL
open PySem PySem.Spec PyProof.Rows L2
section
variable {G : Glb} {N : List Str} {sc : Scope} {ks : List (Option NameKind)} {gs : List Str} {fc : Bool} {lv : Nat} {X : Cx} {T : Tape} {ρ : List S} {Φ : PyData → Prop} {O : Out} {p q pos : Pos} {e : Expr}
theorem cd_min2D {x y : PyData} (hc : X.calm = true) (hu : X.A.units + 64 < cLine) (h : PySem.W.alike x y = true ∧ PySem.W.alike y x = true ∧ PySem.W.alike x x = true ∧ PySem.W.alike y y = true) (hx : x ≠ .none ∧ x.depth ≤ 8) (hy : y ≠ .none ∧ y.depth ≤ 8)
    (q : Φ (if PySem.W.dataLt y x then y else x)) : CD X (.builtin "min") [.val x, .val y] Φ := by
  intro T B H vs Q e t r k pins s σ us I rv
  cases r with
  | val r1 r =>
    cases r with
    | val r2 r =>
      cases r
      obtain ⟨u1, u2, rfl, w1, w2⟩ := vals2 rv
      obtain ⟨as, q1⟩ := Dp.reads I _ _ _ ((r1.mono e).dp) w1
      obtain ⟨bs, q2⟩ := Dp.reads I _ _ _ ((r2.mono e).dp) w2
      refine PySem.lesser_data (I.ok.hd hc) q1 q2 h.1 h.2.1 hx.1 hy.1 h.2.2.1 h.2.2.2 hu hx.2 hy.2 fun h' tk kp => ?_
      cases hd : PySem.W.dataLt y x with
      | true =>
        rw [hd, if_pos rfl] at q
        rw [if_pos rfl]
        exact ⟨_, H, I.kept kp, w2, k.now e t r2 q⟩
      | false =>
        rw [hd, if_neg Bool.false_ne_true] at q
        rw [if_neg Bool.false_ne_true]
        exact ⟨_, H, I.kept kp, w1, k.now e t r1 q⟩

/-! ### a, b = x, y -/
theorem sw_par {x y : Str} {px py pt pt2 : Pos} {kt k2} {a b : Expr} {env : Env} (hk : env.scope.kind = .function) (hx : env.scope.names.lookup x = some .local) (hy : env.scope.names.lookup y = some .local) (hl : (px.line == py.line) = true) (hxy : x ≠ y)
    (hst : ([a, b].any fun z => match z with | .Starred .. => true | _ => false) = false) (hf : [a, b].all (foldedForSure 8) = false) (hc : [a, b].all (constantsAlone 8) = false) :
    swappedStores [.Tuple [.Name x px, .Name y py] kt pt] (.Tuple [a, b] k2 pt2) env = pure (some [x, y]) := by
  have bk : env.blockKind = .function := by unfold Env.blockKind; rw [hk]; rfl
  have e1 : env.kindOf x = some .local := hx
  have e2 : env.kindOf y = some .local := hy
  have e4 : (py.line == px.line) = true := by rw [beq_iff_eq] at hl ⊢; exact hl.symm
  unfold swappedStores
  simp only [pure_bind, List.length_cons, List.length_nil, bk]
  refine (if_neg (by decide)).trans ?_
  refine (if_neg (fun z => ?_)).trans ?_
  · have z' : ([a, b].any fun z => match z with | .Starred .. => true | _ => false) = true := z
    rw [hst] at z'; cases z'
  rw [hf, hc]
  have p1 : (Expr.Name x px).pos = px := rfl
  have e5 : py.line = px.line := by simpa using e4
  have hd : ([Expr.Name x px, Expr.Name y py].head?.map fun z => z.pos.line).getD 0 = px.line := rfl
  simp only [hd, List.filterMap_cons, List.filterMap_nil, e1, e2, e5]
  simp [List.eraseDups_cons, Ne.symm hxy, hxy]
theorem s1_par (h : XOk G N sc ks gs fc lv X) (i j : Nat) {x y : Str} {a b : Expr} {px py pt pt2 : Pos} {kt k2} (ha : Ea X T ρ [a, b] fun ss => ∃ c d, ss = [.val c, .val d] ∧ O.nx ((ρ.set i (.val c)).set j (.val d))) (hN : N[i]? = some x := by rfl) (hk : ks[i]? = some (some .local) := by rfl) (hN' : N[j]? = some y := by rfl) (hk' : ks[j]? = some (some .local) := by rfl)
    (hij : i ≠ j := by decide) (hl : (px.line == py.line) = true := by rfl) (hxy : x ≠ y := by decide) (hst : ([a, b].any fun z => match z with | .Starred .. => true | _ => false) = false := by rfl) (hf : [a, b].all (foldedForSure 8) = false := by rfl) (hc : [a, b].all (constantsAlone 8) = false := by rfl)
    (hs : swapsWithSole [.Tuple [.Name x px, .Name y py] kt pt] (.Tuple [a, b] k2 pt2) pos.line X.env = pure false := by rfl) : S1 X T ρ (.Assign [.Tuple [.Name x px, .Name y py] kt pt] (.Tuple [a, b] k2 pt2) pos) O := by
  intro A σ B H D s kD
  have lx : X.env.scope.names.lookup x = some .local := by rw [h.es]; exact (h.hk i x _ hN hk).1
  have ly : X.env.scope.names.lookup y = some .local := by rw [h.es]; exact (h.hk j y _ hN' hk').1
  refine ws_of (ps_par h.calm (by rw [h.eN]; exact h.nd) (by rw [h.eN]; exact hN) (by rw [h.eN]; exact hN') hij lx ly pa_wa (sw_par (by rw [h.es]; exact h.kind) lx ly hl hxy hst hf hc) hs) (ha A σ B H _ s fun vs ss B1 H1 s1 r q => ?_)
  obtain ⟨c, d, rfl, q⟩ := q
  cases r with
  | val r1 r =>
    cases r with
    | val r2 r =>
      cases r
      exact ⟨_, _, rfl, kD.nx _ B1 H1 _ (((s.step s1).set r1).set r2) q⟩

/-! ### text * n -/
theorem foldl_cat : ∀ (l : List (Array Nat)) (acc : Array Nat), (l.foldl (· ++ ·) acc).toList = acc.toList ++ (l.map Array.toList).flatten
  | [], acc => by simp
  | x :: l, acc => by rw [List.foldl_cons, foldl_cat l]; simp
theorem od_mulS {z : Str} {n : Nat} (hz : z.length ≤ 1000) (hn : n ≤ 1000) (q : Φ (.str ⟨(List.replicate n z.cps.toList).flatten.toArray⟩)) : OpD X (binaryOp .Mult) (.str z) (.int n) Φ := by
  intro T B H v w Q e t r1 r2 k pins s σ u u2 I rx ry
  cases r1
  cases r2
  obtain ⟨t1, rfl⟩ := rx
  obtain ⟨t2, rfl⟩ := ry
  have hb : z.length * n ≤ 1000 * 1000 := Nat.mul_le_mul hz hn
  have hsl := sizeLine_eq
  have hS : ∀ y : Str, y.cps.toList = (List.replicate n z.cps.toList).flatten → y = ⟨(List.replicate n z.cps.toList).flatten.toArray⟩ := fun y hy => by
    obtain ⟨y⟩ := y
    rw [← hy]
  refine P.mul_str (by simp; omega) (fun h1 _ => ?_) (fun h1 _ => ?_) ?_
  · have h2 : ((z.length : Int)) * n ≤ 1000 * 1000 := by exact_mod_cast hb
    have h3 : (z.length : Int) ≤ (2 ^ 63 - 1) / (n : Int) := (Int.le_ediv_iff_mul_le (by omega)).mpr (by omega)
    omega
  · unfold Builtin.Str.tooLong
    have : z.length * (n : Int).toNat ≤ 1000 * 1000 := by simpa using hb
    simp only [decide_eq_false_iff_not]
    omega
  · split
    · rename_i h0
      have h0 : n = 0 := by omega
      refine ⟨by decide, .str _, H, I.tok _, ⟨_, rfl⟩, k.now e t (.str _) ?_⟩
      rw [hS Str.empty (by subst h0; rfl)]; exact q
    · split
      · rename_i h0 h1
        refine ⟨.str _, H, I, ⟨_, rfl⟩, k.now e t (.str z) ?_⟩
        rw [hS z ?_]; exact q
        rw [Bool.or_eq_true, beq_iff_eq, beq_iff_eq] at h1
        rcases h1 with h1 | h1
        · have : n = 1 := by omega
          subst this; simp
        · have h2 : z.cps.toList = [] := by
            have : z.cps.size = 0 := h1
            simpa [Array.size_eq_zero_iff] using this
          rw [h2]; simp
      · have hl : (⟨(List.replicate (n : Int).toNat z.cps).foldl (· ++ ·) #[]⟩ : Str).cps.toList = (List.replicate n z.cps.toList).flatten := by
          show ((List.replicate (n : Int).toNat z.cps).foldl (· ++ ·) #[]).toList = _
          rw [foldl_cat]; simp
        refine ⟨?_, .str _, H, I.tok _, ⟨_, rfl⟩, k.now e t (.str _) (by rw [hS _ hl]; exact q)⟩
        show ((List.replicate (n : Int).toNat z.cps).foldl (· ++ ·) #[]).size ≤ _
        have h5 : ((List.replicate (n : Int).toNat z.cps).foldl (· ++ ·) #[]).size = n * z.length := by
          rw [← Array.length_toList, foldl_cat]
          simp [List.length_flatten, Str.length]
        rw [h5, Nat.mul_comm]; omega

/-! ### text or text; own[i] = .. -/
theorem ev_orS {a b : Expr} {rest : List Expr} (h : Ev X T ρ a fun d => ∃ z : Str, d = .str z ∧ z.length ≤ 100000 ∧ if z.length = 0 then Ev X T ρ (.BoolOp .Or (b :: rest) pos) Φ else Φ (.str z)) : Ev X T ρ (.BoolOp .Or (a :: b :: rest) pos) Φ := by
  intro A σ B H Q s kQ
  refine we_of (pe_orT pe_we pe_we) (h A σ B H _ s fun v d B1 H1 s1 r q => ?_)
  obtain ⟨z, rfl, hl, q⟩ := q
  cases r
  refine ⟨((z.length : Int) != 0), ⟨Nat.le_trans hl (by decide), rfl⟩, ?_⟩
  by_cases hz : z.length = 0
  · rw [if_pos hz] at q
    rw [if_neg (by simp [hz])]
    exact q A σ B1 H1 _ (s.step s1) (kQ.step s1)
  · rw [if_neg hz] at q
    rw [if_pos (by simpa using hz)]
    exact (kQ.step s1).now s1.e s1.t (.str z) q
end
end DL
namespace DL
open PySem PySem.Spec PyProof.Rows L2
section
variable {G : Glb} {N : List Str} {sc : Scope} {ks : List (Option NameKind)} {gs : List Str} {fc : Bool} {lv : Nat} {X : Cx} {T : Tape} {ρ : List S} {Φ : PyData → Prop} {O : Out} {p q pos : Pos} {e : Expr}
theorem cd_listT {xs : List PyData} (q : Φ (.list xs)) : CD X (.type "list") [.val (.tuple xs)] Φ := cd_of call_list_of fun T B H vs Q a b r k => by
  cases r with
  | val r1 r2 =>
    cases r2
    cases r1 with
    | tup h1 r1 => exact ⟨_, _, rfl, .inr (SqT.of (a _ _ h1)), fun l hl => k.lst a b hl r1 q⟩
/-- x = list(e), the frame's own -/
theorem s1_setList (h : XOk G N sc ks gs fc lv X) (i j : Nat) {x : Str} {k : NameKind} {px pn pc : Pos} (hm : G.mg "list" = none) (he : Ev X T ρ e fun d => ∃ xs, (d = .list xs ∨ d = .tuple xs) ∧ O.nx (ρ.set i (.own xs))) (hN : N[i]? = some x := by rfl) (hk : ks[i]? = some (some k) := by rfl) (hv : locK fc k = true := by rfl)
    (hg : gs[j]? = some ("list" : Str) := by rfl) (hs : starEach [e] X.env = (false, eval e X.env) :: starEach [] X.env := by rfl) (hw : swapsWith (.Call (.Name "list" pn) [e] [] pc) (some (.Name x px)) pos.line X.env = pure false := by rfl) : S1 X T ρ (.Assign [.Name x px] (.Call (.Name "list" pn) [e] [] pc) pos) O := by
  intro A σ B H D s kD
  have l := h.loc hN hk hv
  have g := h.hg j _ hg
  refine ws_of (ps_set (by rw [h.eN]; exact h.nd) (by rw [h.eN]; exact hN) l.1 (pe_callTy call_list_of (h.gl hg) (by rw [h.eg]; exact hm) (by decide +kernel) (pa_cons pe_we pa_nil hs) g.2.2 g.2.1 hs rfl) hw l.2) ?_
  refine he A σ B H _ s fun v d B1 H1 s1 r q => ?_
  obtain ⟨xs, hd, q⟩ := q
  have fin : ∀ vs a, v = .ref a → (SqL X.K H1 a vs ∨ SqT X.K H1 a vs) → DtA B1 vs xs → ∃ p ys, [v] = [V.ref p] ∧ (SqL X.K H1 p ys ∨ SqT X.K H1 p ys) ∧ ∀ l, H1 l = none → D.nx (σ.set i (some (.ref l))) (upd H1 l (.lst ys)) := fun vs a ev hq r' => by
    subst ev
    refine ⟨a, vs, rfl, hq, fun l hl => ?_⟩
    exact kD.nx _ B1 _ _ ((s.step s1).setO (Step.newO (o := .lst vs) s1.e s1.t hl) hl (s1.e.free hl) upd_same r') q
  rcases hd with rfl | rfl
  · cases r with
    | lst h1 r1 => exact fin _ _ rfl (.inl (SqL.of (s1.e _ _ h1))) r1
  · cases r with
    | tup h1 r1 => exact fin _ _ rfl (.inr (SqT.of (s1.e _ _ h1))) r1
/-- own[n] = e -/
theorem s1_setAt (h : XOk G N sc ks gs fc lv X) (i : Nat) {x : Str} {k : NameKind} {ds : List PyData} {a : Expr} {px pt : Pos} (hi : ρ[i]? = some (.own ds)) (he : Ev X T ρ e fun d => Ev X T ρ a fun c => ∃ n : Nat, c = .int n ∧ n < ds.length ∧ O.nx (ρ.set i (.own (ds.set n d)))) (hN : N[i]? = some x := by rfl) (hk : ks[i]? = some (some k) := by rfl) (hv : visK k = true := by rfl)
    (hs : swapsWithSole [.Subscript (.Name x px) a pt] e pos.line X.env = pure false := by rfl) (hw : swappedStores [.Subscript (.Name x px) a pt] e X.env = pure none := by rfl) (h1 : (assignEach [.Subscript (.Name x px) a pt] X.env).map (·.2) = [assign (.Subscript (.Name x px) a pt) X.env] := by rfl)
    (ha : ∀ v, assign (.Subscript (.Name x px) a pt) X.env v = (do
      let ov ← holding [v] (eval (.Name x px) X.env)
      let iv ← holding [v, ov] (eval a X.env)
      standAt pt
      holding [v, ov, iv] (setItem ov iv v)
      release [v, ov, iv] []) := by intro _; rfl) : S1 X T ρ (.Assign [.Subscript (.Name x px) a pt] e pos) O := by
  intro A σ B H D s kD
  obtain ⟨hn, b, vs0, ea, _, _⟩ := own_recv (px := px) h hi hN hk hv s
  refine ws_of (ps_asg pe_we (pg_sub hn pe_we set_list ha) hs hw h1) (he A σ B H _ s fun v d B1 H1 s1 r q => ?_)
  refine ⟨_, ea, ?_⟩
  refine q A σ B1 H1 _ (s.step s1) fun w c B2 H2 s2 r2 q => ?_
  obtain ⟨n, rfl, hn, q⟩ := q
  obtain ⟨vs, hp, r1⟩ := own_later ((s.step s1).step s2) hi ea
  have e0 : w = .int (n : Int) := by cases r2; rfl
  subst e0
  have hl := r1.length
  refine ⟨b, vs, (n : Int), n, rfl, rfl, hp, ?_, ?_⟩
  · unfold ixN
    have hb : (0 : Int) ≤ n ∧ (n : Int) < vs.length := ⟨by omega, by omega⟩
    simp [hb.1, hb.2]
    all_goals omega
  · exact kD.nx σ B2 _ _ (((s.step s1).step s2).mut hi ea (DtA.set (r.mono s2.b) n r1)) q
/-- list.index of data -/
theorem ev_lindex {o : Expr} {apos : Pos} (hu : X.A.units + 65 < cLine) (h : Ev X T ρ o fun d => ∃ zs : List PyData, d = .list zs ∧ SeqAt.shaped (.list zs) = true ∧ Ev X T ρ e fun y => ∃ j : Nat, SeqAt.shaped y = true ∧ zs[j]? = some y ∧ PyData.eqv y y = true ∧ (∀ m z, m < j → zs[m]? = some z → PyData.eqv z y = false) ∧ Φ (.int (j : Nat)))
    (hs : starEach [e] X.env = (false, eval e X.env) :: starEach [] X.env := by rfl) (hbase : attributeBase o "index" X.env (eval o X.env) = eval o X.env := by rfl) (hline : (apos.endLine == pos.line) = true := by rfl)
    (hfew : ((backTo pos (starEach [e] X.env)).all (fun x => !x.1) && (backToKw pos (keywordEach [] X.env)).all (fun x => x.1.isSome) && decide ([e].length + ([] : List Keyword).length + (if ([] : List Keyword).isEmpty then 0 else 1) < 30)) = true := by rfl) :
    Ev X T ρ (.Call (.Attribute o "index" apos) [e] [] pos) Φ := by
  intro A σ B H Q s kQ
  refine we_of (pe_bm (T := "list") PySem.F.plainAttrs_list PySem.F.slot_list_index PySem.F.type_list_index (mt_indexD hu) pe_we (pa_cons pe_we pa_nil hs) hbase hfew hline hs rfl) ?_
  refine h A σ B H _ s fun v d B1 H1 s1 r1 q1 => ?_
  obtain ⟨zs, rfl, hz, q1⟩ := q1
  cases r1 with
  | lst h1 rr =>
    rename_i a vs
    refine ⟨.inl ⟨rfl, vs, SqL.of (s1.e _ _ h1)⟩, ?_⟩
    refine q1 A σ B1 H1 _ (s.step s1) fun w y B2 H2 s2 r2 q2 => ?_
    obtain ⟨j, hy, e1, e2, e3, q2⟩ := q2
    exact ⟨a, w, y, zs, j, y, rfl, rfl, .lst (SqL.of (s2.e _ _ (s2.b _ _ h1))) ((rr.mono s2.b).mono s2.e).dp, (r2.mono s2.e).dp, hz, hy, e1, e2, e3, ((kQ.step s1).step s2).now s2.e s2.t (.int _) q2⟩
end
end DL
namespace RW
open PySem PySem.Spec PyProof.Rows L2 DL
def top (i : Nat) : Stmt := PySem.Challenge.pw_ringwords_k42_whole_crossing_papers_of_a.main.body.getD i (.Pass ⟨0, 0, 0, 0⟩)
/-- where a def of the text stands -/
def At (G : Glb) (x : Str) (i : Nat) : Prop := ∃ f fd, FunD G.K x x (defArgs (top i)) (defBody (top i)) (defScope (top i)) [] [] f fd ∧ G.mg x = some (.ref f)
abbrev N_back_of : List Str := ["letter"]
abbrev K_back_of : List (Option NameKind) := [some .local]
abbrev G_back_of : List Str := ["SMALL_letters"]
theorem S_back_of : FnScope N_back_of ["letter"] (defScope (top 2)) := ⟨rfl, rfl, rfl, by decide +kernel, rfl, by decide +kernel, by decide +kernel⟩
theorem kg_back_of : (ksB N_back_of (defScope (top 2)) K_back_of && gsB G_back_of (defScope (top 2))) = true := by decide +kernel
theorem bd_back_of (kV doc pm : Value) (an : Option Addr) (cdv ct : Value) (us : List Value) (h : us.length = (["letter"] : List Str).length) : bindArgs (PySem.W.fnOf "back_of" "back_of" (defArgs (top 2)) (defBody (top 2)) (defScope (top 2)) .none kV doc pm an cdv ct) ⟨us, []⟩ = pure ((["letter"] : List Str).zip us) := match us, h with | [_], _ => rfl
abbrev N_back : List Str := ["word", "sign"]
abbrev K_back : List (Option NameKind) := [some .local, none]
abbrev G_back : List Str := []
theorem S_back : FnScope N_back ["word"] (defScope (top 3)) := ⟨rfl, rfl, rfl, by decide +kernel, rfl, by decide +kernel, by decide +kernel⟩
theorem kg_back : (ksB N_back (defScope (top 3)) K_back && gsB G_back (defScope (top 3))) = true := by decide +kernel
theorem bd_back (kV doc pm : Value) (an : Option Addr) (cdv ct : Value) (us : List Value) (h : us.length = (["word"] : List Str).length) : bindArgs (PySem.W.fnOf "back" "back" (defArgs (top 3)) (defBody (top 3)) (defScope (top 3)) .none kV doc pm an cdv ct) ⟨us, []⟩ = pure ((["word"] : List Str).zip us) := match us, h with | [_], _ => rfl
abbrev o_back0 : List (Str × Nat) := [("sign", 1)]
abbrev k_back0 : List (Option NameKind) := [none, some .local]
abbrev g_back0 : List Str := ["back_of"]
abbrev N_moved : List Str := ["ways", "strand", "step", "way", "place"]
abbrev K_moved : List (Option NameKind) := [some .local, some .local, some .local, some .local, some .local]
abbrev G_moved : List Str := ["len"]
theorem S_moved : FnScope N_moved ["ways", "strand", "step"] (defScope (top 6)) := ⟨rfl, rfl, rfl, by decide +kernel, rfl, by decide +kernel, by decide +kernel⟩
theorem kg_moved : (ksB N_moved (defScope (top 6)) K_moved && gsB G_moved (defScope (top 6))) = true := by decide +kernel
theorem bd_moved (kV doc pm : Value) (an : Option Addr) (cdv ct : Value) (us : List Value) (h : us.length = (["ways", "strand", "step"] : List Str).length) : bindArgs (PySem.W.fnOf "moved" "moved" (defArgs (top 6)) (defBody (top 6)) (defScope (top 6)) .none kV doc pm an cdv ct) ⟨us, []⟩ = pure ((["ways", "strand", "step"] : List Str).zip us) := match us, h with | [_, _, _], _ => rfl
abbrev N_letter_at : List Str := ["ways", "strand", "step", "way", "place"]
abbrev K_letter_at : List (Option NameKind) := [some .local, some .local, some .local, some .local, some .local]
abbrev G_letter_at : List Str := ["len"]
theorem S_letter_at : FnScope N_letter_at ["ways", "strand", "step"] (defScope (top 7)) := ⟨rfl, rfl, rfl, by decide +kernel, rfl, by decide +kernel, by decide +kernel⟩
theorem kg_letter_at : (ksB N_letter_at (defScope (top 7)) K_letter_at && gsB G_letter_at (defScope (top 7))) = true := by decide +kernel
theorem bd_letter_at (kV doc pm : Value) (an : Option Addr) (cdv ct : Value) (us : List Value) (h : us.length = (["ways", "strand", "step"] : List Str).length) : bindArgs (PySem.W.fnOf "letter_at" "letter_at" (defArgs (top 7)) (defBody (top 7)) (defScope (top 7)) .none kV doc pm an cdv ct) ⟨us, []⟩ = pure ((["ways", "strand", "step"] : List Str).zip us) := match us, h with | [_, _, _], _ => rfl
abbrev N_strands_of : List Str := ["ways", "found", "number", "way", "place"]
abbrev K_strands_of : List (Option NameKind) := [some .local, some .local, some .cell, some .local, none]
abbrev G_strands_of : List Str := ["enumerate", "range", "len"]
theorem S_strands_of : FnScope N_strands_of ["ways"] (defScope (top 8)) := ⟨rfl, rfl, rfl, by decide +kernel, rfl, by decide +kernel, by decide +kernel⟩
theorem kg_strands_of : (ksB N_strands_of (defScope (top 8)) K_strands_of && gsB G_strands_of (defScope (top 8))) = true := by decide +kernel
theorem bd_strands_of (kV doc pm : Value) (an : Option Addr) (cdv ct : Value) (us : List Value) (h : us.length = (["ways"] : List Str).length) : bindArgs (PySem.W.fnOf "strands_of" "strands_of" (defArgs (top 8)) (defBody (top 8)) (defScope (top 8)) .none kV doc pm an cdv ct) ⟨us, []⟩ = pure ((["ways"] : List Str).zip us) := match us, h with | [_], _ => rfl
abbrev o_strands_of0 : List (Str × Nat) := [("place", 4)]
abbrev k_strands_of0 : List (Option NameKind) := [none, none, some .cell, none, some .local]
abbrev g_strands_of0 : List Str := []
abbrev N_strands_through : List Str := ["ways", "number", "strand"]
abbrev K_strands_through : List (Option NameKind) := [some .cell, some .cell, none]
abbrev G_strands_through : List Str := ["strands_of"]
theorem S_strands_through : FnScope N_strands_through ["ways", "number"] (defScope (top 9)) := ⟨rfl, rfl, rfl, by decide +kernel, rfl, by decide +kernel, by decide +kernel⟩
theorem kg_strands_through : (ksB N_strands_through (defScope (top 9)) K_strands_through && gsB G_strands_through (defScope (top 9))) = true := by decide +kernel
theorem bd_strands_through (kV doc pm : Value) (an : Option Addr) (cdv ct : Value) (us : List Value) (h : us.length = (["ways", "number"] : List Str).length) : bindArgs (PySem.W.fnOf "strands_through" "strands_through" (defArgs (top 9)) (defBody (top 9)) (defScope (top 9)) .none kV doc pm an cdv ct) ⟨us, []⟩ = pure ((["ways", "number"] : List Str).zip us) := match us, h with | [_, _], _ => rfl
abbrev o_strands_through0 : List (Str × Nat) := [("strand", 2)]
abbrev k_strands_through0 : List (Option NameKind) := [some .cell, some .cell, some .local]
abbrev g_strands_through0 : List Str := ["letter_at", "SMALL_strands"]
abbrev N_is_strand : List Str := ["ways", "thing", "one"]
abbrev K_is_strand : List (Option NameKind) := [some .local, some .local, none]
abbrev G_is_strand : List Str := ["isinstance", "tuple", "len", "all"]
theorem S_is_strand : FnScope N_is_strand ["ways", "thing"] (defScope (top 10)) := ⟨rfl, rfl, rfl, by decide +kernel, rfl, by decide +kernel, by decide +kernel⟩
theorem kg_is_strand : (ksB N_is_strand (defScope (top 10)) K_is_strand && gsB G_is_strand (defScope (top 10))) = true := by decide +kernel
theorem bd_is_strand (kV doc pm : Value) (an : Option Addr) (cdv ct : Value) (us : List Value) (h : us.length = (["ways", "thing"] : List Str).length) : bindArgs (PySem.W.fnOf "is_strand" "is_strand" (defArgs (top 10)) (defBody (top 10)) (defScope (top 10)) .none kV doc pm an cdv ct) ⟨us, []⟩ = pure ((["ways", "thing"] : List Str).zip us) := match us, h with | [_, _], _ => rfl
abbrev o_is_strand0 : List (Str × Nat) := [("one", 2)]
abbrev k_is_strand0 : List (Option NameKind) := [none, none, some .local]
abbrev g_is_strand0 : List Str := ["isinstance", "int", "bool"]
abbrev N_room_of : List Str := ["ways", "one", "other"]
abbrev K_room_of : List (Option NameKind) := [some .local, some .local, some .local]
abbrev G_room_of : List Str := ["len"]
theorem S_room_of : FnScope N_room_of ["ways", "one", "other"] (defScope (top 11)) := ⟨rfl, rfl, rfl, by decide +kernel, rfl, by decide +kernel, by decide +kernel⟩
theorem kg_room_of : (ksB N_room_of (defScope (top 11)) K_room_of && gsB G_room_of (defScope (top 11))) = true := by decide +kernel
theorem bd_room_of (kV doc pm : Value) (an : Option Addr) (cdv ct : Value) (us : List Value) (h : us.length = (["ways", "one", "other"] : List Str).length) : bindArgs (PySem.W.fnOf "room_of" "room_of" (defArgs (top 11)) (defBody (top 11)) (defScope (top 11)) .none kV doc pm an cdv ct) ⟨us, []⟩ = pure ((["ways", "one", "other"] : List Str).zip us) := match us, h with | [_, _, _], _ => rfl
abbrev N_is_drawing : List Str := ["surface", "ways", "thing", "number", "row", "one"]
abbrev K_is_drawing : List (Option NameKind) := [some .local, some .cell, some .local, some .local, some .local, none]
abbrev G_is_drawing : List Str := ["isinstance", "tuple", "len", "enumerate", "all", "sorted", "strands_through"]
theorem S_is_drawing : FnScope N_is_drawing ["surface", "ways", "thing"] (defScope (top 14)) := ⟨rfl, rfl, rfl, by decide +kernel, rfl, by decide +kernel, by decide +kernel⟩
theorem kg_is_drawing : (ksB N_is_drawing (defScope (top 14)) K_is_drawing && gsB G_is_drawing (defScope (top 14))) = true := by decide +kernel
theorem bd_is_drawing (kV doc pm : Value) (an : Option Addr) (cdv ct : Value) (us : List Value) (h : us.length = (["surface", "ways", "thing"] : List Str).length) : bindArgs (PySem.W.fnOf "is_drawing" "is_drawing" (defArgs (top 14)) (defBody (top 14)) (defScope (top 14)) .none kV doc pm an cdv ct) ⟨us, []⟩ = pure ((["surface", "ways", "thing"] : List Str).zip us) := match us, h with | [_, _, _], _ => rfl
abbrev o_is_drawing0 : List (Str × Nat) := [("one", 5)]
abbrev k_is_drawing0 : List (Option NameKind) := [none, some .cell, none, none, none, some .local]
abbrev g_is_drawing0 : List Str := ["is_strand"]
abbrev N_points : List Str := ["surface", "ways", "drawing", "found", "end", "row", "strand"]
abbrev K_points : List (Option NameKind) := [some .local, some .local, some .local, some .local, some .cell, some .local, none]
abbrev G_points : List Str := ["SMALL_drawings"]
theorem S_points : FnScope N_points ["surface", "ways", "drawing"] (defScope (top 15)) := ⟨rfl, rfl, rfl, by decide +kernel, rfl, by decide +kernel, by decide +kernel⟩
theorem kg_points : (ksB N_points (defScope (top 15)) K_points && gsB G_points (defScope (top 15))) = true := by decide +kernel
theorem bd_points (kV doc pm : Value) (an : Option Addr) (cdv ct : Value) (us : List Value) (h : us.length = (["surface", "ways", "drawing"] : List Str).length) : bindArgs (PySem.W.fnOf "points" "points" (defArgs (top 15)) (defBody (top 15)) (defScope (top 15)) .none kV doc pm an cdv ct) ⟨us, []⟩ = pure ((["surface", "ways", "drawing"] : List Str).zip us) := match us, h with | [_, _, _], _ => rfl
abbrev o_points0 : List (Str × Nat) := [("strand", 6)]
abbrev k_points0 : List (Option NameKind) := [none, none, none, none, some .cell, none, some .local]
abbrev g_points0 : List Str := []
abbrev o_points1 : List (Str × Nat) := [("strand", 6)]
abbrev k_points1 : List (Option NameKind) := [none, none, none, none, some .cell, none, some .local]
abbrev g_points1 : List Str := []
abbrev N_chords : List Str := ["surface", "ways", "drawing", "where", "found", "strand", "follower", "one", "other", "place", "point"]
abbrev K_chords : List (Option NameKind) := [some .local, some .local, some .local, some .local, some .local, some .local, some .local, some .local, some .local, none, none]
abbrev G_chords : List Str := ["dict", "enumerate", "points", "strands_of", "moved", "back", "letter_at", "min", "max"]
theorem S_chords : FnScope N_chords ["surface", "ways", "drawing"] (defScope (top 16)) := ⟨rfl, rfl, rfl, by decide +kernel, rfl, by decide +kernel, by decide +kernel⟩
theorem kg_chords : (ksB N_chords (defScope (top 16)) K_chords && gsB G_chords (defScope (top 16))) = true := by decide +kernel
theorem bd_chords (kV doc pm : Value) (an : Option Addr) (cdv ct : Value) (us : List Value) (h : us.length = (["surface", "ways", "drawing"] : List Str).length) : bindArgs (PySem.W.fnOf "chords" "chords" (defArgs (top 16)) (defBody (top 16)) (defScope (top 16)) .none kV doc pm an cdv ct) ⟨us, []⟩ = pure ((["surface", "ways", "drawing"] : List Str).zip us) := match us, h with | [_, _, _], _ => rfl
abbrev o_chords0 : List (Str × Nat) := [("place", 9), ("point", 10)]
abbrev k_chords0 : List (Option NameKind) := [none, none, none, none, none, none, none, none, none, some .local, some .local]
abbrev g_chords0 : List Str := []
abbrev N_do_cross : List Str := ["one", "other"]
abbrev K_do_cross : List (Option NameKind) := [some .local, some .local]
abbrev G_do_cross : List Str := []
theorem S_do_cross : FnScope N_do_cross ["one", "other"] (defScope (top 17)) := ⟨rfl, rfl, rfl, by decide +kernel, rfl, by decide +kernel, by decide +kernel⟩
theorem kg_do_cross : (ksB N_do_cross (defScope (top 17)) K_do_cross && gsB G_do_cross (defScope (top 17))) = true := by decide +kernel
theorem bd_do_cross (kV doc pm : Value) (an : Option Addr) (cdv ct : Value) (us : List Value) (h : us.length = (["one", "other"] : List Str).length) : bindArgs (PySem.W.fnOf "do_cross" "do_cross" (defArgs (top 17)) (defBody (top 17)) (defScope (top 17)) .none kV doc pm an cdv ct) ⟨us, []⟩ = pure ((["one", "other"] : List Str).zip us) := match us, h with | [_, _], _ => rfl
abbrev N_crossings : List Str := ["surface", "ways", "drawing", "lines", "found", "place", "one", "other"]
abbrev K_crossings : List (Option NameKind) := [some .local, some .local, some .local, some .local, some .local, some .local, some .cell, none]
abbrev G_crossings : List Str := ["chords", "enumerate"]
theorem S_crossings : FnScope N_crossings ["surface", "ways", "drawing"] (defScope (top 18)) := ⟨rfl, rfl, rfl, by decide +kernel, rfl, by decide +kernel, by decide +kernel⟩
theorem kg_crossings : (ksB N_crossings (defScope (top 18)) K_crossings && gsB G_crossings (defScope (top 18))) = true := by decide +kernel
theorem bd_crossings (kV doc pm : Value) (an : Option Addr) (cdv ct : Value) (us : List Value) (h : us.length = (["surface", "ways", "drawing"] : List Str).length) : bindArgs (PySem.W.fnOf "crossings" "crossings" (defArgs (top 18)) (defBody (top 18)) (defScope (top 18)) .none kV doc pm an cdv ct) ⟨us, []⟩ = pure ((["surface", "ways", "drawing"] : List Str).zip us) := match us, h with | [_, _, _], _ => rfl
abbrev o_crossings0 : List (Str × Nat) := [("other", 7)]
abbrev k_crossings0 : List (Option NameKind) := [none, none, none, none, none, none, some .cell, some .local]
abbrev g_crossings0 : List Str := ["do_cross"]
abbrev N_comes_first : List Str := ["surface", "begin", "one", "other", "at", "row"]
abbrev K_comes_first : List (Option NameKind) := [some .local, some .local, some .local, some .local, some .local, some .local]
abbrev G_comes_first : List Str := []
theorem S_comes_first : FnScope N_comes_first ["surface", "begin", "one", "other"] (defScope (top 23)) := ⟨rfl, rfl, rfl, by decide +kernel, rfl, by decide +kernel, by decide +kernel⟩
theorem kg_comes_first : (ksB N_comes_first (defScope (top 23)) K_comes_first && gsB G_comes_first (defScope (top 23))) = true := by decide +kernel
theorem bd_comes_first (kV doc pm : Value) (an : Option Addr) (cdv ct : Value) (us : List Value) (h : us.length = (["surface", "begin", "one", "other"] : List Str).length) : bindArgs (PySem.W.fnOf "comes_first" "comes_first" (defArgs (top 23)) (defBody (top 23)) (defScope (top 23)) .none kV doc pm an cdv ct) ⟨us, []⟩ = pure ((["surface", "begin", "one", "other"] : List Str).zip us) := match us, h with | [_, _, _, _], _ => rfl
abbrev N_is_beside : List Str := ["surface", "ways", "one", "other", "first", "last", "begin", "end"]
abbrev K_is_beside : List (Option NameKind) := [some .local, some .local, some .local, some .local, some .local, some .local, some .local, some .local]
abbrev G_is_beside : List Str := ["back", "letter_at", "len", "set", "comes_first"]
theorem S_is_beside : FnScope N_is_beside ["surface", "ways", "one", "other"] (defScope (top 24)) := ⟨rfl, rfl, rfl, by decide +kernel, rfl, by decide +kernel, by decide +kernel⟩
theorem kg_is_beside : (ksB N_is_beside (defScope (top 24)) K_is_beside && gsB G_is_beside (defScope (top 24))) = true := by decide +kernel
theorem bd_is_beside (kV doc pm : Value) (an : Option Addr) (cdv ct : Value) (us : List Value) (h : us.length = (["surface", "ways", "one", "other"] : List Str).length) : bindArgs (PySem.W.fnOf "is_beside" "is_beside" (defArgs (top 24)) (defBody (top 24)) (defScope (top 24)) .none kV doc pm an cdv ct) ⟨us, []⟩ = pure ((["surface", "ways", "one", "other"] : List Str).zip us) := match us, h with | [_, _, _, _], _ => rfl
abbrev N_is_along : List Str := ["surface", "ways", "one", "other", "many", "here", "there", "ahead", "from_one", "from_other", "k"]
abbrev K_is_along : List (Option NameKind) := [some .local, some .cell, some .cell, some .cell, some .local, some .local, some .local, some .local, some .local, some .local, none]
abbrev G_is_along : List Str := ["room_of", "all", "range", "letter_at", "comes_first", "back"]
theorem S_is_along : FnScope N_is_along ["surface", "ways", "one", "other", "many"] (defScope (top 25)) := ⟨rfl, rfl, rfl, by decide +kernel, rfl, by decide +kernel, by decide +kernel⟩
theorem kg_is_along : (ksB N_is_along (defScope (top 25)) K_is_along && gsB G_is_along (defScope (top 25))) = true := by decide +kernel
theorem bd_is_along (kV doc pm : Value) (an : Option Addr) (cdv ct : Value) (us : List Value) (h : us.length = (["surface", "ways", "one", "other", "many"] : List Str).length) : bindArgs (PySem.W.fnOf "is_along" "is_along" (defArgs (top 25)) (defBody (top 25)) (defScope (top 25)) .none kV doc pm an cdv ct) ⟨us, []⟩ = pure ((["surface", "ways", "one", "other", "many"] : List Str).zip us) := match us, h with | [_, _, _, _, _], _ => rfl
abbrev o_is_along0 : List (Str × Nat) := [("k", 10)]
abbrev k_is_along0 : List (Option NameKind) := [none, some .cell, some .cell, some .cell, none, none, none, none, none, none, some .local]
abbrev g_is_along0 : List Str := ["letter_at"]
abbrev N_is_against : List Str := ["surface", "ways", "one", "other", "many", "here", "there", "ahead", "from_one", "from_other", "k"]
abbrev K_is_against : List (Option NameKind) := [some .local, some .cell, some .cell, some .cell, some .local, some .local, some .local, some .local, some .local, some .local, none]
abbrev G_is_against : List Str := ["room_of", "moved", "all", "range", "letter_at", "back", "comes_first"]
theorem S_is_against : FnScope N_is_against ["surface", "ways", "one", "other", "many"] (defScope (top 26)) := ⟨rfl, rfl, rfl, by decide +kernel, rfl, by decide +kernel, by decide +kernel⟩
theorem kg_is_against : (ksB N_is_against (defScope (top 26)) K_is_against && gsB G_is_against (defScope (top 26))) = true := by decide +kernel
theorem bd_is_against (kV doc pm : Value) (an : Option Addr) (cdv ct : Value) (us : List Value) (h : us.length = (["surface", "ways", "one", "other", "many"] : List Str).length) : bindArgs (PySem.W.fnOf "is_against" "is_against" (defArgs (top 26)) (defBody (top 26)) (defScope (top 26)) .none kV doc pm an cdv ct) ⟨us, []⟩ = pure ((["surface", "ways", "one", "other", "many"] : List Str).zip us) := match us, h with | [_, _, _, _, _], _ => rfl
abbrev o_is_against0 : List (Str × Nat) := [("k", 10)]
abbrev k_is_against0 : List (Option NameKind) := [none, some .cell, some .cell, some .cell, none, none, none, none, none, none, some .local]
abbrev g_is_against0 : List Str := ["letter_at", "back"]
abbrev N_is_long : List Str := ["thing"]
abbrev K_is_long : List (Option NameKind) := [some .local]
abbrev G_is_long : List Str := ["isinstance", "int", "bool"]
theorem S_is_long : FnScope N_is_long ["thing"] (defScope (top 27)) := ⟨rfl, rfl, rfl, by decide +kernel, rfl, by decide +kernel, by decide +kernel⟩
theorem kg_is_long : (ksB N_is_long (defScope (top 27)) K_is_long && gsB G_is_long (defScope (top 27))) = true := by decide +kernel
theorem bd_is_long (kV doc pm : Value) (an : Option Addr) (cdv ct : Value) (us : List Value) (h : us.length = (["thing"] : List Str).length) : bindArgs (PySem.W.fnOf "is_long" "is_long" (defArgs (top 27)) (defBody (top 27)) (defScope (top 27)) .none kV doc pm an cdv ct) ⟨us, []⟩ = pure ((["thing"] : List Str).zip us) := match us, h with | [_], _ => rfl
abbrev N_is_link : List Str := ["surface", "ways", "thing"]
abbrev K_is_link : List (Option NameKind) := [some .local, some .local, some .local]
abbrev G_is_link : List Str := ["isinstance", "tuple", "len", "str", "is_strand", "is_beside", "is_long", "is_along", "is_against"]
theorem S_is_link : FnScope N_is_link ["surface", "ways", "thing"] (defScope (top 28)) := ⟨rfl, rfl, rfl, by decide +kernel, rfl, by decide +kernel, by decide +kernel⟩
theorem kg_is_link : (ksB N_is_link (defScope (top 28)) K_is_link && gsB G_is_link (defScope (top 28))) = true := by decide +kernel
theorem bd_is_link (kV doc pm : Value) (an : Option Addr) (cdv ct : Value) (us : List Value) (h : us.length = (["surface", "ways", "thing"] : List Str).length) : bindArgs (PySem.W.fnOf "is_link" "is_link" (defArgs (top 28)) (defBody (top 28)) (defScope (top 28)) .none kV doc pm an cdv ct) ⟨us, []⟩ = pure ((["surface", "ways", "thing"] : List Str).zip us) := match us, h with | [_, _, _], _ => rfl
abbrev N_lets_crossing : List Str := ["surface", "ways", "thing", "drawing", "told", "k", "link"]
abbrev K_lets_crossing : List (Option NameKind) := [some .local, some .local, some .local, some .local, some .local, some .local, some .local]
abbrev G_lets_crossing : List Str := ["isinstance", "tuple", "len", "NoPaper", "is_drawing", "enumerate", "is_link", "crossings"]
theorem S_lets_crossing : FnScope N_lets_crossing ["surface", "ways", "thing"] (defScope (top 30)) := ⟨rfl, rfl, rfl, by decide +kernel, rfl, by decide +kernel, by decide +kernel⟩
theorem kg_lets_crossing : (ksB N_lets_crossing (defScope (top 30)) K_lets_crossing && gsB G_lets_crossing (defScope (top 30))) = true := by decide +kernel
theorem bd_lets_crossing (kV doc pm : Value) (an : Option Addr) (cdv ct : Value) (us : List Value) (h : us.length = (["surface", "ways", "thing"] : List Str).length) : bindArgs (PySem.W.fnOf "lets_crossing" "lets_crossing" (defArgs (top 30)) (defBody (top 30)) (defScope (top 30)) .none kV doc pm an cdv ct) ⟨us, []⟩ = pure ((["surface", "ways", "thing"] : List Str).zip us) := match us, h with | [_, _, _], _ => rfl
abbrev N_run_along : List Str := ["ways", "one", "other", "many"]
abbrev K_run_along : List (Option NameKind) := [some .local, some .local, some .local, some .local]
abbrev G_run_along : List Str := ["room_of", "letter_at"]
theorem S_run_along : FnScope N_run_along ["ways", "one", "other"] (defScope (top 32)) := ⟨rfl, rfl, rfl, by decide +kernel, rfl, by decide +kernel, by decide +kernel⟩
theorem kg_run_along : (ksB N_run_along (defScope (top 32)) K_run_along && gsB G_run_along (defScope (top 32))) = true := by decide +kernel
theorem bd_run_along (kV doc pm : Value) (an : Option Addr) (cdv ct : Value) (us : List Value) (h : us.length = (["ways", "one", "other"] : List Str).length) : bindArgs (PySem.W.fnOf "run_along" "run_along" (defArgs (top 32)) (defBody (top 32)) (defScope (top 32)) .none kV doc pm an cdv ct) ⟨us, []⟩ = pure ((["ways", "one", "other"] : List Str).zip us) := match us, h with | [_, _, _], _ => rfl
abbrev N_run_against : List Str := ["ways", "one", "other", "many"]
abbrev K_run_against : List (Option NameKind) := [some .local, some .local, some .local, some .local]
abbrev G_run_against : List Str := ["room_of", "letter_at", "back"]
theorem S_run_against : FnScope N_run_against ["ways", "one", "other"] (defScope (top 33)) := ⟨rfl, rfl, rfl, by decide +kernel, rfl, by decide +kernel, by decide +kernel⟩
theorem kg_run_against : (ksB N_run_against (defScope (top 33)) K_run_against && gsB G_run_against (defScope (top 33))) = true := by decide +kernel
theorem bd_run_against (kV doc pm : Value) (an : Option Addr) (cdv ct : Value) (us : List Value) (h : us.length = (["ways", "one", "other"] : List Str).length) : bindArgs (PySem.W.fnOf "run_against" "run_against" (defArgs (top 33)) (defBody (top 33)) (defScope (top 33)) .none kV doc pm an cdv ct) ⟨us, []⟩ = pure ((["ways", "one", "other"] : List Str).zip us) := match us, h with | [_, _, _], _ => rfl
abbrev N_links_of : List Str := ["surface", "ways", "one", "other", "along", "against", "link"]
abbrev K_links_of : List (Option NameKind) := [some .cell, some .cell, some .local, some .local, some .local, some .local, none]
abbrev G_links_of : List Str := ["run_along", "run_against"]
theorem S_links_of : FnScope N_links_of ["surface", "ways", "one", "other"] (defScope (top 34)) := ⟨rfl, rfl, rfl, by decide +kernel, rfl, by decide +kernel, by decide +kernel⟩
theorem kg_links_of : (ksB N_links_of (defScope (top 34)) K_links_of && gsB G_links_of (defScope (top 34))) = true := by decide +kernel
theorem bd_links_of (kV doc pm : Value) (an : Option Addr) (cdv ct : Value) (us : List Value) (h : us.length = (["surface", "ways", "one", "other"] : List Str).length) : bindArgs (PySem.W.fnOf "links_of" "links_of" (defArgs (top 34)) (defBody (top 34)) (defScope (top 34)) .none kV doc pm an cdv ct) ⟨us, []⟩ = pure ((["surface", "ways", "one", "other"] : List Str).zip us) := match us, h with | [_, _, _, _], _ => rfl
abbrev o_links_of0 : List (Str × Nat) := [("link", 6)]
abbrev k_links_of0 : List (Option NameKind) := [some .cell, some .cell, none, none, none, none, some .local]
abbrev g_links_of0 : List Str := ["is_link"]
abbrev N_links : List Str := ["surface", "ways", "i", "j", "found", "place", "spot"]
abbrev K_links : List (Option NameKind) := [some .local, some .local, some .local, some .local, some .local, some .local, some .local]
abbrev G_links : List Str := ["range", "len", "links_of", "sorted"]
theorem S_links : FnScope N_links ["surface", "ways", "i", "j"] (defScope (top 35)) := ⟨rfl, rfl, rfl, by decide +kernel, rfl, by decide +kernel, by decide +kernel⟩
theorem kg_links : (ksB N_links (defScope (top 35)) K_links && gsB G_links (defScope (top 35))) = true := by decide +kernel
theorem bd_links (kV doc pm : Value) (an : Option Addr) (cdv ct : Value) (us : List Value) (h : us.length = (["surface", "ways", "i", "j"] : List Str).length) : bindArgs (PySem.W.fnOf "links" "links" (defArgs (top 35)) (defBody (top 35)) (defScope (top 35)) .none kV doc pm an cdv ct) ⟨us, []⟩ = pure ((["surface", "ways", "i", "j"] : List Str).zip us) := match us, h with | [_, _, _, _], _ => rfl
abbrev N_all_links : List Str := ["surface", "ways", "found", "i", "j"]
abbrev K_all_links : List (Option NameKind) := [some .local, some .local, some .local, some .local, some .local]
abbrev G_all_links : List Str := ["range", "len", "links", "sorted"]
theorem S_all_links : FnScope N_all_links ["surface", "ways"] (defScope (top 36)) := ⟨rfl, rfl, rfl, by decide +kernel, rfl, by decide +kernel, by decide +kernel⟩
theorem kg_all_links : (ksB N_all_links (defScope (top 36)) K_all_links && gsB G_all_links (defScope (top 36))) = true := by decide +kernel
theorem bd_all_links (kV doc pm : Value) (an : Option Addr) (cdv ct : Value) (us : List Value) (h : us.length = (["surface", "ways"] : List Str).length) : bindArgs (PySem.W.fnOf "all_links" "all_links" (defArgs (top 36)) (defBody (top 36)) (defScope (top 36)) .none kV doc pm an cdv ct) ⟨us, []⟩ = pure ((["surface", "ways"] : List Str).zip us) := match us, h with | [_, _], _ => rfl
abbrev N_met_at : List Str := ["ways", "strand", "step"]
abbrev K_met_at : List (Option NameKind) := [some .local, some .local, some .local]
abbrev G_met_at : List Str := ["letter_at", "SMALL_tight", "back"]
theorem S_met_at : FnScope N_met_at ["ways", "strand", "step"] (defScope (top 39)) := ⟨rfl, rfl, rfl, by decide +kernel, rfl, by decide +kernel, by decide +kernel⟩
theorem kg_met_at : (ksB N_met_at (defScope (top 39)) K_met_at && gsB G_met_at (defScope (top 39))) = true := by decide +kernel
theorem bd_met_at (kV doc pm : Value) (an : Option Addr) (cdv ct : Value) (us : List Value) (h : us.length = (["ways", "strand", "step"] : List Str).length) : bindArgs (PySem.W.fnOf "met_at" "met_at" (defArgs (top 39)) (defBody (top 39)) (defScope (top 39)) .none kV doc pm an cdv ct) ⟨us, []⟩ = pure ((["ways", "strand", "step"] : List Str).zip us) := match us, h with | [_, _, _], _ => rfl
abbrev N_run_on : List Str := ["ways", "one", "other", "way", "step"]
abbrev K_run_on : List (Option NameKind) := [some .local, some .local, some .local, some .local, some .local]
abbrev G_run_on : List Str := ["room_of", "met_at"]
theorem S_run_on : FnScope N_run_on ["ways", "one", "other", "way"] (defScope (top 40)) := ⟨rfl, rfl, rfl, by decide +kernel, rfl, by decide +kernel, by decide +kernel⟩
theorem kg_run_on : (ksB N_run_on (defScope (top 40)) K_run_on && gsB G_run_on (defScope (top 40))) = true := by decide +kernel
theorem bd_run_on (kV doc pm : Value) (an : Option Addr) (cdv ct : Value) (us : List Value) (h : us.length = (["ways", "one", "other", "way"] : List Str).length) : bindArgs (PySem.W.fnOf "run_on" "run_on" (defArgs (top 40)) (defBody (top 40)) (defScope (top 40)) .none kV doc pm an cdv ct) ⟨us, []⟩ = pure ((["ways", "one", "other", "way"] : List Str).zip us) := match us, h with | [_, _, _, _], _ => rfl
abbrev N_stands_first : List Str := ["surface", "ways", "one", "other", "ahead", "behind", "begin", "sources"]
abbrev K_stands_first : List (Option NameKind) := [some .local, some .local, some .local, some .local, some .local, some .local, some .local, some .local]
abbrev G_stands_first : List Str := ["run_on", "room_of", "letter_at", "min", "SMALL_tight", "back", "met_at", "comes_first"]
theorem S_stands_first : FnScope N_stands_first ["surface", "ways", "one", "other"] (defScope (top 41)) := ⟨rfl, rfl, rfl, by decide +kernel, rfl, by decide +kernel, by decide +kernel⟩
theorem kg_stands_first : (ksB N_stands_first (defScope (top 41)) K_stands_first && gsB G_stands_first (defScope (top 41))) = true := by decide +kernel
theorem bd_stands_first (kV doc pm : Value) (an : Option Addr) (cdv ct : Value) (us : List Value) (h : us.length = (["surface", "ways", "one", "other"] : List Str).length) : bindArgs (PySem.W.fnOf "stands_first" "stands_first" (defArgs (top 41)) (defBody (top 41)) (defScope (top 41)) .none kV doc pm an cdv ct) ⟨us, []⟩ = pure ((["surface", "ways", "one", "other"] : List Str).zip us) := match us, h with | [_, _, _, _], _ => rfl
abbrev N_order_of : List Str := ["surface", "ways", "strands", "found", "strand", "place"]
abbrev K_order_of : List (Option NameKind) := [some .local, some .local, some .local, some .local, some .local, some .local]
abbrev G_order_of : List Str := ["len", "stands_first"]
theorem S_order_of : FnScope N_order_of ["surface", "ways", "strands"] (defScope (top 42)) := ⟨rfl, rfl, rfl, by decide +kernel, rfl, by decide +kernel, by decide +kernel⟩
theorem kg_order_of : (ksB N_order_of (defScope (top 42)) K_order_of && gsB G_order_of (defScope (top 42))) = true := by decide +kernel
theorem bd_order_of (kV doc pm : Value) (an : Option Addr) (cdv ct : Value) (us : List Value) (h : us.length = (["surface", "ways", "strands"] : List Str).length) : bindArgs (PySem.W.fnOf "order_of" "order_of" (defArgs (top 42)) (defBody (top 42)) (defScope (top 42)) .none kV doc pm an cdv ct) ⟨us, []⟩ = pure ((["surface", "ways", "strands"] : List Str).zip us) := match us, h with | [_, _, _], _ => rfl
abbrev N_tight : List Str := ["surface", "ways", "rows", "number", "row"]
abbrev K_tight : List (Option NameKind) := [some .cell, some .cell, some .local, none, none]
abbrev G_tight : List Str := ["range", "len", "tuple"]
theorem S_tight : FnScope N_tight ["surface", "ways"] (defScope (top 43)) := ⟨rfl, rfl, rfl, by decide +kernel, rfl, by decide +kernel, by decide +kernel⟩
theorem kg_tight : (ksB N_tight (defScope (top 43)) K_tight && gsB G_tight (defScope (top 43))) = true := by decide +kernel
theorem bd_tight (kV doc pm : Value) (an : Option Addr) (cdv ct : Value) (us : List Value) (h : us.length = (["surface", "ways"] : List Str).length) : bindArgs (PySem.W.fnOf "tight" "tight" (defArgs (top 43)) (defBody (top 43)) (defScope (top 43)) .none kV doc pm an cdv ct) ⟨us, []⟩ = pure ((["surface", "ways"] : List Str).zip us) := match us, h with | [_, _], _ => rfl
abbrev o_tight0 : List (Str × Nat) := [("number", 3)]
abbrev k_tight0 : List (Option NameKind) := [some .cell, some .cell, none, some .local, none]
abbrev g_tight0 : List Str := ["order_of", "strands_through"]
abbrev o_tight1 : List (Str × Nat) := [("row", 4)]
abbrev k_tight1 : List (Option NameKind) := [none, none, none, none, some .local]
abbrev g_tight1 : List Str := ["tuple"]
abbrev N_crossing_paper : List Str := ["surface", "ways"]
abbrev K_crossing_paper : List (Option NameKind) := [some .local, some .local]
abbrev G_crossing_paper : List Str := ["tight", "tuple", "all_links"]
theorem S_crossing_paper : FnScope N_crossing_paper ["surface", "ways"] (defScope (top 45)) := ⟨rfl, rfl, rfl, by decide +kernel, rfl, by decide +kernel, by decide +kernel⟩
theorem kg_crossing_paper : (ksB N_crossing_paper (defScope (top 45)) K_crossing_paper && gsB G_crossing_paper (defScope (top 45))) = true := by decide +kernel
theorem bd_crossing_paper (kV doc pm : Value) (an : Option Addr) (cdv ct : Value) (us : List Value) (h : us.length = (["surface", "ways"] : List Str).length) : bindArgs (PySem.W.fnOf "crossing_paper" "crossing_paper" (defArgs (top 45)) (defBody (top 45)) (defScope (top 45)) .none kV doc pm an cdv ct) ⟨us, []⟩ = pure ((["surface", "ways"] : List Str).zip us) := match us, h with | [_, _], _ => rfl
abbrev N_l_tape : List Str := ["_law_script"]
abbrev K_l_tape : List (Option NameKind) := [some .local]
abbrev G_l_tape : List Str := ["list"]
theorem S_l_tape : FnScope N_l_tape ["_law_script"] (defScope (top 47)) := ⟨rfl, rfl, rfl, by decide +kernel, rfl, by decide +kernel, by decide +kernel⟩
theorem kg_l_tape : (ksB N_l_tape (defScope (top 47)) K_l_tape && gsB G_l_tape (defScope (top 47))) = true := by decide +kernel
theorem bd_l_tape (kV doc pm : Value) (an : Option Addr) (cdv ct : Value) (us : List Value) (h : us.length = (["_law_script"] : List Str).length) : bindArgs (PySem.W.fnOf "_law_tape" "_law_tape" (defArgs (top 47)) (defBody (top 47)) (defScope (top 47)) .none kV doc pm an cdv ct) ⟨us, []⟩ = pure ((["_law_script"] : List Str).zip us) := match us, h with | [_], _ => rfl
abbrev N_l_draw : List Str := ["_law_tape_here", "_law_many", "_law_spot", "_law_cell", "_law_mixed", "_law_found"]
abbrev K_l_draw : List (Option NameKind) := [some .local, some .local, some .local, some .local, some .local, some .local]
abbrev G_l_draw : List Str := ["len"]
theorem S_l_draw : FnScope N_l_draw ["_law_tape_here", "_law_many"] (defScope (top 48)) := ⟨rfl, rfl, rfl, by decide +kernel, rfl, by decide +kernel, by decide +kernel⟩
theorem kg_l_draw : (ksB N_l_draw (defScope (top 48)) K_l_draw && gsB G_l_draw (defScope (top 48))) = true := by decide +kernel
theorem bd_l_draw (kV doc pm : Value) (an : Option Addr) (cdv ct : Value) (us : List Value) (h : us.length = (["_law_tape_here", "_law_many"] : List Str).length) : bindArgs (PySem.W.fnOf "_law_draw" "_law_draw" (defArgs (top 48)) (defBody (top 48)) (defScope (top 48)) .none kV doc pm an cdv ct) ⟨us, []⟩ = pure ((["_law_tape_here", "_law_many"] : List Str).zip us) := match us, h with | [_, _], _ => rfl
abbrev N_l_back : List Str := ["_law_word", "_law_sign_here"]
abbrev K_l_back : List (Option NameKind) := [some .local, none]
abbrev G_l_back : List Str := []
theorem S_l_back : FnScope N_l_back ["_law_word"] (defScope (top 49)) := ⟨rfl, rfl, rfl, by decide +kernel, rfl, by decide +kernel, by decide +kernel⟩
theorem kg_l_back : (ksB N_l_back (defScope (top 49)) K_l_back && gsB G_l_back (defScope (top 49))) = true := by decide +kernel
theorem bd_l_back (kV doc pm : Value) (an : Option Addr) (cdv ct : Value) (us : List Value) (h : us.length = (["_law_word"] : List Str).length) : bindArgs (PySem.W.fnOf "_law_back" "_law_back" (defArgs (top 49)) (defBody (top 49)) (defScope (top 49)) .none kV doc pm an cdv ct) ⟨us, []⟩ = pure ((["_law_word"] : List Str).zip us) := match us, h with | [_], _ => rfl
abbrev o_l_back0 : List (Str × Nat) := [("_law_sign_here", 1)]
abbrev k_l_back0 : List (Option NameKind) := [none, some .local]
abbrev g_l_back0 : List Str := []
abbrev N_l_any_row : List Str := ["_law_tape_here", "_law_most", "_law_row", "_law_k", "_law_sign_here"]
abbrev K_l_any_row : List (Option NameKind) := [some .local, some .local, some .local, some .local, some .local]
abbrev G_l_any_row : List Str := ["range", "_law_draw", "len"]
theorem S_l_any_row : FnScope N_l_any_row ["_law_tape_here", "_law_most"] (defScope (top 50)) := ⟨rfl, rfl, rfl, by decide +kernel, rfl, by decide +kernel, by decide +kernel⟩
theorem kg_l_any_row : (ksB N_l_any_row (defScope (top 50)) K_l_any_row && gsB G_l_any_row (defScope (top 50))) = true := by decide +kernel
theorem bd_l_any_row (kV doc pm : Value) (an : Option Addr) (cdv ct : Value) (us : List Value) (h : us.length = (["_law_tape_here", "_law_most"] : List Str).length) : bindArgs (PySem.W.fnOf "_law_any_row" "_law_any_row" (defArgs (top 50)) (defBody (top 50)) (defScope (top 50)) .none kV doc pm an cdv ct) ⟨us, []⟩ = pure ((["_law_tape_here", "_law_most"] : List Str).zip us) := match us, h with | [_, _], _ => rfl
abbrev N_l_inner : List Str := ["_law_word", "_law_left", "_law_sign_here"]
abbrev K_l_inner : List (Option NameKind) := [some .local, some .local, some .local]
abbrev G_l_inner : List Str := ["len", "_law_back"]
theorem S_l_inner : FnScope N_l_inner ["_law_word"] (defScope (top 51)) := ⟨rfl, rfl, rfl, by decide +kernel, rfl, by decide +kernel, by decide +kernel⟩
theorem kg_l_inner : (ksB N_l_inner (defScope (top 51)) K_l_inner && gsB G_l_inner (defScope (top 51))) = true := by decide +kernel
theorem bd_l_inner (kV doc pm : Value) (an : Option Addr) (cdv ct : Value) (us : List Value) (h : us.length = (["_law_word"] : List Str).length) : bindArgs (PySem.W.fnOf "_law_inner" "_law_inner" (defArgs (top 51)) (defBody (top 51)) (defScope (top 51)) .none kV doc pm an cdv ct) ⟨us, []⟩ = pure ((["_law_word"] : List Str).zip us) := match us, h with | [_], _ => rfl
abbrev N_l_rooted : List Str := ["_law_word", "_law_size"]
abbrev K_l_rooted : List (Option NameKind) := [some .local, some .local]
abbrev G_l_rooted : List Str := ["range", "len"]
theorem S_l_rooted : FnScope N_l_rooted ["_law_word"] (defScope (top 52)) := ⟨rfl, rfl, rfl, by decide +kernel, rfl, by decide +kernel, by decide +kernel⟩
theorem kg_l_rooted : (ksB N_l_rooted (defScope (top 52)) K_l_rooted && gsB G_l_rooted (defScope (top 52))) = true := by decide +kernel
theorem bd_l_rooted (kV doc pm : Value) (an : Option Addr) (cdv ct : Value) (us : List Value) (h : us.length = (["_law_word"] : List Str).length) : bindArgs (PySem.W.fnOf "_law_rooted" "_law_rooted" (defArgs (top 52)) (defBody (top 52)) (defScope (top 52)) .none kV doc pm an cdv ct) ⟨us, []⟩ = pure ((["_law_word"] : List Str).zip us) := match us, h with | [_], _ => rfl
abbrev N_l_any_way : List Str := ["_law_tape_here", "_law_many", "_law_long", "_law_signs", "_law_word", "_law_at", "_law_k"]
abbrev K_l_any_way : List (Option NameKind) := [some .cell, some .cell, some .local, some .cell, some .local, some .local, none]
abbrev G_l_any_way : List Str := ["range", "_law_draw", "_law_rooted", "_law_inner"]
theorem S_l_any_way : FnScope N_l_any_way ["_law_tape_here", "_law_many", "_law_long"] (defScope (top 53)) := ⟨rfl, rfl, rfl, by decide +kernel, rfl, by decide +kernel, by decide +kernel⟩
theorem kg_l_any_way : (ksB N_l_any_way (defScope (top 53)) K_l_any_way && gsB G_l_any_way (defScope (top 53))) = true := by decide +kernel
theorem bd_l_any_way (kV doc pm : Value) (an : Option Addr) (cdv ct : Value) (us : List Value) (h : us.length = (["_law_tape_here", "_law_many", "_law_long"] : List Str).length) : bindArgs (PySem.W.fnOf "_law_any_way" "_law_any_way" (defArgs (top 53)) (defBody (top 53)) (defScope (top 53)) .none kV doc pm an cdv ct) ⟨us, []⟩ = pure ((["_law_tape_here", "_law_many", "_law_long"] : List Str).zip us) := match us, h with | [_, _, _], _ => rfl
abbrev o_l_any_way0 : List (Str × Nat) := [("_law_k", 6)]
abbrev k_l_any_way0 : List (Option NameKind) := [some .cell, some .cell, none, some .cell, none, none, some .local]
abbrev g_l_any_way0 : List Str := ["_law_draw"]
abbrev N_l_some_ways : List Str := ["_law_tape_here", "_law_many", "_law_most", "_law_long", "_law_ways", "_law_k", "_law_word", "_law_at"]
abbrev K_l_some_ways : List (Option NameKind) := [some .local, some .local, some .local, some .local, some .local, some .local, some .local, some .local]
abbrev G_l_some_ways : List Str := ["_law_any_way", "range", "_law_draw", "len", "_law_back", "tuple"]
theorem S_l_some_ways : FnScope N_l_some_ways ["_law_tape_here", "_law_many", "_law_most", "_law_long"] (defScope (top 54)) := ⟨rfl, rfl, rfl, by decide +kernel, rfl, by decide +kernel, by decide +kernel⟩
theorem kg_l_some_ways : (ksB N_l_some_ways (defScope (top 54)) K_l_some_ways && gsB G_l_some_ways (defScope (top 54))) = true := by decide +kernel
theorem bd_l_some_ways (kV doc pm : Value) (an : Option Addr) (cdv ct : Value) (us : List Value) (h : us.length = (["_law_tape_here", "_law_many", "_law_most", "_law_long"] : List Str).length) : bindArgs (PySem.W.fnOf "_law_some_ways" "_law_some_ways" (defArgs (top 54)) (defBody (top 54)) (defScope (top 54)) .none kV doc pm an cdv ct) ⟨us, []⟩ = pure ((["_law_tape_here", "_law_many", "_law_most", "_law_long"] : List Str).zip us) := match us, h with | [_, _, _, _], _ => rfl
abbrev N_l_sooner : List Str := ["_law_surface", "_law_begin", "_law_one", "_law_other", "_law_row", "_law_sign_here"]
abbrev K_l_sooner : List (Option NameKind) := [some .local, some .local, some .cell, some .cell, some .local, none]
abbrev G_l_sooner : List Str := []
theorem S_l_sooner : FnScope N_l_sooner ["_law_surface", "_law_begin", "_law_one", "_law_other"] (defScope (top 55)) := ⟨rfl, rfl, rfl, by decide +kernel, rfl, by decide +kernel, by decide +kernel⟩
theorem kg_l_sooner : (ksB N_l_sooner (defScope (top 55)) K_l_sooner && gsB G_l_sooner (defScope (top 55))) = true := by decide +kernel
theorem bd_l_sooner (kV doc pm : Value) (an : Option Addr) (cdv ct : Value) (us : List Value) (h : us.length = (["_law_surface", "_law_begin", "_law_one", "_law_other"] : List Str).length) : bindArgs (PySem.W.fnOf "_law_sooner" "_law_sooner" (defArgs (top 55)) (defBody (top 55)) (defScope (top 55)) .none kV doc pm an cdv ct) ⟨us, []⟩ = pure ((["_law_surface", "_law_begin", "_law_one", "_law_other"] : List Str).zip us) := match us, h with | [_, _, _, _], _ => rfl
abbrev o_l_sooner0 : List (Str × Nat) := [("_law_sign_here", 5)]
abbrev k_l_sooner0 : List (Option NameKind) := [none, none, some .cell, some .cell, none, some .local]
abbrev g_l_sooner0 : List Str := []
abbrev N_l_sign : List Str := ["_law_word", "_law_place", "_law_way", "_law_k", "_law_sign_here"]
abbrev K_l_sign : List (Option NameKind) := [some .local, some .local, some .local, some .local, some .local]
abbrev G_l_sign : List Str := ["len", "_law_back"]
theorem S_l_sign : FnScope N_l_sign ["_law_word", "_law_place", "_law_way", "_law_k"] (defScope (top 56)) := ⟨rfl, rfl, rfl, by decide +kernel, rfl, by decide +kernel, by decide +kernel⟩
theorem kg_l_sign : (ksB N_l_sign (defScope (top 56)) K_l_sign && gsB G_l_sign (defScope (top 56))) = true := by decide +kernel
theorem bd_l_sign (kV doc pm : Value) (an : Option Addr) (cdv ct : Value) (us : List Value) (h : us.length = (["_law_word", "_law_place", "_law_way", "_law_k"] : List Str).length) : bindArgs (PySem.W.fnOf "_law_sign" "_law_sign" (defArgs (top 56)) (defBody (top 56)) (defScope (top 56)) .none kV doc pm an cdv ct) ⟨us, []⟩ = pure ((["_law_word", "_law_place", "_law_way", "_law_k"] : List Str).zip us) := match us, h with | [_, _, _, _], _ => rfl
abbrev N_l_four_ends : List Str := ["_law_surface", "_law_ways", "_law_one", "_law_other", "_law_mine", "_law_theirs", "_law_begin", "_law_end", "_law_some", "_law_first"]
abbrev K_l_four_ends : List (Option NameKind) := [some .local, some .local, some .local, some .local, some .local, some .local, some .local, some .local, some .local, some .local]
abbrev G_l_four_ends : List Str := ["_law_back", "_law_sign", "len", "set", "_law_sooner"]
theorem S_l_four_ends : FnScope N_l_four_ends ["_law_surface", "_law_ways", "_law_one", "_law_other"] (defScope (top 57)) := ⟨rfl, rfl, rfl, by decide +kernel, rfl, by decide +kernel, by decide +kernel⟩
theorem kg_l_four_ends : (ksB N_l_four_ends (defScope (top 57)) K_l_four_ends && gsB G_l_four_ends (defScope (top 57))) = true := by decide +kernel
theorem bd_l_four_ends (kV doc pm : Value) (an : Option Addr) (cdv ct : Value) (us : List Value) (h : us.length = (["_law_surface", "_law_ways", "_law_one", "_law_other"] : List Str).length) : bindArgs (PySem.W.fnOf "_law_four_ends" "_law_four_ends" (defArgs (top 57)) (defBody (top 57)) (defScope (top 57)) .none kV doc pm an cdv ct) ⟨us, []⟩ = pure ((["_law_surface", "_law_ways", "_law_one", "_law_other"] : List Str).zip us) := match us, h with | [_, _, _, _], _ => rfl
abbrev N_l_run : List Str := ["_law_mine", "_law_p", "_law_theirs", "_law_q", "_law_way", "_law_many"]
abbrev K_l_run : List (Option NameKind) := [some .local, some .local, some .local, some .local, some .local, some .local]
abbrev G_l_run : List Str := ["len", "_law_sign"]
theorem S_l_run : FnScope N_l_run ["_law_mine", "_law_p", "_law_theirs", "_law_q", "_law_way"] (defScope (top 58)) := ⟨rfl, rfl, rfl, by decide +kernel, rfl, by decide +kernel, by decide +kernel⟩
theorem kg_l_run : (ksB N_l_run (defScope (top 58)) K_l_run && gsB G_l_run (defScope (top 58))) = true := by decide +kernel
theorem bd_l_run (kV doc pm : Value) (an : Option Addr) (cdv ct : Value) (us : List Value) (h : us.length = (["_law_mine", "_law_p", "_law_theirs", "_law_q", "_law_way"] : List Str).length) : bindArgs (PySem.W.fnOf "_law_run" "_law_run" (defArgs (top 58)) (defBody (top 58)) (defScope (top 58)) .none kV doc pm an cdv ct) ⟨us, []⟩ = pure ((["_law_mine", "_law_p", "_law_theirs", "_law_q", "_law_way"] : List Str).zip us) := match us, h with | [_, _, _, _, _], _ => rfl
abbrev N_l_parted : List Str := ["_law_surface", "_law_mine", "_law_p", "_law_theirs", "_law_q", "_law_way", "_law_many", "_law_before", "_law_after", "_law_last", "_law_sides", "_law_sign_here"]
abbrev K_l_parted : List (Option NameKind) := [some .local, some .local, some .local, some .local, some .local, some .local, some .local, some .local, some .local, some .local, some .local, none]
abbrev G_l_parted : List Str := ["_law_sign", "_law_back", "_law_sooner"]
theorem S_l_parted : FnScope N_l_parted ["_law_surface", "_law_mine", "_law_p", "_law_theirs", "_law_q", "_law_way", "_law_many"] (defScope (top 59)) := ⟨rfl, rfl, rfl, by decide +kernel, rfl, by decide +kernel, by decide +kernel⟩
theorem kg_l_parted : (ksB N_l_parted (defScope (top 59)) K_l_parted && gsB G_l_parted (defScope (top 59))) = true := by decide +kernel
theorem bd_l_parted (kV doc pm : Value) (an : Option Addr) (cdv ct : Value) (us : List Value) (h : us.length = (["_law_surface", "_law_mine", "_law_p", "_law_theirs", "_law_q", "_law_way", "_law_many"] : List Str).length) : bindArgs (PySem.W.fnOf "_law_parted" "_law_parted" (defArgs (top 59)) (defBody (top 59)) (defScope (top 59)) .none kV doc pm an cdv ct) ⟨us, []⟩ = pure ((["_law_surface", "_law_mine", "_law_p", "_law_theirs", "_law_q", "_law_way", "_law_many"] : List Str).zip us) := match us, h with | [_, _, _, _, _, _, _], _ => rfl
abbrev o_l_parted0 : List (Str × Nat) := [("_law_sign_here", 11)]
abbrev k_l_parted0 : List (Option NameKind) := [none, none, none, none, none, none, none, none, none, none, none, some .local]
abbrev g_l_parted0 : List Str := ["_law_back"]
abbrev N_l_linked_at : List Str := ["_law_surface", "_law_ways", "_law_one", "_law_other", "_law_mine", "_law_theirs", "_law_p", "_law_q", "_law_found", "_law_word", "_law_way", "_law_many", "_law_first"]
abbrev K_l_linked_at : List (Option NameKind) := [some .local, some .local, some .local, some .local, some .local, some .local, some .local, some .local, some .local, some .local, some .local, some .local, some .local]
abbrev G_l_linked_at : List Str := ["_law_four_ends", "_law_run", "len", "_law_parted"]
theorem S_l_linked_at : FnScope N_l_linked_at ["_law_surface", "_law_ways", "_law_one", "_law_other"] (defScope (top 60)) := ⟨rfl, rfl, rfl, by decide +kernel, rfl, by decide +kernel, by decide +kernel⟩
theorem kg_l_linked_at : (ksB N_l_linked_at (defScope (top 60)) K_l_linked_at && gsB G_l_linked_at (defScope (top 60))) = true := by decide +kernel
theorem bd_l_linked_at (kV doc pm : Value) (an : Option Addr) (cdv ct : Value) (us : List Value) (h : us.length = (["_law_surface", "_law_ways", "_law_one", "_law_other"] : List Str).length) : bindArgs (PySem.W.fnOf "_law_linked_at" "_law_linked_at" (defArgs (top 60)) (defBody (top 60)) (defScope (top 60)) .none kV doc pm an cdv ct) ⟨us, []⟩ = pure ((["_law_surface", "_law_ways", "_law_one", "_law_other"] : List Str).zip us) := match us, h with | [_, _, _, _], _ => rfl
abbrev N_l_linked : List Str := ["_law_surface", "_law_ways", "_law_i", "_law_j", "_law_found", "_law_p", "_law_q"]
abbrev K_l_linked : List (Option NameKind) := [some .local, some .local, some .local, some .local, some .local, some .local, some .local]
abbrev G_l_linked : List Str := ["range", "len", "_law_linked_at", "sorted"]
theorem S_l_linked : FnScope N_l_linked ["_law_surface", "_law_ways", "_law_i", "_law_j"] (defScope (top 61)) := ⟨rfl, rfl, rfl, by decide +kernel, rfl, by decide +kernel, by decide +kernel⟩
theorem kg_l_linked : (ksB N_l_linked (defScope (top 61)) K_l_linked && gsB G_l_linked (defScope (top 61))) = true := by decide +kernel
theorem bd_l_linked (kV doc pm : Value) (an : Option Addr) (cdv ct : Value) (us : List Value) (h : us.length = (["_law_surface", "_law_ways", "_law_i", "_law_j"] : List Str).length) : bindArgs (PySem.W.fnOf "_law_linked" "_law_linked" (defArgs (top 61)) (defBody (top 61)) (defScope (top 61)) .none kV doc pm an cdv ct) ⟨us, []⟩ = pure ((["_law_surface", "_law_ways", "_law_i", "_law_j"] : List Str).zip us) := match us, h with | [_, _, _, _], _ => rfl
abbrev N_l_every_link : List Str := ["_law_surface", "_law_ways", "_law_found", "_law_i", "_law_j"]
abbrev K_l_every_link : List (Option NameKind) := [some .local, some .local, some .local, some .local, some .local]
abbrev G_l_every_link : List Str := ["range", "len", "_law_linked", "sorted"]
theorem S_l_every_link : FnScope N_l_every_link ["_law_surface", "_law_ways"] (defScope (top 62)) := ⟨rfl, rfl, rfl, by decide +kernel, rfl, by decide +kernel, by decide +kernel⟩
theorem kg_l_every_link : (ksB N_l_every_link (defScope (top 62)) K_l_every_link && gsB G_l_every_link (defScope (top 62))) = true := by decide +kernel
theorem bd_l_every_link (kV doc pm : Value) (an : Option Addr) (cdv ct : Value) (us : List Value) (h : us.length = (["_law_surface", "_law_ways"] : List Str).length) : bindArgs (PySem.W.fnOf "_law_every_link" "_law_every_link" (defArgs (top 62)) (defBody (top 62)) (defScope (top 62)) .none kV doc pm an cdv ct) ⟨us, []⟩ = pure ((["_law_surface", "_law_ways"] : List Str).zip us) := match us, h with | [_, _], _ => rfl
abbrev N_l_all_strands : List Str := ["_law_ways", "_law_found", "_law_i", "_law_p"]
abbrev K_l_all_strands : List (Option NameKind) := [some .local, some .local, some .cell, none]
abbrev G_l_all_strands : List Str := ["range", "len"]
theorem S_l_all_strands : FnScope N_l_all_strands ["_law_ways"] (defScope (top 63)) := ⟨rfl, rfl, rfl, by decide +kernel, rfl, by decide +kernel, by decide +kernel⟩
theorem kg_l_all_strands : (ksB N_l_all_strands (defScope (top 63)) K_l_all_strands && gsB G_l_all_strands (defScope (top 63))) = true := by decide +kernel
theorem bd_l_all_strands (kV doc pm : Value) (an : Option Addr) (cdv ct : Value) (us : List Value) (h : us.length = (["_law_ways"] : List Str).length) : bindArgs (PySem.W.fnOf "_law_all_strands" "_law_all_strands" (defArgs (top 63)) (defBody (top 63)) (defScope (top 63)) .none kV doc pm an cdv ct) ⟨us, []⟩ = pure ((["_law_ways"] : List Str).zip us) := match us, h with | [_], _ => rfl
abbrev o_l_all_strands0 : List (Str × Nat) := [("_law_p", 3)]
abbrev k_l_all_strands0 : List (Option NameKind) := [none, none, some .cell, some .local]
abbrev g_l_all_strands0 : List Str := []
abbrev N_l_all_spots : List Str := ["_law_surface", "_law_drawing", "_law_found", "_law_end", "_law_row", "_law_strand"]
abbrev K_l_all_spots : List (Option NameKind) := [some .local, some .local, some .local, some .cell, some .local, none]
abbrev G_l_all_spots : List Str := ["list"]
theorem S_l_all_spots : FnScope N_l_all_spots ["_law_surface", "_law_drawing"] (defScope (top 64)) := ⟨rfl, rfl, rfl, by decide +kernel, rfl, by decide +kernel, by decide +kernel⟩
theorem kg_l_all_spots : (ksB N_l_all_spots (defScope (top 64)) K_l_all_spots && gsB G_l_all_spots (defScope (top 64))) = true := by decide +kernel
theorem bd_l_all_spots (kV doc pm : Value) (an : Option Addr) (cdv ct : Value) (us : List Value) (h : us.length = (["_law_surface", "_law_drawing"] : List Str).length) : bindArgs (PySem.W.fnOf "_law_all_spots" "_law_all_spots" (defArgs (top 64)) (defBody (top 64)) (defScope (top 64)) .none kV doc pm an cdv ct) ⟨us, []⟩ = pure ((["_law_surface", "_law_drawing"] : List Str).zip us) := match us, h with | [_, _], _ => rfl
abbrev o_l_all_spots0 : List (Str × Nat) := [("_law_strand", 5)]
abbrev k_l_all_spots0 : List (Option NameKind) := [none, none, none, some .cell, none, some .local]
abbrev g_l_all_spots0 : List Str := []
abbrev N_l_all_chords : List Str := ["_law_surface", "_law_ways", "_law_drawing", "_law_spots", "_law_found", "_law_i", "_law_p", "_law_follower", "_law_begin"]
abbrev K_l_all_chords : List (Option NameKind) := [some .local, some .local, some .local, some .local, some .local, some .local, some .local, some .local, some .local]
abbrev G_l_all_chords : List Str := ["_law_all_spots", "_law_all_strands", "len", "_law_back"]
theorem S_l_all_chords : FnScope N_l_all_chords ["_law_surface", "_law_ways", "_law_drawing"] (defScope (top 65)) := ⟨rfl, rfl, rfl, by decide +kernel, rfl, by decide +kernel, by decide +kernel⟩
theorem kg_l_all_chords : (ksB N_l_all_chords (defScope (top 65)) K_l_all_chords && gsB G_l_all_chords (defScope (top 65))) = true := by decide +kernel
theorem bd_l_all_chords (kV doc pm : Value) (an : Option Addr) (cdv ct : Value) (us : List Value) (h : us.length = (["_law_surface", "_law_ways", "_law_drawing"] : List Str).length) : bindArgs (PySem.W.fnOf "_law_all_chords" "_law_all_chords" (defArgs (top 65)) (defBody (top 65)) (defScope (top 65)) .none kV doc pm an cdv ct) ⟨us, []⟩ = pure ((["_law_surface", "_law_ways", "_law_drawing"] : List Str).zip us) := match us, h with | [_, _, _], _ => rfl
abbrev N_l_crosses : List Str := ["_law_one", "_law_other", "_law_low", "_law_high", "_law_place"]
abbrev K_l_crosses : List (Option NameKind) := [some .local, some .local, some .cell, some .cell, none]
abbrev G_l_crosses : List Str := ["sorted", "len"]
theorem S_l_crosses : FnScope N_l_crosses ["_law_one", "_law_other"] (defScope (top 66)) := ⟨rfl, rfl, rfl, by decide +kernel, rfl, by decide +kernel, by decide +kernel⟩
theorem kg_l_crosses : (ksB N_l_crosses (defScope (top 66)) K_l_crosses && gsB G_l_crosses (defScope (top 66))) = true := by decide +kernel
theorem bd_l_crosses (kV doc pm : Value) (an : Option Addr) (cdv ct : Value) (us : List Value) (h : us.length = (["_law_one", "_law_other"] : List Str).length) : bindArgs (PySem.W.fnOf "_law_crosses" "_law_crosses" (defArgs (top 66)) (defBody (top 66)) (defScope (top 66)) .none kV doc pm an cdv ct) ⟨us, []⟩ = pure ((["_law_one", "_law_other"] : List Str).zip us) := match us, h with | [_, _], _ => rfl
abbrev o_l_crosses0 : List (Str × Nat) := [("_law_place", 4)]
abbrev k_l_crosses0 : List (Option NameKind) := [none, none, some .cell, some .cell, some .local]
abbrev g_l_crosses0 : List Str := []
abbrev N_l_all_crossings : List Str := ["_law_surface", "_law_ways", "_law_drawing", "_law_lines", "_law_found", "_law_k", "_law_more", "_law_other"]
abbrev K_l_all_crossings : List (Option NameKind) := [some .local, some .local, some .local, some .cell, some .local, some .cell, some .local, none]
abbrev G_l_all_crossings : List Str := ["_law_all_chords", "range", "len"]
theorem S_l_all_crossings : FnScope N_l_all_crossings ["_law_surface", "_law_ways", "_law_drawing"] (defScope (top 67)) := ⟨rfl, rfl, rfl, by decide +kernel, rfl, by decide +kernel, by decide +kernel⟩
theorem kg_l_all_crossings : (ksB N_l_all_crossings (defScope (top 67)) K_l_all_crossings && gsB G_l_all_crossings (defScope (top 67))) = true := by decide +kernel
theorem bd_l_all_crossings (kV doc pm : Value) (an : Option Addr) (cdv ct : Value) (us : List Value) (h : us.length = (["_law_surface", "_law_ways", "_law_drawing"] : List Str).length) : bindArgs (PySem.W.fnOf "_law_all_crossings" "_law_all_crossings" (defArgs (top 67)) (defBody (top 67)) (defScope (top 67)) .none kV doc pm an cdv ct) ⟨us, []⟩ = pure ((["_law_surface", "_law_ways", "_law_drawing"] : List Str).zip us) := match us, h with | [_, _, _], _ => rfl
abbrev o_l_all_crossings0 : List (Str × Nat) := [("_law_other", 7)]
abbrev k_l_all_crossings0 : List (Option NameKind) := [none, none, none, some .cell, none, some .cell, none, some .local]
abbrev g_l_all_crossings0 : List Str := ["_law_crosses"]
abbrev N_l_is_strand : List Str := ["_law_ways", "_law_thing", "_law_one"]
abbrev K_l_is_strand : List (Option NameKind) := [some .local, some .local, none]
abbrev G_l_is_strand : List Str := ["isinstance", "tuple", "len"]
theorem S_l_is_strand : FnScope N_l_is_strand ["_law_ways", "_law_thing"] (defScope (top 68)) := ⟨rfl, rfl, rfl, by decide +kernel, rfl, by decide +kernel, by decide +kernel⟩
theorem kg_l_is_strand : (ksB N_l_is_strand (defScope (top 68)) K_l_is_strand && gsB G_l_is_strand (defScope (top 68))) = true := by decide +kernel
theorem bd_l_is_strand (kV doc pm : Value) (an : Option Addr) (cdv ct : Value) (us : List Value) (h : us.length = (["_law_ways", "_law_thing"] : List Str).length) : bindArgs (PySem.W.fnOf "_law_is_strand" "_law_is_strand" (defArgs (top 68)) (defBody (top 68)) (defScope (top 68)) .none kV doc pm an cdv ct) ⟨us, []⟩ = pure ((["_law_ways", "_law_thing"] : List Str).zip us) := match us, h with | [_, _], _ => rfl
abbrev o_l_is_strand0 : List (Str × Nat) := [("_law_one", 2)]
abbrev k_l_is_strand0 : List (Option NameKind) := [none, none, some .local]
abbrev g_l_is_strand0 : List Str := ["isinstance", "bool", "int"]
abbrev N_l_is_drawing : List Str := ["_law_surface", "_law_ways", "_law_thing", "_law_met", "_law_number", "_law_one"]
abbrev K_l_is_drawing : List (Option NameKind) := [some .local, some .local, some .local, some .local, some .local, some .local]
abbrev G_l_is_drawing : List Str := ["isinstance", "tuple", "len", "range", "_law_is_strand", "sorted", "_law_all_strands"]
theorem S_l_is_drawing : FnScope N_l_is_drawing ["_law_surface", "_law_ways", "_law_thing"] (defScope (top 69)) := ⟨rfl, rfl, rfl, by decide +kernel, rfl, by decide +kernel, by decide +kernel⟩
theorem kg_l_is_drawing : (ksB N_l_is_drawing (defScope (top 69)) K_l_is_drawing && gsB G_l_is_drawing (defScope (top 69))) = true := by decide +kernel
theorem bd_l_is_drawing (kV doc pm : Value) (an : Option Addr) (cdv ct : Value) (us : List Value) (h : us.length = (["_law_surface", "_law_ways", "_law_thing"] : List Str).length) : bindArgs (PySem.W.fnOf "_law_is_drawing" "_law_is_drawing" (defArgs (top 69)) (defBody (top 69)) (defScope (top 69)) .none kV doc pm an cdv ct) ⟨us, []⟩ = pure ((["_law_surface", "_law_ways", "_law_thing"] : List Str).zip us) := match us, h with | [_, _, _], _ => rfl
abbrev N_l_every_order : List Str := ["_law_things", "_law_found", "_law_thing", "_law_longer", "_law_row", "_law_k"]
abbrev K_l_every_order : List (Option NameKind) := [some .local, some .local, some .cell, some .local, some .cell, none]
abbrev G_l_every_order : List Str := ["range", "len"]
theorem S_l_every_order : FnScope N_l_every_order ["_law_things"] (defScope (top 70)) := ⟨rfl, rfl, rfl, by decide +kernel, rfl, by decide +kernel, by decide +kernel⟩
theorem kg_l_every_order : (ksB N_l_every_order (defScope (top 70)) K_l_every_order && gsB G_l_every_order (defScope (top 70))) = true := by decide +kernel
theorem bd_l_every_order (kV doc pm : Value) (an : Option Addr) (cdv ct : Value) (us : List Value) (h : us.length = (["_law_things"] : List Str).length) : bindArgs (PySem.W.fnOf "_law_every_order" "_law_every_order" (defArgs (top 70)) (defBody (top 70)) (defScope (top 70)) .none kV doc pm an cdv ct) ⟨us, []⟩ = pure ((["_law_things"] : List Str).zip us) := match us, h with | [_], _ => rfl
abbrev o_l_every_order0 : List (Str × Nat) := [("_law_k", 5)]
abbrev k_l_every_order0 : List (Option NameKind) := [none, none, some .cell, none, some .cell, some .local]
abbrev g_l_every_order0 : List Str := []
abbrev N_l_every_drawing : List Str := ["_law_surface", "_law_ways", "_law_found", "_law_number", "_law_some", "_law_longer", "_law_rows", "_law_one", "_law_order"]
abbrev K_l_every_drawing : List (Option NameKind) := [some .local, some .cell, some .local, some .cell, some .local, some .local, some .cell, none, none]
abbrev G_l_every_drawing : List Str := ["range", "len", "_law_all_strands", "_law_every_order"]
theorem S_l_every_drawing : FnScope N_l_every_drawing ["_law_surface", "_law_ways"] (defScope (top 71)) := ⟨rfl, rfl, rfl, by decide +kernel, rfl, by decide +kernel, by decide +kernel⟩
theorem kg_l_every_drawing : (ksB N_l_every_drawing (defScope (top 71)) K_l_every_drawing && gsB G_l_every_drawing (defScope (top 71))) = true := by decide +kernel
theorem bd_l_every_drawing (kV doc pm : Value) (an : Option Addr) (cdv ct : Value) (us : List Value) (h : us.length = (["_law_surface", "_law_ways"] : List Str).length) : bindArgs (PySem.W.fnOf "_law_every_drawing" "_law_every_drawing" (defArgs (top 71)) (defBody (top 71)) (defScope (top 71)) .none kV doc pm an cdv ct) ⟨us, []⟩ = pure ((["_law_surface", "_law_ways"] : List Str).zip us) := match us, h with | [_, _], _ => rfl
abbrev o_l_every_drawing0 : List (Str × Nat) := [("_law_one", 7)]
abbrev k_l_every_drawing0 : List (Option NameKind) := [none, some .cell, none, some .cell, none, none, none, some .local, none]
abbrev g_l_every_drawing0 : List Str := []
abbrev o_l_every_drawing1 : List (Str × Nat) := [("_law_order", 8)]
abbrev k_l_every_drawing1 : List (Option NameKind) := [none, none, none, none, none, none, some .cell, none, some .local]
abbrev g_l_every_drawing1 : List Str := ["tuple"]
abbrev N_l_how_many : List Str := ["_law_surface", "_law_ways", "_law_found", "_law_sign_here", "_law_k", "_law_one"]
abbrev K_l_how_many : List (Option NameKind) := [some .local, some .local, some .local, some .cell, some .local, none]
abbrev G_l_how_many : List Str := ["len", "range"]
theorem S_l_how_many : FnScope N_l_how_many ["_law_surface", "_law_ways"] (defScope (top 72)) := ⟨rfl, rfl, rfl, by decide +kernel, rfl, by decide +kernel, by decide +kernel⟩
theorem kg_l_how_many : (ksB N_l_how_many (defScope (top 72)) K_l_how_many && gsB G_l_how_many (defScope (top 72))) = true := by decide +kernel
theorem bd_l_how_many (kV doc pm : Value) (an : Option Addr) (cdv ct : Value) (us : List Value) (h : us.length = (["_law_surface", "_law_ways"] : List Str).length) : bindArgs (PySem.W.fnOf "_law_how_many" "_law_how_many" (defArgs (top 72)) (defBody (top 72)) (defScope (top 72)) .none kV doc pm an cdv ct) ⟨us, []⟩ = pure ((["_law_surface", "_law_ways"] : List Str).zip us) := match us, h with | [_, _], _ => rfl
abbrev o_l_how_many0 : List (Str × Nat) := [("_law_one", 5)]
abbrev k_l_how_many0 : List (Option NameKind) := [none, none, none, some .cell, none, some .local]
abbrev g_l_how_many0 : List Str := []
abbrev N_l_small : List Str := ["_law_tape_here", "_law_many", "_law_surface", "_law_most", "_law_ways"]
abbrev K_l_small : List (Option NameKind) := [some .local, some .local, some .local, some .local, some .local]
abbrev G_l_small : List Str := ["_law_some_ways", "len", "_law_how_many"]
theorem S_l_small : FnScope N_l_small ["_law_tape_here", "_law_many", "_law_surface", "_law_most"] (defScope (top 73)) := ⟨rfl, rfl, rfl, by decide +kernel, rfl, by decide +kernel, by decide +kernel⟩
theorem kg_l_small : (ksB N_l_small (defScope (top 73)) K_l_small && gsB G_l_small (defScope (top 73))) = true := by decide +kernel
theorem bd_l_small (kV doc pm : Value) (an : Option Addr) (cdv ct : Value) (us : List Value) (h : us.length = (["_law_tape_here", "_law_many", "_law_surface", "_law_most"] : List Str).length) : bindArgs (PySem.W.fnOf "_law_small" "_law_small" (defArgs (top 73)) (defBody (top 73)) (defScope (top 73)) .none kV doc pm an cdv ct) ⟨us, []⟩ = pure ((["_law_tape_here", "_law_many", "_law_surface", "_law_most"] : List Str).zip us) := match us, h with | [_, _, _, _], _ => rfl
abbrev N_l_long_pair : List Str := ["_law_tape_here", "_law_many", "_law_signs", "_law_one", "_law_others", "_law_tail", "_law_often", "_law_found", "_law_word", "_law_at", "_law_sign_here"]
abbrev K_l_long_pair : List (Option NameKind) := [some .local, some .local, some .local, some .cell, some .local, some .local, some .local, some .local, some .local, some .local, none]
abbrev G_l_long_pair : List Str := ["_law_draw", "len", "_law_back", "tuple"]
theorem S_l_long_pair : FnScope N_l_long_pair ["_law_tape_here", "_law_many"] (defScope (top 74)) := ⟨rfl, rfl, rfl, by decide +kernel, rfl, by decide +kernel, by decide +kernel⟩
theorem kg_l_long_pair : (ksB N_l_long_pair (defScope (top 74)) K_l_long_pair && gsB G_l_long_pair (defScope (top 74))) = true := by decide +kernel
theorem bd_l_long_pair (kV doc pm : Value) (an : Option Addr) (cdv ct : Value) (us : List Value) (h : us.length = (["_law_tape_here", "_law_many"] : List Str).length) : bindArgs (PySem.W.fnOf "_law_long_pair" "_law_long_pair" (defArgs (top 74)) (defBody (top 74)) (defScope (top 74)) .none kV doc pm an cdv ct) ⟨us, []⟩ = pure ((["_law_tape_here", "_law_many"] : List Str).zip us) := match us, h with | [_, _], _ => rfl
abbrev o_l_long_pair0 : List (Str × Nat) := [("_law_sign_here", 10)]
abbrev k_l_long_pair0 : List (Option NameKind) := [none, none, none, some .cell, none, none, none, none, none, none, some .local]
abbrev g_l_long_pair0 : List Str := []
abbrev N_l_asked : List Str := ["_law_surface", "_law_ways", "_law_paper", "_law_found", "e"]
abbrev K_l_asked : List (Option NameKind) := [some .local, some .local, some .local, some .local, some .local]
abbrev G_l_asked : List Str := ["lets_crossing", "NoPaper"]
theorem S_l_asked : FnScope N_l_asked ["_law_surface", "_law_ways", "_law_paper"] (defScope (top 75)) := ⟨rfl, rfl, rfl, by decide +kernel, rfl, by decide +kernel, by decide +kernel⟩
theorem kg_l_asked : (ksB N_l_asked (defScope (top 75)) K_l_asked && gsB G_l_asked (defScope (top 75))) = true := by decide +kernel
theorem bd_l_asked (kV doc pm : Value) (an : Option Addr) (cdv ct : Value) (us : List Value) (h : us.length = (["_law_surface", "_law_ways", "_law_paper"] : List Str).length) : bindArgs (PySem.W.fnOf "_law_asked" "_law_asked" (defArgs (top 75)) (defBody (top 75)) (defScope (top 75)) .none kV doc pm an cdv ct) ⟨us, []⟩ = pure ((["_law_surface", "_law_ways", "_law_paper"] : List Str).zip us) := match us, h with | [_, _, _], _ => rfl
abbrev N_l_told_right : List Str := ["_law_surface", "_law_ways", "_law_every", "_law_paper"]
abbrev K_l_told_right : List (Option NameKind) := [some .local, some .local, some .local, some .local]
abbrev G_l_told_right : List Str := ["crossing_paper", "isinstance", "tuple", "len", "_law_is_drawing", "repr", "_law_all_crossings", "_law_asked"]
theorem S_l_told_right : FnScope N_l_told_right ["_law_surface", "_law_ways", "_law_every"] (defScope (top 76)) := ⟨rfl, rfl, rfl, by decide +kernel, rfl, by decide +kernel, by decide +kernel⟩
theorem kg_l_told_right : (ksB N_l_told_right (defScope (top 76)) K_l_told_right && gsB G_l_told_right (defScope (top 76))) = true := by decide +kernel
theorem bd_l_told_right (kV doc pm : Value) (an : Option Addr) (cdv ct : Value) (us : List Value) (h : us.length = (["_law_surface", "_law_ways", "_law_every"] : List Str).length) : bindArgs (PySem.W.fnOf "_law_told_right" "_law_told_right" (defArgs (top 76)) (defBody (top 76)) (defScope (top 76)) .none kV doc pm an cdv ct) ⟨us, []⟩ = pure ((["_law_surface", "_law_ways", "_law_every"] : List Str).zip us) := match us, h with | [_, _, _], _ => rfl
abbrev N_l_swapped : List Str := ["_law_tape_here", "_law_drawing", "_law_at", "_law_row", "_law_k"]
abbrev K_l_swapped : List (Option NameKind) := [some .local, some .local, some .local, some .local, some .local]
abbrev G_l_swapped : List Str := ["_law_draw", "len", "max"]
theorem S_l_swapped : FnScope N_l_swapped ["_law_tape_here", "_law_drawing"] (defScope (top 77)) := ⟨rfl, rfl, rfl, by decide +kernel, rfl, by decide +kernel, by decide +kernel⟩
theorem kg_l_swapped : (ksB N_l_swapped (defScope (top 77)) K_l_swapped && gsB G_l_swapped (defScope (top 77))) = true := by decide +kernel
theorem bd_l_swapped (kV doc pm : Value) (an : Option Addr) (cdv ct : Value) (us : List Value) (h : us.length = (["_law_tape_here", "_law_drawing"] : List Str).length) : bindArgs (PySem.W.fnOf "_law_swapped" "_law_swapped" (defArgs (top 77)) (defBody (top 77)) (defScope (top 77)) .none kV doc pm an cdv ct) ⟨us, []⟩ = pure ((["_law_tape_here", "_law_drawing"] : List Str).zip us) := match us, h with | [_, _], _ => rfl
abbrev N_l_small_right : List Str := ["_law_tape_here", "_law_surface", "_law_ways", "_law_every", "_law_drawings", "_law_start", "_law_left", "_law_drawing", "_law_more", "_law_due"]
abbrev K_l_small_right : List (Option NameKind) := [some .local, some .local, some .local, some .local, some .local, some .local, some .local, some .local, some .local, some .local]
abbrev G_l_small_right : List Str := ["_law_every_link", "_law_every_drawing", "_law_draw", "len", "int", "_law_all_crossings", "repr", "_law_asked", "tuple", "_law_told_right"]
theorem S_l_small_right : FnScope N_l_small_right ["_law_tape_here", "_law_surface", "_law_ways"] (defScope (top 78)) := ⟨rfl, rfl, rfl, by decide +kernel, rfl, by decide +kernel, by decide +kernel⟩
theorem kg_l_small_right : (ksB N_l_small_right (defScope (top 78)) K_l_small_right && gsB G_l_small_right (defScope (top 78))) = true := by decide +kernel
theorem bd_l_small_right (kV doc pm : Value) (an : Option Addr) (cdv ct : Value) (us : List Value) (h : us.length = (["_law_tape_here", "_law_surface", "_law_ways"] : List Str).length) : bindArgs (PySem.W.fnOf "_law_small_right" "_law_small_right" (defArgs (top 78)) (defBody (top 78)) (defScope (top 78)) .none kV doc pm an cdv ct) ⟨us, []⟩ = pure ((["_law_tape_here", "_law_surface", "_law_ways"] : List Str).zip us) := match us, h with | [_, _, _], _ => rfl
abbrev N_l_great_right : List Str := ["_law_tape_here", "_law_surface", "_law_ways", "_law_every", "_law_drawing", "_law_turn", "_law_other", "_law_more", "_law_due"]
abbrev K_l_great_right : List (Option NameKind) := [some .local, some .local, some .local, some .local, some .local, some .local, some .local, some .local, some .local]
abbrev G_l_great_right : List Str := ["_law_every_link", "_law_told_right", "crossing_paper", "range", "_law_swapped", "int", "len", "_law_all_crossings", "repr", "_law_asked", "tuple"]
theorem S_l_great_right : FnScope N_l_great_right ["_law_tape_here", "_law_surface", "_law_ways"] (defScope (top 79)) := ⟨rfl, rfl, rfl, by decide +kernel, rfl, by decide +kernel, by decide +kernel⟩
theorem kg_l_great_right : (ksB N_l_great_right (defScope (top 79)) K_l_great_right && gsB G_l_great_right (defScope (top 79))) = true := by decide +kernel
theorem bd_l_great_right (kV doc pm : Value) (an : Option Addr) (cdv ct : Value) (us : List Value) (h : us.length = (["_law_tape_here", "_law_surface", "_law_ways"] : List Str).length) : bindArgs (PySem.W.fnOf "_law_great_right" "_law_great_right" (defArgs (top 79)) (defBody (top 79)) (defScope (top 79)) .none kV doc pm an cdv ct) ⟨us, []⟩ = pure ((["_law_tape_here", "_law_surface", "_law_ways"] : List Str).zip us) := match us, h with | [_, _, _], _ => rfl
abbrev N_law : List Str := ["_law_script", "_law_tape_here", "_law_k", "_law_surface", "_law_many", "_law_ways"]
abbrev K_law : List (Option NameKind) := [some .local, some .local, some .local, some .local, some .local, some .local]
abbrev G_law : List Str := ["_law_tape", "range", "_law_any_row", "len", "_law_small_right", "_law_small", "_law_some_ways", "_law_draw", "_law_long_pair", "_law_great_right"]
theorem S_law : FnScope N_law ["_law_script"] (defScope (top 80)) := ⟨rfl, rfl, rfl, by decide +kernel, rfl, by decide +kernel, by decide +kernel⟩
theorem kg_law : (ksB N_law (defScope (top 80)) K_law && gsB G_law (defScope (top 80))) = true := by decide +kernel
theorem bd_law (kV doc pm : Value) (an : Option Addr) (cdv ct : Value) (us : List Value) (h : us.length = (["_law_script"] : List Str).length) : bindArgs (PySem.W.fnOf "law" "law" (defArgs (top 80)) (defBody (top 80)) (defScope (top 80)) .none kV doc pm an cdv ct) ⟨us, []⟩ = pure ((["_law_script"] : List Str).zip us) := match us, h with | [_], _ => rfl
/-- what the top leaves -/
structure Facts (G : Glb) : Prop where
  a_back_of : At G "back_of" 2
  a_back : At G "back" 3
  a_moved : At G "moved" 6
  a_letter_at : At G "letter_at" 7
  a_strands_of : At G "strands_of" 8
  a_strands_through : At G "strands_through" 9
  a_is_strand : At G "is_strand" 10
  a_room_of : At G "room_of" 11
  a_is_drawing : At G "is_drawing" 14
  a_points : At G "points" 15
  a_chords : At G "chords" 16
  a_do_cross : At G "do_cross" 17
  a_crossings : At G "crossings" 18
  a_comes_first : At G "comes_first" 23
  a_is_beside : At G "is_beside" 24
  a_is_along : At G "is_along" 25
  a_is_against : At G "is_against" 26
  a_is_long : At G "is_long" 27
  a_is_link : At G "is_link" 28
  a_lets_crossing : At G "lets_crossing" 30
  a_run_along : At G "run_along" 32
  a_run_against : At G "run_against" 33
  a_links_of : At G "links_of" 34
  a_links : At G "links" 35
  a_all_links : At G "all_links" 36
  a_met_at : At G "met_at" 39
  a_run_on : At G "run_on" 40
  a_stands_first : At G "stands_first" 41
  a_order_of : At G "order_of" 42
  a_tight : At G "tight" 43
  a_crossing_paper : At G "crossing_paper" 45
  a_l_tape : At G "_law_tape" 47
  a_l_draw : At G "_law_draw" 48
  a_l_back : At G "_law_back" 49
  a_l_any_row : At G "_law_any_row" 50
  a_l_inner : At G "_law_inner" 51
  a_l_rooted : At G "_law_rooted" 52
  a_l_any_way : At G "_law_any_way" 53
  a_l_some_ways : At G "_law_some_ways" 54
  a_l_sooner : At G "_law_sooner" 55
  a_l_sign : At G "_law_sign" 56
  a_l_four_ends : At G "_law_four_ends" 57
  a_l_run : At G "_law_run" 58
  a_l_parted : At G "_law_parted" 59
  a_l_linked_at : At G "_law_linked_at" 60
  a_l_linked : At G "_law_linked" 61
  a_l_every_link : At G "_law_every_link" 62
  a_l_all_strands : At G "_law_all_strands" 63
  a_l_all_spots : At G "_law_all_spots" 64
  a_l_all_chords : At G "_law_all_chords" 65
  a_l_crosses : At G "_law_crosses" 66
  a_l_all_crossings : At G "_law_all_crossings" 67
  a_l_is_strand : At G "_law_is_strand" 68
  a_l_is_drawing : At G "_law_is_drawing" 69
  a_l_every_order : At G "_law_every_order" 70
  a_l_every_drawing : At G "_law_every_drawing" 71
  a_l_how_many : At G "_law_how_many" 72
  a_l_small : At G "_law_small" 73
  a_l_long_pair : At G "_law_long_pair" 74
  a_l_asked : At G "_law_asked" 75
  a_l_told_right : At G "_law_told_right" 76
  a_l_swapped : At G "_law_swapped" 77
  a_l_small_right : At G "_law_small_right" 78
  a_l_great_right : At G "_law_great_right" 79
  a_law : At G "law" 80
  b_all : G.mg "all" = none
  b_bool : G.mg "bool" = none
  b_dict : G.mg "dict" = none
  b_enumerate : G.mg "enumerate" = none
  b_int : G.mg "int" = none
  b_isinstance : G.mg "isinstance" = none
  b_len : G.mg "len" = none
  b_list : G.mg "list" = none
  b_max : G.mg "max" = none
  b_min : G.mg "min" = none
  b_range : G.mg "range" = none
  b_repr : G.mg "repr" = none
  b_set : G.mg "set" = none
  b_sorted : G.mg "sorted" = none
  b_str : G.mg "str" = none
  b_tuple : G.mg "tuple" = none
  s_SMALL_letters : ∃ t, G.mg "SMALL_letters" = some (.str "abcdef" t)
  s_SMALL_strands : ∃ t, G.mg "SMALL_strands" = some (.str "abcdef" t)
  s_SMALL_drawings : ∃ t, G.mg "SMALL_drawings" = some (.str "abcdef" t)
  s_SMALL_tight : ∃ t, G.mg "SMALL_tight" = some (.str "abcdef" t)
end RW
namespace DL
open PySem PySem.Spec PyProof.Rows L2
theorem bb_len : bootBuiltins "len" = some (.builtin "len") := by decide +kernel
theorem bb_all : bootBuiltins "all" = some (.builtin "all") := by decide +kernel
theorem bb_max : bootBuiltins "max" = some (.builtin "max") := by decide +kernel
theorem bb_min : bootBuiltins "min" = some (.builtin "min") := by decide +kernel
theorem bb_sorted : bootBuiltins "sorted" = some (.builtin "sorted") := by decide +kernel
theorem bb_int : bootBuiltins "int" = some (.type "int") := by decide +kernel
theorem bb_bool : bootBuiltins "bool" = some (.type "bool") := by decide +kernel
theorem bb_str : bootBuiltins "str" = some (.type "str") := by decide +kernel
theorem bb_tuple : bootBuiltins "tuple" = some (.type "tuple") := by decide +kernel
theorem bb_list : bootBuiltins "list" = some (.type "list") := by decide +kernel
theorem kb_tt : kitB "tuple" "tuple" = some true := by decide +kernel
theorem kb_ii : kitB "int" "int" = some true := by decide +kernel
theorem kb_ib : kitB "int" "bool" = some false := by decide +kernel
theorem kb_ss : kitB "str" "str" = some true := by decide +kernel
end DL
namespace RW
open PySem PySem.Spec PyProof.Rows L2 DL

/-! ### letters as signs, words as texts -/
def en (c : L) : Nat := if c.val < 6 then 97 + c.val else 59 + c.val
def tx (w : List L) : Str := ⟨(w.map en).toArray⟩
abbrev dT (w : List L) : PyData := .str (tx w)
def dWs (ws : List (List L)) : PyData := .tuple (ws.map dT)
def dS (x : Nat × Nat) : PyData := .tuple [.int x.1, .int x.2]
theorem en_inj : ∀ {a b : L}, en a = en b → a = b := by decide
theorem map_en_inj : ∀ {v w : List L}, v.map en = w.map en → v = w
  | [], [], _ => rfl
  | [], _ :: _, h => by simp at h
  | _ :: _, [], h => by simp at h
  | a :: v, b :: w, h => by
    simp only [List.map_cons, List.cons.injEq] at h
    rw [en_inj h.1, map_en_inj h.2]
theorem tx_inj {v w : List L} : tx v = tx w ↔ v = w := by
  constructor
  · intro h
    have h1 := congrArg (fun s : Str => s.cps.toList) h
    exact map_en_inj (by simpa [tx] using h1)
  · intro h; rw [h]
theorem tx_len (w : List L) : (tx w).length = w.length := by simp [tx, Str.length]
theorem tx_list (w : List L) : (tx w).cps.toList = w.map en := by simp [tx]
theorem tx_app (v w : List L) : tx v ++ tx w = tx (v ++ w) := by
  show (⟨(tx v).cps ++ (tx w).cps⟩ : Str) = _
  simp [tx]

def up (c : L) : L := if small c then bk c else c
theorem up_tx (c : L) : Txt.upper (tx [c]) = tx [up c] := by revert c; decide +kernel
theorem lo_tx (c : L) : Txt.lower (tx [c]) = tx [lo c] := by revert c; decide +kernel
theorem small_in (c : L) : decide (en c ∈ (("abcdef" : Str)).cps.toList) = small c := by revert c; decide +kernel
theorem big_in (c : L) : decide (en c ∈ (("ABCDEF" : Str)).cps.toList) = !small c := by revert c; decide +kernel
section
variable {X : Cx} {Φ : PyData → Prop}
theorem od_small {c : L} (q : Φ (.bool (small c))) : OpD X (compareOp .In) (dT [c]) (.str "abcdef") Φ := by
  have h := od_inS (X := X) (Φ := Φ) (c := en c) (z := "abcdef") (by rw [small_in]; exact q)
  exact h
theorem od_big {c : L} (q : Φ (.bool (!small c))) : OpD X (compareOp .In) (dT [c]) (.str "ABCDEF") Φ := by
  have h := od_inS (X := X) (Φ := Φ) (c := en c) (z := "ABCDEF") (by rw [big_in]; exact q)
  exact h
end

section
variable {G : Glb}
def C_back_of : Con := fun ss Φ => ∃ c : L, ss = [.val (dT [c])] ∧ Φ (dT [bk c])
theorem cal_back_of (F : Facts G) : Cal G "back_of" 1 C_back_of := by
  obtain ⟨f, fd, FD, hg⟩ := F.a_back_of
  refine cal_of (lv := 0) FD hg S_back_of bd_back_of kg_back_of (fun ss Φ h => ?_) (fun X T ss Φ h hp hc => ?_)
  · obtain ⟨c, rfl, _⟩ := h; rfl
  · obtain ⟨c, rfl, q⟩ := hc
    refine sx_one (s1_ret (ev_ifExp (et_cmp (ev_name h 0 rfl (ev_gstr h 0 F.s_SMALL_letters (od_small ⟨_, rfl, ?_⟩))))))
    split
    · rename_i hs
      refine ev_upper (ev_name h 0 rfl ⟨_, rfl, by rw [tx_len]; exact Nat.le_of_ble_eq_true rfl, ?_⟩)
      rw [up_tx, up, if_pos hs]; exact q
    · rename_i hs
      refine ev_lower (ev_name h 0 rfl ⟨_, rfl, by rw [tx_len]; exact Nat.le_of_ble_eq_true rfl, ?_⟩)
      rw [lo_tx, lo, if_neg hs]; exact q
end
end RW
namespace DL
open PySem PySem.Spec PyProof.Rows L2
def lenD : PyData → Option Nat
  | .list xs => some xs.length
  | .tuple xs => some xs.length
  | .str z => if z.length ≤ 100000 then some z.length else none
  | _ => none
section
variable {G : Glb} {N : List Str} {sc : Scope} {ks : List (Option NameKind)} {gs : List Str} {fc : Bool} {lv : Nat} {X : Cx} {T : Tape} {ρ : List S} {Φ : PyData → Prop} {Θ : Bool → Prop} {O : Out} {p q pos : Pos} {e : Expr}
theorem cd_len {d : PyData} {n : Nat} (h : lenD d = some n) (q : Φ (.int n)) : CD X (.builtin "len") [.val d] Φ := by
  cases d with
  | list xs => cases h; exact cd_lenL q
  | tuple xs => cases h; exact cd_lenT q
  | str z =>
    simp only [lenD] at h
    split at h
    · cases h; rename_i hl; exact cd_lenS hl q
    · cases h
  | _ => cases h
theorem ev_len (h : XOk G N sc ks gs fc lv X) (j : Nat) (hm : G.mg "len" = none) (he : Ev X T ρ e fun d => ∃ n, lenD d = some n ∧ Φ (.int n)) (hg : gs[j]? = some ("len" : Str) := by rfl) (hs : starEach [e] X.env = (false, eval e X.env) :: starEach [] X.env := by rfl) : Ev X T ρ (.Call (.Name "len" p) [e] [] pos) Φ :=
  ev_callB h j hm bb_len (ea_val (he.mono fun d ⟨n, h1, h2⟩ => ea_nil (cd_len h1 h2)) hs) hg hs rfl
theorem ifT {P Q : Prop} (h : P) : if true = true then P else Q := by rw [if_pos rfl]; exact h
theorem ifF {P Q : Prop} (h : Q) : if false = true then P else Q := by rw [if_neg Bool.false_ne_true]; exact h
theorem atI_nat {α : Type} {xs : List α} {i : Nat} (h : i < xs.length) : atI xs (i : Int) = some xs[i] := by
  unfold atI ixN
  rw [if_pos (by omega), if_pos (by omega)]
  simp [h]
theorem ixD_T {xs : List PyData} {i : Nat} (hi : i < xs.length) (q : Φ xs[i]) : Ixd X (.tuple xs) (.int (i : Nat)) Φ := ix_T (atI_nat hi) q
theorem ixD_L {xs : List PyData} {i : Nat} (hi : i < xs.length) (q : Φ xs[i]) : Ixd X (.list xs) (.int (i : Nat)) Φ := ix_L (atI_nat hi) q
/-- turns told by functions of what the data stand for -/
theorem LcQ.on {scope : Scope} {vs is : List Nat} {ks' : List (Option NameKind)} {gs' : List Str} {tg elt : Expr} {ifs : List Expr} {β : Type} (enc : β → PyData) (zs : List β) (keep : β → Bool) (f : β → PyData) (hn : zs.length ≤ 100000)
    (ht : ∀ z ∈ zs, ∃ ρ', (∀ X', XOk G N (relS scope sc) ks' gs' false lv X' → Tg X' T tg is (enc z) (wipeS ρ vs) (· = ρ')) ∧ (∀ X', XOk G N (relS scope sc) ks' gs' false lv X' → Ets X' T ρ' ifs (· = keep z)) ∧
      (keep z = true → ∀ X', XOk G N (relS scope sc) ks' gs' false lv X' → Ev X' T ρ' elt (· = f z))) (q : Φ (.list ((zs.filter keep).map f))) : LcQ G N sc ks' gs' lv T ρ scope vs is tg elt ifs Φ (zs.map enc) := by
  refine ⟨fun i acc => acc = ((zs.take i).filter keep).map f, by simp, by rw [List.length_map]; exact hn, fun i d acc hd e => ?_, fun acc e => ?_⟩
  · dsimp only at e ⊢
    rw [List.getElem?_map, Option.map_eq_some_iff] at hd
    obtain ⟨z, hz, rfl⟩ := hd
    obtain ⟨ρ', h1, h2, h3⟩ := ht z (List.mem_of_getElem? hz)
    have tk : zs.take (i + 1) = zs.take i ++ [z] := by rw [List.take_add_one, hz]; rfl
    refine ⟨ρ', keep z, h1, h2, ?_⟩
    cases kz : keep z with
    | true =>
      rw [if_pos rfl]
      refine fun X' hX' => (h3 kz X' hX').mono fun y hy => ?_
      rw [tk, List.filter_append, List.map_append, e, hy]
      simp [kz]
    | false =>
      rw [if_neg Bool.false_ne_true, tk, List.filter_append, List.map_append, e]
      simp [kz]
  · dsimp only at e
    rw [List.length_map, List.take_length] at e
    rw [e]; exact q
end
end DL
namespace RW
open PySem PySem.Spec PyProof.Rows L2 DL
/-- ways of fit sizes -/
structure Wok (S : List L) (ws : List (List L)) : Prop where
  w : Ways S ws
  n : ws.length ≤ 3
  l : ∀ v ∈ ws, v.length ≤ 64
section
variable {S : List L} {ws : List (List L)} {X : Cx} {Φ : PyData → Prop}
theorem wy_at {i : Nat} (h : i < ws.length) : wy ws i = ws[i] := by
  unfold wy
  rw [List.getD_eq_getElem?_getD, List.getElem?_eq_getElem h]; rfl
/-- ways[i] -/
theorem ixW {i : Nat} (h : i < ws.length) (q : Φ (dT (wy ws i))) : Ixd X (dWs ws) (.int (i : Nat)) Φ := by
  refine ixD_T (by simpa using h) ?_
  rw [List.getElem_map, ← wy_at h]; exact q
/-- word[k] -/
theorem ixC {w : List L} {k : Int} (hl : w.length ≤ 1000) (h0 : 0 ≤ k) (h1 : k < w.length) (q : Φ (dT [wa w k])) : Ixd X (dT w) (.int k) Φ := by
  obtain ⟨n, rfl⟩ : ∃ n : Nat, k = n := ⟨k.toNat, by omega⟩
  have hn : n < w.length := by omega
  refine ix_S (c := en w[n]) (by rw [tx_len]; omega) ?_ (by rw [wa_nat hn] at q; exact q)
  rw [tx_list, atI_nat (by simpa using hn)]
  simp
theorem lenW {w : List L} (h : w.length ≤ 64) : lenD (dT w) = some w.length := by
  show (if (tx w).length ≤ 100000 then some (tx w).length else none) = _
  rw [if_pos (by rw [tx_len]; omega), tx_len]
theorem fold_tx : ∀ (ws : List (List L)) (v : List L), (ws.map tx).foldl (fun acc p => acc ++ ("" : Str).cps ++ p.cps) (tx v).cps = (tx (v ++ ws.flatten)).cps
  | [], v => by simp
  | w :: ws, v => by
    have e0 : ("" : Str).cps = #[] := by decide +kernel
    have e : (tx v).cps ++ ("" : Str).cps ++ (tx w).cps = (tx (v ++ w)).cps := by rw [e0]; simp [tx]
    rw [List.map_cons, List.foldl_cons, e, fold_tx ws]
    simp
theorem join_tx (ws : List (List L)) : Txt.join "" (ws.map tx) = tx ws.flatten := by
  cases ws with
  | nil => rfl
  | cons w ws =>
    show (⟨(ws.map tx).foldl (fun acc p => acc ++ ("" : Str).cps ++ p.cps) (tx w).cps⟩ : Str) = _
    rw [fold_tx]
    rfl
theorem wy_len {x : St2} (h : Wok S ws) (hx : x ∈ sds ws) : (wy ws x.1).length ≤ 64 := h.l _ (wy_mem hx)
end
section
variable {G : Glb}
def C_back : Con := fun ss Φ => ∃ c : L, ss = [.val (dT [c])] ∧ Φ (dT [bk c])
theorem cal_back (F : Facts G) : Cal G "back" 2 C_back := by
  obtain ⟨f, fd, FD, hg⟩ := F.a_back
  refine cal_of (lv := 1) FD hg S_back bd_back kg_back (fun ss Φ h => ?_) (fun X T ss Φ h hp hc => ?_)
  · obtain ⟨c, rfl, _⟩ := h; rfl
  · obtain ⟨c, rfl, q⟩ := hc
    refine sx_one ?_; refine s1_ret ?_; refine ev_join ?_; refine ev_str ?_; refine ⟨_, rfl, ?_⟩
    refine ev_lc h o_back0 [1] k_back0 g_back0 ?_; refine ei_str ?_; refine ev_revS ?_; refine ev_name h 0 rfl ?_
    refine ⟨_, rfl, Nat.le_of_ble_eq_true rfl, _, rfl, ?_⟩
    refine LcQ.of (fun _ => true) (fun _ => dT [bk c]) (by simp [tx]) (fun d hd => ?_) ?_
    · have e : d = .str ⟨#[en c]⟩ := by simpa [tx] using hd
      subst e
      refine ⟨_, fun X' h' => tg_name h' 1 rfl, fun X' h' => ?_, fun _ X' h' => ?_⟩
      · exact ets_nil rfl
      · refine ev_call h' (cal_back_of F) 0 ?_; refine ea_val ?_; refine ev_name h' 1 rfl ?_; refine ea_nil ?_
        exact ⟨c, rfl, rfl⟩
    · exact ⟨[[bk c]].map tx, .inl (by simp [tx]), by simp [tx, Str.length]; decide, by rw [join_tx]; exact q⟩
def C_moved : Con := fun ss Φ => ∃ (S : List L) (ws : List (List L)) (x : St2) (k : Int), Wok S ws ∧ x ∈ sds ws ∧ ss = [.val (dWs ws), .val (dS x), .val (.int k)] ∧ Φ (dS (mvs ws x k))
theorem cal_moved (F : Facts G) : Cal G "moved" 1 C_moved := by
  obtain ⟨f, fd, FD, hg⟩ := F.a_moved
  refine cal_of (lv := 0) FD hg S_moved bd_moved kg_moved (fun ss Φ h => ?_) (fun X T ss Φ h hp hc => ?_)
  · obtain ⟨_, _, _, _, _, _, rfl, _⟩ := h; rfl
  · obtain ⟨S, ws, x, k, hw, hx, rfl, q⟩ := hc
    have hm := mem_sds.mp hx
    have hl := wy_len hw hx
    have n0 := Int.emod_nonneg ((x.2 : Int) + k) (show ((wy ws x.1).length : Int) ≠ 0 by omega)
    refine sx_cons ?_; refine s1_asg (is := [3, 4]) ?_; refine ev_name h 1 rfl ?_; refine tg_pair h 3 4 ?_
    refine sx_one ?_; refine s1_ret ?_; refine ev_tup ?_; refine ea_val ?_; refine ev_name h 3 rfl ?_; refine ea_val ?_
    refine ev_bin ?_; refine ev_bin ?_; refine ev_name h 4 rfl ?_; refine ev_name h 2 rfl ?_; refine od_add ?_
    refine ev_len h 0 F.b_len ?_; refine ev_ix ?_; refine ev_name h 0 rfl ?_; refine ev_name h 3 rfl ?_
    refine ixW hm.1 ?_; refine ⟨_, lenW hl, ?_⟩; refine od_mod (by omega) ?_; refine ea_nil ?_
    refine ⟨_, rfl, Nat.le_of_ble_eq_true rfl, ?_⟩
    unfold dS mvs at q
    rw [Int.toNat_of_nonneg n0] at q
    exact q
def C_letter_at : Con := fun ss Φ => ∃ (S : List L) (ws : List (List L)) (x : St2) (k : Int), Wok S ws ∧ x ∈ sds ws ∧ ss = [.val (dWs ws), .val (dS x), .val (.int k)] ∧ Φ (dT [lat ws x k])
theorem cal_letter_at (F : Facts G) : Cal G "letter_at" 1 C_letter_at := by
  obtain ⟨f, fd, FD, hg⟩ := F.a_letter_at
  refine cal_of (lv := 0) FD hg S_letter_at bd_letter_at kg_letter_at (fun ss Φ h => ?_) (fun X T ss Φ h hp hc => ?_)
  · obtain ⟨_, _, _, _, _, _, rfl, _⟩ := h; rfl
  · obtain ⟨S, ws, x, k, hw, hx, rfl, q⟩ := hc
    have hm := mem_sds.mp hx
    have hl := wy_len hw hx
    have n0 := Int.emod_nonneg ((x.2 : Int) + k) (show ((wy ws x.1).length : Int) ≠ 0 by omega)
    have n1 := Int.emod_lt_of_pos ((x.2 : Int) + k) (show (0 : Int) < ((wy ws x.1).length : Int) by omega)
    refine sx_cons ?_; refine s1_asg (is := [3, 4]) ?_; refine ev_name h 1 rfl ?_; refine tg_pair h 3 4 ?_
    refine sx_one ?_; refine s1_ret ?_; refine ev_ix ?_; refine ev_ix ?_; refine ev_name h 0 rfl ?_; refine ev_name h 3 rfl ?_
    refine ixW hm.1 ?_
    refine ev_bin ?_; refine ev_bin ?_; refine ev_name h 4 rfl ?_; refine ev_name h 2 rfl ?_; refine od_add ?_
    refine ev_len h 0 F.b_len ?_; refine ev_ix ?_; refine ev_name h 0 rfl ?_; refine ev_name h 3 rfl ?_
    refine ixW hm.1 ?_; refine ⟨_, lenW hl, ?_⟩; refine od_mod (by omega) ?_
    refine ixC (by omega) n0 n1 ?_
    unfold lat at q
    unfold wa at q ⊢
    rw [Int.emod_emod]
    exact q
theorem rng_map {f : PyData → PyData} {n : Nat} : ((rng 0 n).filter fun _ => true).map f = (List.range n).map fun p : Nat => f (.int p) := by
  rw [List.filter_eq_self.mpr (fun _ _ => rfl)]
  simp [rng]
theorem len_rng {n : Nat} {a : Int} : (rng a n).length = n := by simp [rng]
theorem fm_succ {α : Type} (f : Nat → List α) (i : Nat) : (List.range (i + 1)).flatMap f = (List.range i).flatMap f ++ f i := by rw [List.range_succ, List.flatMap_append]; simp
def C_strands_of : Con := fun ss Φ => ∃ (S : List L) (ws : List (List L)), Wok S ws ∧ ss = [.val (dWs ws)] ∧ Φ (.list ((sds ws).map dS))
theorem sds_len {S : List L} {ws : List (List L)} (h : Wok S ws) : ∀ n, n ≤ ws.length → ((List.range n).flatMap fun i => (List.range (wy ws i).length).map fun p => (i, p)).length ≤ n * 64
  | 0, _ => by simp
  | n + 1, hn => by
    have h1 := sds_len h n (by omega)
    rw [fm_succ, List.length_append]
    have h2 : (wy ws n).length ≤ 64 := by rw [wy_at (by omega)]; exact h.l _ (List.getElem_mem _)
    simp only [List.length_map, List.length_range] at h1 h2 ⊢
    omega
theorem cal_strands_of (F : Facts G) : Cal G "strands_of" 1 C_strands_of := by
  obtain ⟨f, fd, FD, hg⟩ := F.a_strands_of
  refine cal_of (lv := 0) FD hg S_strands_of bd_strands_of kg_strands_of (fun ss Φ h => ?_) (fun X T ss Φ h hp hc => ?_)
  · obtain ⟨_, _, _, rfl, _⟩ := h; rfl
  · obtain ⟨S, ws, hw, rfl, q⟩ := hc
    refine sx_cons ?_; refine s1_setO h 1 ?_; refine ea_nil ?_; refine ⟨[], rfl, Nat.zero_le _, ?_⟩
    refine sx_cons ?_; refine s1_for (is := [2, 3]) hp h ?_; refine ei_enumT h 0 F.b_enumerate ?_; refine ev_name h 0 rfl ?_; refine ⟨_, rfl, ?_⟩
    refine ⟨fun i ρ => i ≤ ws.length ∧ ∃ ds a b, ρ = [.val (dWs ws), .own ds, a, b, .emp] ∧ ds = ((List.range i).flatMap fun i => (List.range (wy ws i).length).map fun p => (i, p)).map dS, ⟨Nat.zero_le _, _, _, _, rfl, rfl⟩, fun i d ρ hd hI => ?_, fun ρ hI => ?_⟩
    · obtain ⟨hi, ds, a, b, rfl, rfl⟩ := hI
      have hi' : i < ws.length := by have := (List.getElem?_eq_some_iff.mp hd).1; simpa [enumD_length] using this
      have hl : (wy ws i).length ≤ 64 := by rw [wy_at hi']; exact hw.l _ (List.getElem_mem _)
      have hn := sds_len hw i hi
      have h8 := hw.n
      rw [enumD_get (d := dT (wy ws i)) (by rw [List.getElem?_map, List.getElem?_eq_getElem hi', wy_at hi']; rfl)] at hd
      cases hd
      refine tg_pair h 2 3 ?_
      refine sx_one ?_; refine s1_extend h 1 rfl ?_
      refine ev_lc h o_strands_of0 [4] k_strands_of0 g_strands_of0 ?_; refine ei_range1 h 1 F.b_range ?_; refine ev_len h 2 F.b_len ?_; refine ev_name h 3 rfl ?_
      refine ⟨_, lenW hl, _, rfl, by omega, by omega, ?_⟩
      refine LcQ.of (fun _ => true) (fun d => .tuple [.int (i : Nat), d]) (by rw [len_rng]; omega) (fun d hd => ?_) ?_
      · refine ⟨_, fun X' h' => tg_name h' 4 rfl, fun X' h' => ets_nil rfl, fun _ X' h' => ?_⟩
        refine ev_tup ?_; refine ea_val ?_; refine ev_name h' 2 rfl ?_; refine ea_val ?_; refine ev_name h' 4 rfl ?_; refine ea_nil ?_
        exact ⟨_, rfl, Nat.le_of_ble_eq_true rfl, rfl⟩
      · rw [rng_map]
        refine ⟨_, rfl, ?_, hi', _, _, _, rfl, ?_⟩
        · simp only [List.length_map, List.length_range] at hn ⊢
          omega
        · rw [fm_succ, List.map_append, List.map_map]; rfl
    · obtain ⟨_, ds, a, b, rfl, rfl⟩ := hI
      refine sx_freeze 1 rfl ?_; refine sx_one ?_; refine s1_ret ?_; refine ev_name h 1 rfl ?_
      rw [enumD_length, List.length_map]
      exact q
theorem sds_len' {S : List L} {ws : List (List L)} (h : Wok S ws) : (sds ws).length ≤ 512 := by
  have := sds_len h ws.length (Nat.le_refl _)
  have := h.n
  unfold sds
  omega
theorem small_at {n : Nat} (h : n < 6) : atI (("abcdef" : Str)).cps.toList (n : Int) = some (97 + n) := by
  match n, h with
  | 0, _ | 1, _ | 2, _ | 3, _ | 4, _ | 5, _ => decide +kernel
theorem lo_num (c : L) : en (lo c) = 97 + (lo c).val := by revert c; decide
theorem lo_is (c : L) (n : Nat) : decide (tx [lo c] = (⟨#[97 + n]⟩ : Str)) = ((lo c).val == n) := by
  have e : tx [lo c] = (⟨#[97 + (lo c).val]⟩ : Str) := by rw [← lo_num]; rfl
  rw [e]
  by_cases h : (lo c).val = n
  · simp [h]
  · simp [h]
def C_strands_through : Con := fun ss Φ => ∃ (S : List L) (ws : List (List L)) (n : Nat), Wok S ws ∧ n < 6 ∧ ss = [.val (dWs ws), .val (.int n)] ∧ Φ (.list ((thr ws n).map dS))
theorem cal_strands_through (F : Facts G) : Cal G "strands_through" 2 C_strands_through := by
  obtain ⟨f, fd, FD, hg⟩ := F.a_strands_through
  refine cal_of (lv := 1) FD hg S_strands_through bd_strands_through kg_strands_through (fun ss Φ h => ?_) (fun X T ss Φ h hp hc => ?_)
  · obtain ⟨_, _, _, _, _, rfl, _⟩ := h; rfl
  · obtain ⟨S, ws, n, hw, hn, rfl, q⟩ := hc
    refine sx_one ?_; refine s1_ret ?_; refine ev_lc h o_strands_through0 [2] k_strands_through0 g_strands_through0 ?_
    refine ei_list ?_; refine ev_call h (cal_strands_of F) 0 ?_; refine ea_val ?_; refine ev_name h 0 rfl ?_; refine ea_nil ?_
    refine ⟨S, ws, hw, rfl, _, rfl, ?_⟩
    have hl := sds_len' hw
    refine LcQ.on dS (sds ws) (fun x => (lo (lat ws x 0)).val == n) dS (by omega) (fun x hx => ?_) q
    refine ⟨_, fun X' h' => tg_name h' 2 rfl, fun X' h' => ?_, fun _ X' h' => ?_⟩
    · refine ets_one ?_; refine et_cmp ?_; refine ev_lower ?_; refine ev_call h' (cal_letter_at F) 0 ?_
      refine ea_val ?_; refine ev_name h' 0 rfl ?_; refine ea_val ?_; refine ev_name h' 2 rfl ?_; refine ea_val ?_; refine ev_int ?_; refine ea_nil ?_
      refine ⟨S, ws, x, 0, hw, hx, rfl, _, rfl, Nat.le_of_ble_eq_true rfl, ?_⟩
      refine ev_ix ?_; refine ev_gstr h' 1 F.s_SMALL_strands ?_; refine ev_name h' 1 rfl ?_
      refine ix_S (Nat.le_of_ble_eq_true rfl) (small_at hn) ?_
      rw [lo_tx]
      exact od_eqS ⟨_, rfl, lo_is _ _⟩
    · refine ev_name h' 2 rfl ?_
      rfl
end
end RW
namespace RW
open PySem PySem.Spec PyProof.Rows L2 DL
/-! ### parts -/
def cutL {α : Type} (xs : List α) (lo hi : Option Int) : List α := (xs.drop (HT.sIx xs.length 0 lo)).take (HT.sIx xs.length xs.length hi - HT.sIx xs.length 0 lo)
theorem cut_from {α : Type} (xs : List α) (k : Nat) : cutL xs (some (k : Int)) none = xs.drop k := by
  unfold cutL
  rw [HT.sIx_nat, HT.sIx_none]
  rcases Nat.le_total k xs.length with h | h
  · rw [Nat.min_eq_left h, List.take_of_length_le (by simp)]
  · rw [Nat.min_eq_right h, List.drop_of_length_le h]; simp
theorem cut_to {α : Type} (xs : List α) (k : Nat) : cutL xs none (some (k : Int)) = xs.take k := by
  unfold cutL
  rw [HT.sIx_nat, HT.sIx_none, List.drop_zero, Nat.sub_zero]
  rcases Nat.le_total k xs.length with h | h
  · rw [Nat.min_eq_left h]
  · rw [Nat.min_eq_right h, List.take_of_length_le (Nat.le_refl _), List.take_of_length_le h]
theorem cut_mid {α : Type} (xs : List α) (a b : Nat) : cutL xs (some (a : Int)) (some (b : Int)) = (xs.drop a).take (b - a) := by
  unfold cutL
  rw [HT.sIx_nat, HT.sIx_nat]
  rcases Nat.le_total a xs.length with h | h
  · rcases Nat.le_total b xs.length with h' | h'
    · rw [Nat.min_eq_left h, Nat.min_eq_left h']
    · rw [Nat.min_eq_left h, Nat.min_eq_right h', List.take_of_length_le (by simp), List.take_of_length_le (by simp; omega)]
  · rw [Nat.min_eq_right h, List.drop_of_length_le h, List.drop_of_length_le (Nat.le_refl _)]; simp
theorem cutS_tx (w : List L) (lo hi : Option Int) : cutS (tx w) lo hi = tx (cutL w lo hi) := by
  unfold cutS cutL
  rw [tx_len, tx_list]
  unfold tx
  rw [List.map_take, List.map_drop]
theorem cutD_map {β : Type} (enc : β → PyData) (xs : List β) (lo hi : Option Int) : DL.cutD (xs.map enc) lo hi = (cutL xs lo hi).map enc := by
  unfold DL.cutD cutL
  rw [List.length_map, List.map_take, List.map_drop]
section
variable {X : Cx} {Φ : PyData → Prop}
theorem sl_W {w : List L} {lo hi : Option Int} (hl : w.length ≤ 100000) (q : Φ (dT (cutL w lo hi))) : Sld X (dT w) lo hi Φ := sl_S (by rw [tx_len]; exact hl) (by rw [cutS_tx]; exact q)
theorem od_addW {v w : List L} (hl : v.length + w.length ≤ 100000) (q : Φ (dT (v ++ w))) : OpD X (binaryOp .Add) (dT v) (dT w) Φ := od_addS (by rw [tx_len, tx_len]; exact hl) (by rw [tx_app]; exact q)
theorem sl_LD {β : Type} (enc : β → PyData) {xs : List β} {lo hi : Option Int} (q : Φ (.list ((cutL xs lo hi).map enc))) : Sld X (.list (xs.map enc)) lo hi Φ := sl_L (by rw [cutD_map]; exact q)
theorem sl_TD {β : Type} (enc : β → PyData) {xs : List β} {lo hi : Option Int} (q : Φ (.tuple ((cutL xs lo hi).map enc))) : Sld X (.tuple (xs.map enc)) lo hi Φ := sl_T (by rw [cutD_map]; exact q)
end
/-! ### surfaces -/
structure Sok (S : List L) (k : Nat) : Prop where
  nd : S.Nodup
  ln : S.length = 2 * k
  k1 : 1 ≤ k
  k6 : k ≤ 6
  mem : ∀ c, c ∈ S ↔ (lo c).val < k
theorem idx_en (c : L) : ∀ w : List L, (w.map en).idxOf (en c) = w.idxOf c
  | [] => rfl
  | a :: w => by
    rw [List.map_cons, idx_cons, idx_cons, idx_en c w]
    by_cases h : a = c
    · subst h; simp
    · rw [if_neg h, if_neg (fun z => h (en_inj z))]
theorem mem_en {c : L} {w : List L} : en c ∈ w.map en ↔ c ∈ w := by
  rw [List.mem_map]
  exact ⟨fun ⟨a, h, e⟩ => by rw [← en_inj e]; exact h, fun h => ⟨c, h, rfl⟩⟩
/-- where a sign stands in a row turned -/
theorem ri_turn {S : List L} (hn : S.Nodup) {b x : L} (hb : b ∈ S) (hx : x ∈ S) : (S.drop (S.idxOf b) ++ S.take (S.idxOf b)).idxOf x = ri S b x := by
  have hbl := List.idxOf_lt_length_iff.mpr hb
  have hxl := List.idxOf_lt_length_iff.mpr hx
  unfold ri
  generalize S.idxOf b = i at hbl
  have sp : S.idxOf x = (S.take i ++ S.drop i).idxOf x := by rw [List.take_append_drop]
  have nd : (S.take i ++ S.drop i).Nodup := by rw [List.take_append_drop]; exact hn
  have mx : x ∈ S.take i ++ S.drop i := by rw [List.take_append_drop]; exact hx
  rw [List.idxOf_append] at sp ⊢
  by_cases h : x ∈ S.take i
  · have nx : x ∉ S.drop i := fun q => (List.nodup_append.mp nd).2.2 x h x q rfl
    have hl := List.idxOf_lt_length_iff.mpr h
    rw [if_pos h] at sp
    rw [if_neg nx]
    simp only [List.length_take, List.length_drop] at hl ⊢
    rw [if_neg (by omega)]
    omega
  · have dx := (List.mem_append.mp mx).resolve_left h
    rw [if_neg h] at sp
    rw [if_pos dx]
    simp only [List.length_take] at sp
    rw [if_pos (by omega)]
    omega
section
variable {G : Glb} {X : Cx} {Φ : PyData → Prop} {T : Tape} {ρ : List DL.S} {pos : Pos} {e : Expr}
theorem ev_windex {o : Expr} {apos : Pos} (h : Ev X T ρ o fun d => ∃ w : List L, d = dT w ∧ Ev X T ρ e fun y => ∃ c : L, y = dT [c] ∧ c ∈ w ∧ Φ (.int (w.idxOf c : Nat)))
    (hs : starEach [e] X.env = (false, eval e X.env) :: starEach [] X.env := by rfl) (hbase : attributeBase o "index" X.env (eval o X.env) = eval o X.env := by rfl) (hline : (apos.endLine == pos.line) = true := by rfl)
    (hfew : ((backTo pos (starEach [e] X.env)).all (fun x => !x.1) && (backToKw pos (keywordEach [] X.env)).all (fun x => x.1.isSome) && decide ([e].length + ([] : List Keyword).length + (if ([] : List Keyword).isEmpty then 0 else 1) < 30)) = true := by rfl) :
    Ev X T ρ (.Call (.Attribute o "index" apos) [e] [] pos) Φ := by
  refine ev_sindex (h.mono fun d ⟨w, hd, q⟩ => ⟨tx w, hd, q.mono fun y ⟨c, hy, hc, q⟩ => ⟨en c, hy, ?_, ?_⟩⟩) hs hbase hline hfew
  · rw [tx_list]; exact mem_en.mpr hc
  · rw [tx_list, idx_en]; exact q
def C_comes_first : Con := fun ss Φ => ∃ (S : List L) (k : Nat) (b x y : L), Sok S k ∧ b ∈ S ∧ x ∈ S ∧ y ∈ S ∧ ss = [.val (dT S), .val (dT [b]), .val (dT [x]), .val (dT [y])] ∧ Φ (.bool (decide (cf S b x y)))
theorem cal_comes_first (F : Facts G) : Cal G "comes_first" 1 C_comes_first := by
  obtain ⟨f, fd, FD, hg⟩ := F.a_comes_first
  refine cal_of (lv := 0) FD hg S_comes_first bd_comes_first kg_comes_first (fun ss Φ h => ?_) (fun X T ss Φ h hp hc => ?_)
  · obtain ⟨_, _, _, _, _, _, _, _, _, rfl, _⟩ := h; rfl
  · obtain ⟨S, k, b, x, y, hS, hb, hx, hy, rfl, q⟩ := hc
    have hl := hS.ln
    have h6 := hS.k6
    refine sx_cons ?_; refine s1_set h 4 ?_; refine ev_windex ?_; refine ev_name h 0 rfl ?_; refine ⟨S, rfl, ?_⟩; refine ev_name h 1 rfl ?_; refine ⟨b, rfl, hb, ?_⟩
    refine sx_cons ?_; refine s1_set h 5 ?_; refine ev_bin ?_; refine ev_slice ?_; refine ev_name h 0 rfl ?_; refine eo_some ?_; refine ev_name h 4 rfl ?_; refine ⟨_, rfl, ?_⟩; refine eo_none ?_; refine sl_W (by omega) ?_
    refine ev_slice ?_; refine ev_name h 0 rfl ?_; refine eo_none ?_; refine eo_some ?_; refine ev_name h 4 rfl ?_; refine ⟨_, rfl, ?_⟩; refine sl_W (by omega) ?_
    rw [cut_from, cut_to]
    refine od_addW (by simp; omega) ?_
    have mm : ∀ z, z ∈ S → z ∈ S.drop (S.idxOf b) ++ S.take (S.idxOf b) := fun z hz => by
      rw [← List.take_append_drop (S.idxOf b) S, List.mem_append] at hz
      rw [List.mem_append]; exact hz.symm
    refine sx_one ?_; refine s1_ret ?_; refine ev_cmp ?_; refine ev_windex ?_; refine ev_name h 5 rfl ?_; refine ⟨_, rfl, ?_⟩; refine ev_name h 2 rfl ?_; refine ⟨x, rfl, mm x hx, ?_⟩
    refine ev_windex ?_; refine ev_name h 5 rfl ?_; refine ⟨_, rfl, ?_⟩; refine ev_name h 3 rfl ?_; refine ⟨y, rfl, mm y hy, ?_⟩
    refine od_lt ?_
    rw [ri_turn hS.nd hb hx, ri_turn hS.nd hb hy]
    rw [show decide (((ri S b x : Nat) : Int) < ((ri S b y : Nat) : Int)) = decide (cf S b x y) from decide_eq_decide.mpr (by unfold cf; omega)]
    exact q
end
end RW
namespace DL
open PySem PySem.Spec PyProof.Rows L2
section
variable {X : Cx} {T : Tape} {ρ : List S} {O : Out} {pos : Pos}
/-- a while loop, by what holds behind it -/
theorem s1_whileP {c : Expr} {body : List Stmt} (hp : PassesOwn (model X.prog X.w) X.A X.env X.xe) (I : Nat → List S → Prop) (P : List S → Prop) (m : Nat) (h0 : I m ρ)
    (ht : ∀ m ρ', I m ρ' → Et X T ρ' c fun k => if k = true then Sx X T ρ' body { nx := fun ρ'' => ∃ m', m' < m ∧ I m' ρ'', rt := O.rt, bk := O.nx, ct := fun ρ'' => ∃ m', m' < m ∧ I m' ρ'' } else P ρ') (hP : ∀ ρ', P ρ' → O.nx ρ') : S1 X T ρ (.While c body [] pos) O :=
  s1_while hp I m h0 fun m ρ' hI => (ht m ρ' hI).mono fun k q => by
    cases k with
    | true => rw [if_pos rfl] at q ⊢; exact q
    | false => rw [if_neg Bool.false_ne_true] at q ⊢; exact hP ρ' q
end
end DL
namespace RW
open PySem PySem.Spec PyProof.Rows L2 DL
section
variable {G : Glb} {N : List Str} {sc : Scope} {ks : List (Option NameKind)} {gs : List Str} {fc : Bool} {lv : Nat} {X : Cx} {Φ : PyData → Prop} {T : Tape} {ρ : List DL.S} {pos : Pos} {e : Expr}
theorem un_ok (h : XOk G N sc ks gs fc lv X) : X.A.units + 65 < cLine := by have := h.room.un; omega
theorem dataLt_dS (x y : St2) : PySem.W.dataLt (dS x) (dS y) = decide (slt x y) := by
  unfold dS
  rw [PySem.W.dataLt_ii]
  exact decide_eq_decide.mpr (by unfold slt; omega)
theorem od_ltS {x y : St2} (hu : X.A.units + 65 < cLine) (q : Φ (.bool (decide (slt x y)))) : OpD X (compareOp .Lt) (dS x) (dS y) Φ :=
  od_ltD (by omega) rfl (fun z => by cases z) (Nat.le_of_ble_eq_true rfl) (by rw [dataLt_dS]; exact q)
theorem od_eqL {a b : L} (q : Φ (.bool (decide (a = b)))) : OpD X (compareOp .Eq) (dT [a]) (dT [b]) Φ := od_eqS (by
  rw [show decide (tx [a] = tx [b]) = decide (a = b) from decide_eq_decide.mpr (by rw [tx_inj]; simp)]; exact q)
theorem cd_allR {n : Nat} {g : Nat → Bool} (hc : X.calm = true) (q : Φ (.bool ((List.range n).all g))) : CD X (.builtin "all") [.val (.list (((List.range n).filter fun _ => true).map fun k => .bool (g k)))] Φ := by
  have e : (((List.range n).filter fun _ => true).map fun k => PyData.bool (g k)) = ((List.range n).map g).map .bool := by
    rw [List.filter_eq_self.mpr (fun _ _ => rfl), List.map_map]; rfl
  rw [e]
  refine cd_all hc ?_
  rw [List.all_map]; exact q
theorem all_rng {n : Nat} {g : Nat → Bool} : (List.range n).all g = true ↔ ∀ k, k < n → g k = true := by
  rw [List.all_eq_true]
  exact ⟨fun h k hk => h k (List.mem_range.mpr hk), fun h k hk => h k (List.mem_range.mp hk)⟩
end
section
variable {G : Glb}
def C_is_strand : Con := fun ss Φ => ∃ (S : List L) (ws : List (List L)) (x : St2), Wok S ws ∧ x ∈ sds ws ∧ ss = [.val (dWs ws), .val (dS x)] ∧ Φ (.bool true)
theorem cal_is_strand (F : Facts G) : Cal G "is_strand" 1 C_is_strand := by
  obtain ⟨f, fd, FD, hg⟩ := F.a_is_strand
  refine cal_of (lv := 0) FD hg S_is_strand bd_is_strand kg_is_strand (fun ss Φ h => ?_) (fun X T ss Φ h hp hc => ?_)
  · obtain ⟨_, _, _, _, _, rfl, _⟩ := h; rfl
  · obtain ⟨S, ws, x, hw, hx, rfl, q⟩ := hc
    have hm := mem_sds.mp hx
    have hl := wy_len hw hx
    refine sx_cons ?_; refine s1_if ?_; refine et_w ?_; refine ew_or ?_; refine et_not ?_; refine et_val ?_
    refine ev_isi h 0 1 F.b_isinstance F.b_tuple bb_tuple ?_; refine ev_name h 1 rfl ?_; refine ⟨_, kb_tt, _, rfl, ?_⟩
    refine ifF ?_; refine ew_or1 ?_; refine et_cmp ?_; refine ev_len h 2 F.b_len ?_; refine ev_name h 1 rfl ?_; refine ⟨2, rfl, ?_⟩; refine ev_int ?_; refine od_neI ⟨_, rfl, ?_⟩
    refine ifF ?_; refine sx_nil ?_
    refine sx_cons ?_; refine s1_if ?_; refine et_not ?_; refine et_val ?_; refine ev_callB h 3 F.b_all bb_all ?_; refine ea_val ?_
    refine ev_lc h o_is_strand0 [2] k_is_strand0 g_is_strand0 ?_; refine ei_tup ?_; refine ev_name h 1 rfl ?_; refine ⟨_, rfl, ?_⟩
    refine LcQ.on (fun n : Nat => PyData.int n) [x.1, x.2] (fun _ => true) (fun _ => .bool true) (Nat.le_of_ble_eq_true rfl) (fun n hn => ?_) ?_
    · refine ⟨_, fun X' h' => tg_name h' 2 rfl, fun X' h' => ets_nil rfl, fun _ X' h' => ?_⟩
      refine ev_and ?_; refine ev_isi h' 0 1 F.b_isinstance F.b_int bb_int ?_; refine ev_name h' 2 rfl ?_; refine ⟨_, kb_ii, _, rfl, ?_⟩; refine ifT ?_
      refine ev_and ?_; refine ev_notV ?_; refine ev_isi h' 0 2 F.b_isinstance F.b_bool bb_bool ?_; refine ev_name h' 2 rfl ?_; refine ⟨_, kb_ib, _, rfl, _, rfl, ?_⟩; refine ifT ?_
      refine ev_one ?_; refine ev_cmp ?_; refine ev_name h' 2 rfl ?_; refine ev_int ?_; refine od_ge ?_
      rw [decide_eq_true (by omega)]
    · refine ea_nil ?_
      refine cd_all (bs := [true, true]) h.calm ?_
      refine ⟨_, rfl, ?_⟩; refine ifF ?_; refine sx_nil ?_
      refine sx_one ?_; refine s1_ret ?_; refine ev_and ?_; refine ev_cmp ?_; refine ev_ix ?_; refine ev_name h 1 rfl ?_; refine ev_int ?_; refine ix_T (d := .int x.1) rfl ?_
      refine ev_len h 2 F.b_len ?_; refine ev_name h 0 rfl ?_; refine ⟨ws.length, by simp [lenD, dWs], ?_⟩; refine od_lt ⟨_, rfl, ?_⟩
      rw [decide_eq_true (by omega)]; refine ifT ?_
      refine ev_one ?_; refine ev_cmp ?_; refine ev_ix ?_; refine ev_name h 1 rfl ?_; refine ev_int ?_; refine ix_T (d := .int x.2) rfl ?_
      refine ev_len h 2 F.b_len ?_; refine ev_ix ?_; refine ev_name h 0 rfl ?_; refine ev_ix ?_; refine ev_name h 1 rfl ?_; refine ev_int ?_; refine ix_T (d := .int x.1) rfl ?_; refine ixW hm.1 ?_
      refine ⟨_, lenW hl, ?_⟩; refine od_lt ?_
      rw [decide_eq_true (by omega)]; exact q
def C_room_of : Con := fun ss Φ => ∃ (S : List L) (ws : List (List L)) (x y : St2), Wok S ws ∧ x ∈ sds ws ∧ y ∈ sds ws ∧ ss = [.val (dWs ws), .val (dS x), .val (dS y)] ∧ Φ (.int (rmo ws x y : Nat))
theorem cal_room_of (F : Facts G) : Cal G "room_of" 1 C_room_of := by
  obtain ⟨f, fd, FD, hg⟩ := F.a_room_of
  refine cal_of (lv := 0) FD hg S_room_of bd_room_of kg_room_of (fun ss Φ h => ?_) (fun X T ss Φ h hp hc => ?_)
  · obtain ⟨_, _, _, _, _, _, _, rfl, _⟩ := h; rfl
  · obtain ⟨S, ws, x, y, hw, hx, hy, rfl, q⟩ := hc
    refine sx_one ?_; refine s1_ret ?_; refine ev_bin ?_
    refine ev_len h 0 F.b_len ?_; refine ev_ix ?_; refine ev_name h 0 rfl ?_; refine ev_ix ?_; refine ev_name h 1 rfl ?_; refine ev_int ?_; refine ix_T (d := .int x.1) rfl ?_; refine ixW (mem_sds.mp hx).1 ?_; refine ⟨_, lenW (wy_len hw hx), ?_⟩
    refine ev_len h 0 F.b_len ?_; refine ev_ix ?_; refine ev_name h 0 rfl ?_; refine ev_ix ?_; refine ev_name h 2 rfl ?_; refine ev_int ?_; refine ix_T (d := .int y.1) rfl ?_; refine ixW (mem_sds.mp hy).1 ?_; refine ⟨_, lenW (wy_len hw hy), ?_⟩
    refine od_add ?_
    exact q
def C_is_long : Con := fun ss Φ => ∃ m : Nat, ss = [.val (.int m)] ∧ Φ (.bool (decide (0 < m)))
theorem cal_is_long (F : Facts G) : Cal G "is_long" 1 C_is_long := by
  obtain ⟨f, fd, FD, hg⟩ := F.a_is_long
  refine cal_of (lv := 0) FD hg S_is_long bd_is_long kg_is_long (fun ss Φ h => ?_) (fun X T ss Φ h hp hc => ?_)
  · obtain ⟨_, rfl, _⟩ := h; rfl
  · obtain ⟨m, rfl, q⟩ := hc
    refine sx_one ?_; refine s1_ret ?_; refine ev_and ?_; refine ev_isi h 0 1 F.b_isinstance F.b_int bb_int ?_; refine ev_name h 0 rfl ?_; refine ⟨_, kb_ii, _, rfl, ?_⟩; refine ifT ?_
    refine ev_and ?_; refine ev_notV ?_; refine ev_isi h 0 2 F.b_isinstance F.b_bool bb_bool ?_; refine ev_name h 0 rfl ?_; refine ⟨_, kb_ib, _, rfl, _, rfl, ?_⟩; refine ifT ?_
    refine ev_one ?_; refine ev_cmp ?_; refine ev_name h 0 rfl ?_; refine ev_int ?_; refine od_gt ?_
    rw [show decide ((0 : Int) < (m : Int)) = decide (0 < m) from decide_eq_decide.mpr (by omega)]
    exact q
def C_run_along : Con := fun ss Φ => ∃ (S : List L) (ws : List (List L)) (x y : St2), Wok S ws ∧ x ∈ sds ws ∧ y ∈ sds ws ∧ ss = [.val (dWs ws), .val (dS x), .val (dS y)] ∧ Φ (.int (rn (fun k => decide (lat ws x k = lat ws y k)) (rmo ws x y) : Nat))
theorem cal_run_along (F : Facts G) : Cal G "run_along" 2 C_run_along := by
  obtain ⟨f, fd, FD, hg⟩ := F.a_run_along
  refine cal_of (lv := 1) FD hg S_run_along bd_run_along kg_run_along (fun ss Φ h => ?_) (fun X T ss Φ h hp hc => ?_)
  · obtain ⟨_, _, _, _, _, _, _, rfl, _⟩ := h; rfl
  · obtain ⟨S, ws, x, y, hw, hx, hy, rfl, q⟩ := hc
    refine sx_cons ?_; refine s1_set h 3 ?_; refine ev_int ?_
    refine sx_cons ?_
    refine s1_whileP hp (fun mm ρ => ∃ k : Nat, k ≤ rmo ws x y ∧ mm = rmo ws x y - k ∧ ρ = [.val (dWs ws), .val (dS x), .val (dS y), .val (.int k)] ∧ ∀ j, j < k → decide (lat ws x j = lat ws y j) = true)
      (fun ρ => ρ = [.val (dWs ws), .val (dS x), .val (dS y), .val (.int (rn (fun k => decide (lat ws x k = lat ws y k)) (rmo ws x y) : Nat))]) (rmo ws x y) ⟨0, Nat.zero_le _, rfl, rfl, fun j hj => absurd hj (Nat.not_lt_zero j)⟩ ?_ ?_
    · rintro mm ρ' ⟨k, hk, rfl, rfl, ha⟩
      refine et_w ?_; refine ew_and ?_; refine et_cmp ?_; refine ev_name h 3 rfl ?_; refine ev_call h (cal_room_of F) 0 ?_; refine ea_val ?_; refine ev_name h 0 rfl ?_; refine ea_val ?_; refine ev_name h 1 rfl ?_; refine ea_val ?_; refine ev_name h 2 rfl ?_; refine ea_nil ?_
      refine ⟨S, ws, x, y, hw, hx, hy, rfl, ?_⟩; refine od_lt ⟨_, rfl, ?_⟩
      by_cases h1 : k < rmo ws x y
      · rw [decide_eq_true (by omega)]; refine ifT ?_
        refine ew_and1 ?_; refine et_cmp ?_
        refine ev_call h (cal_letter_at F) 1 ?_; refine ea_val ?_; refine ev_name h 0 rfl ?_; refine ea_val ?_; refine ev_name h 1 rfl ?_; refine ea_val ?_; refine ev_name h 3 rfl ?_; refine ea_nil ?_; refine ⟨S, ws, x, k, hw, hx, rfl, ?_⟩
        refine ev_call h (cal_letter_at F) 1 ?_; refine ea_val ?_; refine ev_name h 0 rfl ?_; refine ea_val ?_; refine ev_name h 2 rfl ?_; refine ea_val ?_; refine ev_name h 3 rfl ?_; refine ea_nil ?_; refine ⟨S, ws, y, k, hw, hy, rfl, ?_⟩
        refine od_eqL ⟨_, rfl, ?_⟩
        by_cases h2 : lat ws x k = lat ws y k
        · rw [decide_eq_true h2]; refine ifT ?_
          refine sx_one ?_; refine s1_set h 3 ?_; refine ev_bin ?_; refine ev_name h 3 rfl ?_; refine ev_int ?_; refine od_add ?_
          refine ⟨rmo ws x y - (k + 1), by omega, k + 1, h1, rfl, by rw [Int.natCast_add]; rfl, fun j hj => ?_⟩
          by_cases e : j = k
          · subst e; exact decide_eq_true h2
          · exact ha j (by omega)
        · rw [decide_eq_false h2]; refine ifF ?_
          rw [rn_eq hk ha (fun _ => decide_eq_false h2)]
      · rw [decide_eq_false (by omega)]; refine ifF ?_; refine ifF ?_
        rw [rn_eq hk ha (fun z => absurd z h1)]
    · rintro ρ' rfl
      refine sx_one ?_; refine s1_ret ?_; refine ev_name h 3 rfl ?_
      exact q
def C_run_against : Con := fun ss Φ => ∃ (S : List L) (ws : List (List L)) (x y : St2), Wok S ws ∧ x ∈ sds ws ∧ y ∈ sds ws ∧ ss = [.val (dWs ws), .val (dS x), .val (dS y)] ∧ Φ (.int (rn (fun k => decide (lat ws x k = bk (lat ws y (-(k : Int))))) (rmo ws x y) : Nat))
theorem cal_run_against (F : Facts G) : Cal G "run_against" 3 C_run_against := by
  obtain ⟨f, fd, FD, hg⟩ := F.a_run_against
  refine cal_of (lv := 2) FD hg S_run_against bd_run_against kg_run_against (fun ss Φ h => ?_) (fun X T ss Φ h hp hc => ?_)
  · obtain ⟨_, _, _, _, _, _, _, rfl, _⟩ := h; rfl
  · obtain ⟨S, ws, x, y, hw, hx, hy, rfl, q⟩ := hc
    refine sx_cons ?_; refine s1_set h 3 ?_; refine ev_int ?_
    refine sx_cons ?_
    refine s1_whileP hp (fun mm ρ => ∃ k : Nat, k ≤ rmo ws x y ∧ mm = rmo ws x y - k ∧ ρ = [.val (dWs ws), .val (dS x), .val (dS y), .val (.int k)] ∧ ∀ j : Nat, j < k → decide (lat ws x j = bk (lat ws y (-(j : Int)))) = true)
      (fun ρ => ρ = [.val (dWs ws), .val (dS x), .val (dS y), .val (.int (rn (fun k => decide (lat ws x k = bk (lat ws y (-(k : Int))))) (rmo ws x y) : Nat))]) (rmo ws x y) ⟨0, Nat.zero_le _, rfl, rfl, fun j hj => absurd hj (Nat.not_lt_zero j)⟩ ?_ ?_
    · rintro mm ρ' ⟨k, hk, rfl, rfl, ha⟩
      refine et_w ?_; refine ew_and ?_; refine et_cmp ?_; refine ev_name h 3 rfl ?_; refine ev_call h (cal_room_of F) 0 ?_; refine ea_val ?_; refine ev_name h 0 rfl ?_; refine ea_val ?_; refine ev_name h 1 rfl ?_; refine ea_val ?_; refine ev_name h 2 rfl ?_; refine ea_nil ?_
      refine ⟨S, ws, x, y, hw, hx, hy, rfl, ?_⟩; refine od_lt ⟨_, rfl, ?_⟩
      by_cases h1 : k < rmo ws x y
      · rw [decide_eq_true (by omega)]; refine ifT ?_
        refine ew_and1 ?_; refine et_cmp ?_
        refine ev_call h (cal_letter_at F) 1 ?_; refine ea_val ?_; refine ev_name h 0 rfl ?_; refine ea_val ?_; refine ev_name h 1 rfl ?_; refine ea_val ?_; refine ev_name h 3 rfl ?_; refine ea_nil ?_; refine ⟨S, ws, x, k, hw, hx, rfl, ?_⟩
        refine ev_call h (cal_back F) 2 ?_; refine ea_val ?_
        refine ev_call h (cal_letter_at F) 1 ?_; refine ea_val ?_; refine ev_name h 0 rfl ?_; refine ea_val ?_; refine ev_name h 2 rfl ?_; refine ea_val ?_; refine ev_un ?_; refine ev_name h 3 rfl ?_; refine ud_neg ?_; refine ea_nil ?_; refine ⟨S, ws, y, -(k : Int), hw, hy, rfl, ?_⟩
        refine ea_nil ?_; refine ⟨_, rfl, ?_⟩
        refine od_eqL ⟨_, rfl, ?_⟩
        by_cases h2 : lat ws x k = bk (lat ws y (-(k : Int)))
        · rw [decide_eq_true h2]; refine ifT ?_
          refine sx_one ?_; refine s1_set h 3 ?_; refine ev_bin ?_; refine ev_name h 3 rfl ?_; refine ev_int ?_; refine od_add ?_
          refine ⟨rmo ws x y - (k + 1), by omega, k + 1, h1, rfl, by rw [Int.natCast_add]; rfl, fun j hj => ?_⟩
          by_cases e : j = k
          · subst e; exact decide_eq_true h2
          · exact ha j (by omega)
        · rw [decide_eq_false h2]; refine ifF ?_
          rw [rn_eq hk ha (fun _ => decide_eq_false h2)]
      · rw [decide_eq_false (by omega)]; refine ifF ?_; refine ifF ?_
        rw [rn_eq hk ha (fun z => absurd z h1)]
    · rintro ρ' rfl
      refine sx_one ?_; refine s1_ret ?_; refine ev_name h 3 rfl ?_
      exact q
end
end RW
/-! How many unlike texts a list has: len(set([..])). -/
namespace LS
open PySem PySem.Spec PyProof.Rows
/-- those of the first i, each once -/
def unl (zs : List Str) (i : Nat) : List Str := (zs.take i).foldl step_dedup []
theorem unl_succ {zs : List Str} {i : Nat} {z : Str} (e : zs[i]? = some z) : unl zs (i + 1) = step_dedup (unl zs i) z := by
  unfold unl
  rw [List.take_add_one, e, List.foldl_append]; rfl
theorem unl_le (zs : List Str) : ∀ i, (unl zs i).length ≤ i
  | 0 => by simp [unl]
  | i + 1 => by
    have ih := unl_le zs i
    cases e : zs[i]? with
    | none =>
      have : unl zs (i + 1) = unl zs i := by unfold unl; rw [List.take_add_one, e]; simp
      rw [this]; omega
    | some z =>
      rw [unl_succ e]
      unfold step_dedup
      split
      · omega
      · simp; omega
theorem sd_any (l : List Str) (z k : Str) : (step_dedup l z).any (· == k) = (l.any (· == k) || decide (k = z)) := by
  unfold step_dedup
  by_cases h : l.any (· == z) = true
  · rw [if_pos h]
    by_cases e : k = z
    · subst e; rw [h]; simp
    · simp [e]
  · rw [if_neg h, List.any_append]
    by_cases e : k = z
    · subst e; simp
    · have : (z == k) = false := by simpa using fun q : z = k => e q.symm
      simp [this, e]
section
variable {prog : Program} {w : World} {A : Around} {R : Result → Shared → Prop} {I : Addr} {fp wr : List Addr} {Gn : Array GenState → Array GenState → Prop} {n : Nat} {Pv : Nat → Value → Prop} {Sv : Nat → Shared → Prop}
/-- a set at a, as far as i -/
abbrev At (prog : Program) (w : World) (zs : List Str) (a : Addr) (i : Nat) (h : Heap) : Prop := h.SetOf (PySem.strKind prog w) a (fun k' => (unl zs i).any (· == k')) (unl zs i).length
theorem fill (W : WalksS prog w A.in1 I fp wr Gn n Pv Sv) (a : Addr) (na : a ∉ fp) (zs : List Str) (hz : zs.length = n) (few : n + 1 < scanBound) (val : ∀ i v, Pv i v → ∃ t z, zs[i]? = some z ∧ v = .str z t) :
    ∀ (k i : Nat) (s : Shared), n - i = k → i ≤ n → Sv i s → At prog w zs a i s.heap → (∀ s', Moved (a :: wr) Gn s s' → At prog w zs a n s'.heap → R (.ok (.ret .none)) s') →
      codeAny (model prog w) A (.builtin "set.update.loop" ⟨[.ref a, .ref I], []⟩) R s := by
  have nw : a ∉ wr := fun h => na (W.sub _ h)
  have more : ∀ b ∈ wr, b ∈ a :: wr := fun b hb => List.mem_cons_of_mem _ hb
  intro k
  induction k with
  | zero =>
    intro i s hk hi st hS hR
    obtain rfl : i = n := by omega
    refine codeAny_builtin PyProof.Rows.F.entry_set_update_loop ?_
    rw [Around.under_plainId PyProof.Rows.F.plain_set_update_loop _]
    show wpAny _ A.in1 (pyNext (.ref I) >>= _) _ _ s
    refine wpAny_bind (W.done s _ _ st fun s' mv => ?_)
    refine wpAny_pure (hR s' (mv.mono more) ?_)
    obtain ⟨o, es, ep, tb, ho, r⟩ := hS
    exact ⟨o, es, ep, tb, mv.heap a _ nw ho, r⟩
  | succ k ih =>
    intro i s hk hi st hS hR
    have lt : i < n := by omega
    refine codeAny_builtin PyProof.Rows.F.entry_set_update_loop ?_
    rw [Around.under_plainId PyProof.Rows.F.plain_set_update_loop _]
    show wpAny _ A.in1 (pyNext (.ref I) >>= _) _ _ s
    refine wpAny_bind (W.item i s _ _ lt st fun v s' pv st' mv => ?_)
    obtain ⟨t, z, ez, rfl⟩ := val i v pv
    have hS' : At prog w zs a i s'.heap := by
      obtain ⟨o, es, ep, tb, ho, r⟩ := hS
      exact ⟨o, es, ep, tb, mv.heap a _ nw ho, r⟩
    show wpAny _ A.in1 (holding [Value.str z t] (setAdd a (.str z t)) >>= _) _ _ s'
    refine wpAny_bind (wpAny_holding ?_)
    unfold setAdd
    refine wpAny_holding (wpAny_bind ((PySem.strKind prog w).pyHash (k := z) (strKind_is _ _ _ _) ?_))
    refine wpAny_setAddHashed_of (knd := PySem.strKind prog w) (s := { s' with toks := s'.toks + 1 }) (strKind_is _ _ _ _) rfl hS' (by have := unl_le zs i; omega) fun h' same hS2 => ?_
    have nxt : At prog w zs a (i + 1) h' := by
      unfold At
      rw [unl_succ ez]
      refine SetOf_congr hS2 (fun k' => (sd_any _ _ _).symm) ?_
      unfold step_dedup
      split <;> simp
    refine wpAny_pure ⟨plainId_quiet PyProof.Rows.F.plain_set_update_loop _, ih (i + 1) _ (by omega) lt (W.frame _ s' _ _ st' (Nat.le_succ _) fun b hb o e => ?_) nxt fun s2 mv2 hS3 => ?_⟩
    · rw [same.2 b (fun h : b = a => na (by rw [← h]; exact hb))]; exact e
    · refine hR s2 (Moved.trans W.gtrans ((mv.mono more).then_heap (Nat.le_succ _) fun b o hb e => ?_) mv2) hS3
      rw [same.2 b (fun h : b = a => hb (by rw [h]; exact List.mem_cons_self))]; exact e
end
section
variable {prog : Program} {w : World} {A : Around} {E : Value → Shared → Prop} {s : Shared}
abbrev emptyS (led : Bool) : Obj := { cls := .type "set", dict := none, data := .set #[] 0 (.fresh 0 0 led) }
theorem made {l : Addr} {its : Array Value} {zs : List Str} {Q : Value → Shared → Prop} (calm : A.handled = none) (hl : s.heap.IsList l its) (hv : PyProof.Rows.StrsAre its.toList zs) (few : zs.length ≤ 50)
    (fin : ∀ (h' : Heap) (tk : Nat), At prog w zs s.heap.objs.size its.size h' → (∀ b o, b < s.heap.objs.size → s.heap.get? b = some o → h'.get? b = some o) → Q (.ref s.heap.objs.size) { s with heap := h', toks := tk }) : wpAny (model prog w) A (call (.type "set") [.ref l]) Q E s := by
  obtain ⟨c0, t0, mro0⟩ := PySem.F.called_set.mro
  have made0 := PySem.F.called_set.made
  have sub0 := PySem.F.called_set.sub
  refine wpAny_call (codeAny_of_tree ?_)
  show wpAny _ _ (callAny (.type "set") _) _ _ _
  refine wpAny_pure ⟨Code.quiet_builtin _ (by decide +kernel), codeAny_builtin PySem.F.entry_type_call ?_⟩
  rw [Around.under_plain (weight_type_call_type "set" [.ref l] []) rfl]
  have q1 := PySem.F.called_set.notType
  have q2 := PySem.F.called_set.canCreate
  have q3 := PySem.F.typeCall_set_1 (.ref l)
  repeat (any_goals (first | assumption | wp_step))
  refine codeAny_mono (code_set_new_1 (.ref l) (E := E) (Q₁ := fun ob s₁ => ∃ led : Bool, ob = .ref s.heap.objs.size ∧ s₁ = { s with heap := s.heap.push (emptyS led) }) fun led => ⟨led, rfl, rfl⟩) fun r s₁ hr => ?_
  match r, hr with
  | .error e, hr => exact hr
  | .ok .next, hr => exact hr.elim
  | .ok .brk, hr => exact hr.elim
  | .ok .cont, hr => exact hr.elim
  | .ok (.ret ob), hr =>
    obtain ⟨led, rfl, rfl⟩ := hr
    have here : (s.heap.push (emptyS led)).get? s.heap.objs.size = some (emptyS led) := Heap.get?_push_size _ rfl
    have ty : Shared.TypeIs { s with heap := s.heap.push (emptyS led) } (.ref s.heap.objs.size) "set" := ⟨_, here, rfl⟩
    have i1 := PySem.F.called_set.init.lookup
    have i2 := PySem.F.called_set.init.bind (.ref s.heap.objs.size)
    repeat (any_goals (first | assumption | wp_step))
    refine codeAny_mono (codeAny_call_builtin (R := wants (fun r s₂ => r = .none ∧ ∃ h' tk, s₂ = { s with heap := h', toks := tk } ∧ At prog w zs s.heap.objs.size its.size h' ∧ (∀ b o, b < s.heap.objs.size → s.heap.get? b = some o → h'.get? b = some o)) E)
      PySem.F.called_set.init.plain PySem.F.entry_set_init (check_set_init_1 ty ?_)) fun r₂ s₂ hr₂ => ?_
    · obtain ⟨ol, hol, cl, nl, dl⟩ := hl
      obtain ⟨oc, od, odt, osl⟩ := ol
      simp only at cl dl
      subst cl; subst dl
      have up : ∀ b o, s.heap.get? b = some o → (s.heap.push (emptyS led)).get? b = some o := fun b o e => Heap.get?_push_of_some _ e
      have hol' := up _ _ hol
      have n1 := PySem.F.sub_list_set
      have n2 := PySem.F.sub_list_frozenset
      have n3 : (Value.type "list" == Value.type "dict") = false := by decide
      have lst : (s.heap.push (emptyS led)).IsList l its := ⟨_, hol', rfl, nl, rfl⟩
      unfold Builtin.«set.__init__» noKeywords Builtin.Frozenset.updateFrom
      generalize hPI : pyIter = PI
      wp_walk
      subst hPI
      refine wpAny_pyIter_list lst (wpAny_bind (wpAny_runValue ?_))
      have ll : l < s.heap.objs.size := Heap.lt_size hol
      have sz : (s.heap.push (emptyS led)).objs.size = s.heap.objs.size + 1 := Heap.size_push ..
      have c3 : A.in1.in1.in1.handled = none := by simp [calm]
      have nl' : l ≠ (s.heap.push (emptyS led)).objs.size := by rw [sz]; exact Nat.ne_of_lt (Nat.lt_succ_of_lt ll)
      have ns : s.heap.objs.size ∉ [(s.heap.push (emptyS led)).objs.size, l] := by
        rw [sz]; intro q
        rcases List.mem_cons.mp q with q | q
        · exact absurd q (Nat.ne_of_lt (Nat.lt_succ_self _))
        · rw [← List.mem_singleton.mp q] at ll; exact absurd ll (Nat.lt_irrefl _)
      have lz : zs.length = its.size := by rw [← StrsAre.len_eq hv, Array.length_toList]
      have val : ∀ (i : Nat) (v : Value), its[i]? = some v → ∃ t z, zs[i]? = some z ∧ v = .str z t := fun i v e => by
        have hi : i < zs.length := by rw [lz]; exact (Array.getElem?_eq_some_iff.mp e).1
        obtain ⟨t, q⟩ := SS.strs_at hv i v (by rw [Array.getElem?_toList]; exact e)
        refine ⟨t, zs[i], List.getElem?_eq_getElem hi, ?_⟩
        rw [q, List.getD_eq_getElem?_getD, List.getElem?_eq_getElem hi]; rfl
      refine fill ((Walks.list c3 _ l nl' its).toS) s.heap.objs.size ns zs lz (by unfold scanBound; omega) val (its.size - 0) 0 _ (by omega) (Nat.zero_le _) ⟨⟨_, Heap.get?_push_size _ rfl, rfl, rfl⟩, lst.push _⟩ ?start ?stop
      case start => exact SetOf_congr ((setObjOf_fresh (knd := PySem.strKind prog w) led).setOf (Heap.get?_push_of_some _ here) (by unfold scanBound; omega)) (fun _ => rfl) rfl
      case stop =>
        intro s' mv hS
        obtain ⟨h', g', d', tk', os'⟩ := s'
        obtain rfl : g' = s.gens := mv.gens
        obtain rfl : d' = s.drawn := mv.drawn
        obtain rfl : os' = s.os := mv.os
        show wpAny _ _ _ _ _ _
        refine wpAny_pure (wpAny_pure ⟨rfl, h', tk', rfl, hS, fun b o hb e => mv.heap b o ?_ (Heap.get?_push_of_some _ (up _ _ e))⟩)
        intro q
        rcases List.mem_cons.mp q with q | q
        · rw [q] at hb; exact absurd hb (Nat.lt_irrefl _)
        · rw [List.mem_singleton.mp q, sz] at hb; exact absurd hb (Nat.not_lt.mpr (Nat.le_succ _))
    · match r₂, hr₂ with
      | .error e, h2 => exact h2
      | .ok .next, h2 => exact h2.elim
      | .ok .brk, h2 => exact h2.elim
      | .ok .cont, h2 => exact h2.elim
      | .ok (.ret v), h2 =>
        obtain ⟨rfl, h', tk, rfl, hS, keep⟩ := h2
        repeat (any_goals (first | assumption | wp_step))
        exact fin _ _ hS keep
end
end LS
namespace DL
open PySem PySem.Spec PyProof.Rows L2
section
variable {G : Glb} {N : List Str} {sc : Scope} {ks : List (Option NameKind)} {gs : List Str} {fc : Bool} {lv : Nat} {X : Cx} {T : Tape} {ρ : List S} {Φ : PyData → Prop} {p q pos p2 : Pos} {e : Expr}
def tLenSetS (K : PySem.W.Frag) (ta : TE) : TE := fun σ H Q => ta σ H fun x H1 => ∃ l, ∃ zs : List Str, x = .ref l ∧ SqL K H1 l (zs.map V.str) ∧ zs.length ≤ 50 ∧ Q (.int (LS.unl zs zs.length).length) H1
theorem pe_lenSetS {ta : TE} (hg : Gl X "len") (hm : X.mg "len" = none) (hg2 : Gl X "set") (hm2 : X.mg "set" = none) (calm : X.calm = true) (ha : PE X e ta) (na : starEach [e] X.env = (false, eval e X.env) :: starEach [] X.env := by rfl) :
    PE X (.Call (.Name "len" p) [.Call (.Name "set" p2) [e] [] q] [] pos) (tLenSetS X.K ta) := by
  refine ⟨fun pins s σ H Q I h => Call_ (ld_blt I hg hm boot_len (PyProof.Rows.callWith_builtin1 (PyProof.Rows.args_cons (Call_ (ld_blt I hg2 hm2 boot_set (PyProof.Rows.callWith_type1 (PyProof.Rows.args_cons (thn (ha.run pins s σ H _ I h) fun v s1 hv => PyProof.Rows.args_nil ?_) na) na rfl))) rfl) rfl rfl))⟩
  obtain ⟨x, H1, I1, r1, l, zs, rfl, hq, few, k⟩ := hv
  cases r1
  obtain ⟨its, rv, pl, _⟩ := I1.list hq
  refine LS.made (I1.ok.hd calm) pl.isList (by simpa using strsAre_of rv) few fun h' tk hS keep => PyProof.Rows.args_nil ?_
  have hl : its.toArray.size = zs.length := by rw [List.size_toArray, ← rv.length, List.length_map]
  rw [hl] at hS
  obtain ⟨o, es, ep, t, ho, ex, hd, _, _, _, hf, hn⟩ := hS
  have I2 : Inv X pins σ H1 { s1 with heap := h', toks := tk } := I1.kept fun b o e => keep b o (Heap.lt_size e) e
  have := LS.unl_le zs zs.length
  refine call_len_set ho ex hd hf (by rw [hn]; omega) ⟨.int (LS.unl zs zs.length).length, H1, I2.tok _, ⟨_, by rw [hn]⟩, k⟩
theorem ev_lenSet (h : XOk G N sc ks gs fc lv X) (j i : Nat) (hm : G.mg "len" = none) (hm2 : G.mg "set" = none) (he : Ev X T ρ e fun d => ∃ zs : List Str, d = .list (zs.map .str) ∧ zs.length ≤ 50 ∧ Φ (.int (LS.unl zs zs.length).length)) (hg : gs[j]? = some ("len" : Str) := by rfl) (hg2 : gs[i]? = some ("set" : Str) := by rfl)
    (na : starEach [e] X.env = (false, eval e X.env) :: starEach [] X.env := by rfl) : Ev X T ρ (.Call (.Name "len" p) [.Call (.Name "set" p2) [e] [] q] [] pos) Φ := by
  intro A σ B H Q s kQ
  refine we_of (pe_lenSetS (h.gl hg) (by rw [h.eg]; exact hm) (h.gl hg2) (by rw [h.eg]; exact hm2) h.calm pe_we na) (he A σ B H _ s fun v d B1 H1 s1 r q => ?_)
  obtain ⟨zs, rfl, few, q⟩ := q
  cases r with
  | lst h1 r1 =>
    have e := strs_of r1
    subst e
    exact ⟨_, zs, rfl, SqL.of (s1.e _ _ h1), few, (kQ.step s1).now s1.e s1.t (.int _) q⟩
end
end DL
namespace RW
open PySem PySem.Spec PyProof.Rows L2 DL
section
variable {G : Glb}
def C_is_along : Con := fun ss Φ => ∃ (S : List L) (k : Nat) (ws : List (List L)) (x y : St2) (m : Nat), Sok S k ∧ Wok S ws ∧ x ∈ sds ws ∧ y ∈ sds ws ∧ 0 < m ∧ ss = [.val (dT S), .val (dWs ws), .val (dS x), .val (dS y), .val (.int m)] ∧ ∀ c : Bool, (c = true ↔ alT S ws x y m) → Φ (.bool c)
theorem cal_is_along (F : Facts G) : Cal G "is_along" 3 C_is_along := by
  obtain ⟨f, fd, FD, hg⟩ := F.a_is_along
  refine cal_of (lv := 2) FD hg S_is_along bd_is_along kg_is_along (fun ss Φ h => ?_) (fun X T ss Φ h hp hc => ?_)
  · obtain ⟨_, _, _, _, _, _, _, _, _, _, _, rfl, _⟩ := h; rfl
  · obtain ⟨S, kk, ws, x, y, m, hS, hw, hx, hy, hm, rfl, q⟩ := hc
    have lS : ∀ {z : St2} {j : Int}, z ∈ sds ws → lat ws z j ∈ S := fun hz => lat_S hw.w hz _
    have bS : ∀ {c : L}, c ∈ S → bk c ∈ S := fun hc => hw.w.bkS _ hc
    have hu := un_ok h
    have no : ¬ alT S ws x y m → Φ (.bool false) := fun z => q false (by simp [z])
    refine sx_cons ?_; refine s1_if ?_; refine et_w ?_; refine ew_or ?_; refine et_not ?_; refine et_cmp ?_; refine ev_name h 2 rfl ?_; refine ev_name h 3 rfl ?_; refine od_ltS hu ⟨_, rfl, ?_⟩
    by_cases h1 : slt x y
    case neg => rw [decide_eq_false h1]; refine ifT ?_; refine ifT ?_; refine sx_one ?_; refine s1_ret ?_; refine ev_bl ?_; exact no (fun z => h1 z.1)
    rw [decide_eq_true h1]; refine ifF ?_; refine ew_or1 ?_; refine et_cmp ?_; refine ev_name h 4 rfl ?_; refine ev_call h (cal_room_of F) 0 ?_; refine ea_val ?_; refine ev_name h 1 rfl ?_; refine ea_val ?_; refine ev_name h 2 rfl ?_; refine ea_val ?_; refine ev_name h 3 rfl ?_; refine ea_nil ?_; refine ⟨S, ws, x, y, hw, hx, hy, rfl, ?_⟩; refine od_gt ⟨_, rfl, ?_⟩
    by_cases h2 : m ≤ rmo ws x y
    case neg => rw [decide_eq_true (by omega)]; refine ifT ?_; refine sx_one ?_; refine s1_ret ?_; refine ev_bl ?_; exact no (fun z => h2 z.2.1)
    rw [decide_eq_false (by omega)]; refine ifF ?_; refine sx_nil ?_
    refine sx_cons ?_; refine s1_if ?_; refine et_not ?_; refine et_val ?_; refine ev_callB h 1 F.b_all bb_all ?_; refine ea_val ?_
    refine ev_lc h o_is_along0 [10] k_is_along0 g_is_along0 ?_; refine ei_range1 h 2 F.b_range ?_; refine ev_name h 4 rfl ?_
    have hr : rmo ws x y ≤ 128 := by have := wy_len hw hx; have := wy_len hw hy; unfold rmo; omega
    refine ⟨_, rfl, by omega, by omega, ?_⟩
    refine LcQ.on (fun k : Nat => PyData.int (0 + (k : Int))) (List.range (m : Int).toNat) (fun _ => true) (fun k => .bool (decide (lat ws x k = lat ws y k))) (by rw [List.length_range]; omega) (fun k hk => ?_) ?_
    · refine ⟨_, fun X' h' => tg_name h' 10 rfl, fun X' h' => ets_nil rfl, fun _ X' h' => ?_⟩
      refine ev_cmp ?_; refine ev_call h' (cal_letter_at F) 0 ?_; refine ea_val ?_; refine ev_name h' 1 rfl ?_; refine ea_val ?_; refine ev_name h' 2 rfl ?_; refine ea_val ?_; refine ev_name h' 10 rfl ?_; refine ea_nil ?_; refine ⟨S, ws, x, 0 + (k : Int), hw, hx, rfl, ?_⟩
      refine ev_call h' (cal_letter_at F) 0 ?_; refine ea_val ?_; refine ev_name h' 1 rfl ?_; refine ea_val ?_; refine ev_name h' 3 rfl ?_; refine ea_val ?_; refine ev_name h' 10 rfl ?_; refine ea_nil ?_; refine ⟨S, ws, y, 0 + (k : Int), hw, hy, rfl, ?_⟩
      rw [Int.zero_add]; exact od_eqL rfl
    refine ea_nil ?_; refine cd_allR h.calm ⟨_, rfl, ?_⟩
    rw [Int.toNat_natCast]
    by_cases h3 : ∀ k : Nat, k < m → lat ws x k = lat ws y k
    case neg =>
      have e3 : (List.range m).all (fun k => decide (lat ws x k = lat ws y k)) = false := by
        cases e : (List.range m).all (fun k => decide (lat ws x k = lat ws y k)) with
        | false => rfl
        | true => exact absurd (fun k hk => of_decide_eq_true (all_rng.mp e k hk)) h3
      rw [e3]; refine ifT ?_; refine sx_one ?_; refine s1_ret ?_; refine ev_bl ?_; exact no (fun z => h3 z.2.2.1)
    rw [all_rng.mpr (fun k hk => decide_eq_true (h3 k hk))]; refine ifF ?_; refine sx_nil ?_
    refine sx_cons ?_; refine s1_if ?_; refine et_cmp ?_; refine ev_call h (cal_letter_at F) 3 ?_; refine ea_val ?_; refine ev_name h 1 rfl ?_; refine ea_val ?_; refine ev_name h 2 rfl ?_; refine ea_val ?_; refine ev_un ?_; refine ev_int ?_; refine ud_neg ?_; refine ea_nil ?_; refine ⟨S, ws, x, -1, hw, hx, rfl, ?_⟩
    refine ev_call h (cal_letter_at F) 3 ?_; refine ea_val ?_; refine ev_name h 1 rfl ?_; refine ea_val ?_; refine ev_name h 3 rfl ?_; refine ea_val ?_; refine ev_un ?_; refine ev_int ?_; refine ud_neg ?_; refine ea_nil ?_; refine ⟨S, ws, y, -1, hw, hy, rfl, ?_⟩
    refine od_eqL ⟨_, rfl, ?_⟩
    by_cases h4 : lat ws x (-1) = lat ws y (-1)
    case pos => rw [decide_eq_true h4]; refine ifT ?_; refine sx_one ?_; refine s1_ret ?_; refine ev_bl ?_; exact no (fun z => z.2.2.2.1 h4)
    rw [decide_eq_false h4]; refine ifF ?_; refine sx_nil ?_
    refine sx_cons ?_; refine s1_par h 5 6 ?_; refine ea_val ?_; refine ev_call h (cal_letter_at F) 3 ?_; refine ea_val ?_; refine ev_name h 1 rfl ?_; refine ea_val ?_; refine ev_name h 2 rfl ?_; refine ea_val ?_; refine ev_name h 4 rfl ?_; refine ea_nil ?_; refine ⟨S, ws, x, (m : Int), hw, hx, rfl, ?_⟩; refine ea_val ?_
    refine ev_call h (cal_letter_at F) 3 ?_; refine ea_val ?_; refine ev_name h 1 rfl ?_; refine ea_val ?_; refine ev_name h 3 rfl ?_; refine ea_val ?_; refine ev_name h 4 rfl ?_; refine ea_nil ?_; refine ⟨S, ws, y, (m : Int), hw, hy, rfl, ?_⟩
    refine ea_nil ?_; refine ⟨_, _, rfl, ?_⟩
    refine sx_cons ?_; refine s1_if ?_; refine et_cmp ?_; refine ev_name h 5 rfl ?_; refine ev_name h 6 rfl ?_; refine od_eqL ⟨_, rfl, ?_⟩
    by_cases h5 : lat ws x m = lat ws y m
    case pos => rw [decide_eq_true h5]; refine ifT ?_; refine sx_one ?_; refine s1_ret ?_; refine ev_bl ?_; exact no (fun z => z.2.2.2.2.1 h5)
    rw [decide_eq_false h5]; refine ifF ?_; refine sx_nil ?_
    refine sx_cons ?_; refine s1_set h 7 ?_; refine ev_call h (cal_comes_first F) 4 ?_; refine ea_val ?_; refine ev_name h 0 rfl ?_; refine ea_val ?_; refine ev_call h (cal_back F) 5 ?_; refine ea_val ?_; refine ev_call h (cal_letter_at F) 3 ?_; refine ea_val ?_; refine ev_name h 1 rfl ?_; refine ea_val ?_; refine ev_name h 2 rfl ?_; refine ea_val ?_; refine ev_bin ?_; refine ev_name h 4 rfl ?_; refine ev_int ?_; refine od_sub ?_; refine ea_nil ?_; refine ⟨S, ws, x, (m : Int) - 1, hw, hx, rfl, ?_⟩; refine ea_nil ?_; refine ⟨_, rfl, ?_⟩; refine ea_val ?_; refine ev_name h 5 rfl ?_; refine ea_val ?_; refine ev_name h 6 rfl ?_; refine ea_nil ?_
    refine ⟨S, kk, _, _, _, hS, bS (lS hx), lS hx, lS hy, rfl, ?_⟩
    refine sx_cons ?_; refine s1_par h 8 9 ?_; refine ea_val ?_; refine ev_call h (cal_back F) 5 ?_; refine ea_val ?_; refine ev_call h (cal_letter_at F) 3 ?_; refine ea_val ?_; refine ev_name h 1 rfl ?_; refine ea_val ?_; refine ev_name h 2 rfl ?_; refine ea_val ?_; refine ev_un ?_; refine ev_int ?_; refine ud_neg ?_; refine ea_nil ?_; refine ⟨S, ws, x, -1, hw, hx, rfl, ?_⟩; refine ea_nil ?_; refine ⟨_, rfl, ?_⟩; refine ea_val ?_
    refine ev_call h (cal_back F) 5 ?_; refine ea_val ?_; refine ev_call h (cal_letter_at F) 3 ?_; refine ea_val ?_; refine ev_name h 1 rfl ?_; refine ea_val ?_; refine ev_name h 3 rfl ?_; refine ea_val ?_; refine ev_un ?_; refine ev_int ?_; refine ud_neg ?_; refine ea_nil ?_; refine ⟨S, ws, y, -1, hw, hy, rfl, ?_⟩; refine ea_nil ?_; refine ⟨_, rfl, ?_⟩
    refine ea_nil ?_; refine ⟨_, _, rfl, ?_⟩
    refine sx_one ?_; refine s1_ret ?_; refine ev_cmp ?_; refine ev_name h 7 rfl ?_; refine ev_call h (cal_comes_first F) 4 ?_; refine ea_val ?_; refine ev_name h 0 rfl ?_; refine ea_val ?_; refine ev_call h (cal_letter_at F) 3 ?_; refine ea_val ?_; refine ev_name h 1 rfl ?_; refine ea_val ?_; refine ev_name h 2 rfl ?_; refine ea_val ?_; refine ev_int ?_; refine ea_nil ?_; refine ⟨S, ws, x, 0, hw, hx, rfl, ?_⟩; refine ea_val ?_; refine ev_name h 8 rfl ?_; refine ea_val ?_; refine ev_name h 9 rfl ?_; refine ea_nil ?_
    refine ⟨S, kk, _, _, _, hS, lS hx, bS (lS hx), bS (lS hy), rfl, ?_⟩
    refine od_eqB (q _ ?_)
    rw [decide_eq_true_iff]
    unfold alT
    by_cases a : cf S (bk (lat ws x (m - 1))) (lat ws x m) (lat ws y m) <;> by_cases b : cf S (lat ws x 0) (bk (lat ws x (-1))) (bk (lat ws y (-1)))
    · simp only [a, b, decide_true, decide_false]; simp [h1, h2, h4, h5]; exact h3
    · simp only [a, b, decide_true, decide_false]; simp [h1, h2, h4, h5]; done
    · simp only [a, b, decide_true, decide_false]; simp [h1, h2, h4, h5]; done
    · simp only [a, b, decide_true, decide_false]; simp [h1, h2, h4, h5]; exact h3
def C_is_against : Con := fun ss Φ => ∃ (S : List L) (k : Nat) (ws : List (List L)) (x y : St2) (m : Nat), Sok S k ∧ Wok S ws ∧ x ∈ sds ws ∧ y ∈ sds ws ∧ 0 < m ∧ ss = [.val (dT S), .val (dWs ws), .val (dS x), .val (dS y), .val (.int m)] ∧ ∀ c : Bool, (c = true ↔ alF S ws x y m) → Φ (.bool c)
theorem cal_is_against (F : Facts G) : Cal G "is_against" 3 C_is_against := by
  obtain ⟨f, fd, FD, hg⟩ := F.a_is_against
  refine cal_of (lv := 2) FD hg S_is_against bd_is_against kg_is_against (fun ss Φ h => ?_) (fun X T ss Φ h hp hc => ?_)
  · obtain ⟨_, _, _, _, _, _, _, _, _, _, _, rfl, _⟩ := h; rfl
  · obtain ⟨S, kk, ws, x, y, m, hS, hw, hx, hy, hm, rfl, q⟩ := hc
    have lS : ∀ {z : St2} {j : Int}, z ∈ sds ws → lat ws z j ∈ S := fun hz => lat_S hw.w hz _
    have bS : ∀ {c : L}, c ∈ S → bk c ∈ S := fun hc => hw.w.bkS _ hc
    have hu := un_ok h
    have no : ¬ alF S ws x y m → Φ (.bool false) := fun z => q false (by simp [z])
    refine sx_cons ?_; refine s1_if ?_; refine et_w ?_; refine ew_or ?_; refine et_cmp ?_; refine ev_name h 4 rfl ?_; refine ev_call h (cal_room_of F) 0 ?_; refine ea_val ?_; refine ev_name h 1 rfl ?_; refine ea_val ?_; refine ev_name h 2 rfl ?_; refine ea_val ?_; refine ev_name h 3 rfl ?_; refine ea_nil ?_; refine ⟨S, ws, x, y, hw, hx, hy, rfl, ?_⟩; refine od_gt ⟨_, rfl, ?_⟩
    by_cases h2 : m ≤ rmo ws x y
    case neg => rw [decide_eq_true (by omega)]; refine ifT ?_; refine ifT ?_; refine sx_one ?_; refine s1_ret ?_; refine ev_bl ?_; exact no (fun z => h2 z.1)
    rw [decide_eq_false (by omega)]; refine ifF ?_; refine ew_or1 ?_; refine et_not ?_; refine et_cmp ?_; refine ev_name h 2 rfl ?_; refine ev_call h (cal_moved F) 1 ?_; refine ea_val ?_; refine ev_name h 1 rfl ?_; refine ea_val ?_; refine ev_name h 3 rfl ?_; refine ea_val ?_; refine ev_bin ?_; refine ev_int ?_; refine ev_name h 4 rfl ?_; refine od_sub ?_; refine ea_nil ?_; refine ⟨S, ws, y, 1 - (m : Int), hw, hy, rfl, ?_⟩; refine od_ltS hu ⟨_, rfl, ?_⟩
    by_cases h1 : slt x (mvs ws y (1 - m))
    case neg => rw [decide_eq_false h1]; refine ifT ?_; refine sx_one ?_; refine s1_ret ?_; refine ev_bl ?_; exact no (fun z => h1 z.2.1)
    rw [decide_eq_true h1]; refine ifF ?_; refine sx_nil ?_
    refine sx_cons ?_; refine s1_if ?_; refine et_not ?_; refine et_val ?_; refine ev_callB h 2 F.b_all bb_all ?_; refine ea_val ?_
    refine ev_lc h o_is_against0 [10] k_is_against0 g_is_against0 ?_; refine ei_range1 h 3 F.b_range ?_; refine ev_name h 4 rfl ?_
    have hr : rmo ws x y ≤ 128 := by have := wy_len hw hx; have := wy_len hw hy; unfold rmo; omega
    refine ⟨_, rfl, by omega, by omega, ?_⟩
    refine LcQ.on (fun k : Nat => PyData.int (0 + (k : Int))) (List.range (m : Int).toNat) (fun _ => true) (fun k => .bool (decide (lat ws x k = bk (lat ws y (-(k : Int)))))) (by rw [List.length_range]; omega) (fun k hk => ?_) ?_
    · refine ⟨_, fun X' h' => tg_name h' 10 rfl, fun X' h' => ets_nil rfl, fun _ X' h' => ?_⟩
      refine ev_cmp ?_; refine ev_call h' (cal_letter_at F) 0 ?_; refine ea_val ?_; refine ev_name h' 1 rfl ?_; refine ea_val ?_; refine ev_name h' 2 rfl ?_; refine ea_val ?_; refine ev_name h' 10 rfl ?_; refine ea_nil ?_; refine ⟨S, ws, x, 0 + (k : Int), hw, hx, rfl, ?_⟩
      refine ev_call h' (cal_back F) 1 ?_; refine ea_val ?_; refine ev_call h' (cal_letter_at F) 0 ?_; refine ea_val ?_; refine ev_name h' 1 rfl ?_; refine ea_val ?_; refine ev_name h' 3 rfl ?_; refine ea_val ?_; refine ev_un ?_; refine ev_name h' 10 rfl ?_; refine ud_neg ?_; refine ea_nil ?_; refine ⟨S, ws, y, -(0 + (k : Int)), hw, hy, rfl, ?_⟩; refine ea_nil ?_; refine ⟨_, rfl, ?_⟩
      rw [Int.zero_add]; exact od_eqL rfl
    refine ea_nil ?_; refine cd_allR h.calm ⟨_, rfl, ?_⟩
    rw [Int.toNat_natCast]
    by_cases h3 : ∀ k : Nat, k < m → lat ws x k = bk (lat ws y (-(k : Int)))
    case neg =>
      have e3 : (List.range m).all (fun k => decide (lat ws x k = bk (lat ws y (-(k : Int))))) = false := by
        cases e : (List.range m).all (fun k => decide (lat ws x k = bk (lat ws y (-(k : Int))))) with
        | false => rfl
        | true => exact absurd (fun k hk => of_decide_eq_true (all_rng.mp e k hk)) h3
      rw [e3]; refine ifT ?_; refine sx_one ?_; refine s1_ret ?_; refine ev_bl ?_; exact no (fun z => h3 z.2.2.1)
    rw [all_rng.mpr (fun k hk => decide_eq_true (h3 k hk))]; refine ifF ?_; refine sx_nil ?_
    refine sx_cons ?_; refine s1_if ?_; refine et_cmp ?_; refine ev_call h (cal_letter_at F) 4 ?_; refine ea_val ?_; refine ev_name h 1 rfl ?_; refine ea_val ?_; refine ev_name h 2 rfl ?_; refine ea_val ?_; refine ev_un ?_; refine ev_int ?_; refine ud_neg ?_; refine ea_nil ?_; refine ⟨S, ws, x, -1, hw, hx, rfl, ?_⟩
    refine ev_call h (cal_back F) 5 ?_; refine ea_val ?_; refine ev_call h (cal_letter_at F) 4 ?_; refine ea_val ?_; refine ev_name h 1 rfl ?_; refine ea_val ?_; refine ev_name h 3 rfl ?_; refine ea_val ?_; refine ev_int ?_; refine ea_nil ?_; refine ⟨S, ws, y, 1, hw, hy, rfl, ?_⟩; refine ea_nil ?_; refine ⟨_, rfl, ?_⟩
    refine od_eqL ⟨_, rfl, ?_⟩
    by_cases h4 : lat ws x (-1) = bk (lat ws y 1)
    case pos => rw [decide_eq_true h4]; refine ifT ?_; refine sx_one ?_; refine s1_ret ?_; refine ev_bl ?_; exact no (fun z => z.2.2.2.1 h4)
    rw [decide_eq_false h4]; refine ifF ?_; refine sx_nil ?_
    refine sx_cons ?_; refine s1_par h 5 6 ?_; refine ea_val ?_; refine ev_call h (cal_letter_at F) 4 ?_; refine ea_val ?_; refine ev_name h 1 rfl ?_; refine ea_val ?_; refine ev_name h 2 rfl ?_; refine ea_val ?_; refine ev_name h 4 rfl ?_; refine ea_nil ?_; refine ⟨S, ws, x, (m : Int), hw, hx, rfl, ?_⟩; refine ea_val ?_
    refine ev_call h (cal_back F) 5 ?_; refine ea_val ?_; refine ev_call h (cal_letter_at F) 4 ?_; refine ea_val ?_; refine ev_name h 1 rfl ?_; refine ea_val ?_; refine ev_name h 3 rfl ?_; refine ea_val ?_; refine ev_un ?_; refine ev_name h 4 rfl ?_; refine ud_neg ?_; refine ea_nil ?_; refine ⟨S, ws, y, -(m : Int), hw, hy, rfl, ?_⟩; refine ea_nil ?_; refine ⟨_, rfl, ?_⟩
    refine ea_nil ?_; refine ⟨_, _, rfl, ?_⟩
    refine sx_cons ?_; refine s1_if ?_; refine et_cmp ?_; refine ev_name h 5 rfl ?_; refine ev_name h 6 rfl ?_; refine od_eqL ⟨_, rfl, ?_⟩
    by_cases h5 : lat ws x m = bk (lat ws y (-(m : Int)))
    case pos => rw [decide_eq_true h5]; refine ifT ?_; refine sx_one ?_; refine s1_ret ?_; refine ev_bl ?_; exact no (fun z => z.2.2.2.2.1 h5)
    rw [decide_eq_false h5]; refine ifF ?_; refine sx_nil ?_
    refine sx_cons ?_; refine s1_set h 7 ?_; refine ev_call h (cal_comes_first F) 6 ?_; refine ea_val ?_; refine ev_name h 0 rfl ?_; refine ea_val ?_; refine ev_call h (cal_back F) 5 ?_; refine ea_val ?_; refine ev_call h (cal_letter_at F) 4 ?_; refine ea_val ?_; refine ev_name h 1 rfl ?_; refine ea_val ?_; refine ev_name h 2 rfl ?_; refine ea_val ?_; refine ev_bin ?_; refine ev_name h 4 rfl ?_; refine ev_int ?_; refine od_sub ?_; refine ea_nil ?_; refine ⟨S, ws, x, (m : Int) - 1, hw, hx, rfl, ?_⟩; refine ea_nil ?_; refine ⟨_, rfl, ?_⟩; refine ea_val ?_; refine ev_name h 5 rfl ?_; refine ea_val ?_; refine ev_name h 6 rfl ?_; refine ea_nil ?_
    refine ⟨S, kk, _, _, _, hS, bS (lS hx), lS hx, bS (lS hy), rfl, ?_⟩
    refine sx_cons ?_; refine s1_par h 8 9 ?_; refine ea_val ?_; refine ev_call h (cal_back F) 5 ?_; refine ea_val ?_; refine ev_call h (cal_letter_at F) 4 ?_; refine ea_val ?_; refine ev_name h 1 rfl ?_; refine ea_val ?_; refine ev_name h 2 rfl ?_; refine ea_val ?_; refine ev_un ?_; refine ev_int ?_; refine ud_neg ?_; refine ea_nil ?_; refine ⟨S, ws, x, -1, hw, hx, rfl, ?_⟩; refine ea_nil ?_; refine ⟨_, rfl, ?_⟩; refine ea_val ?_
    refine ev_call h (cal_letter_at F) 4 ?_; refine ea_val ?_; refine ev_name h 1 rfl ?_; refine ea_val ?_; refine ev_name h 3 rfl ?_; refine ea_val ?_; refine ev_int ?_; refine ea_nil ?_; refine ⟨S, ws, y, 1, hw, hy, rfl, ?_⟩
    refine ea_nil ?_; refine ⟨_, _, rfl, ?_⟩
    refine sx_one ?_; refine s1_ret ?_; refine ev_cmp ?_; refine ev_name h 7 rfl ?_; refine ev_call h (cal_comes_first F) 6 ?_; refine ea_val ?_; refine ev_name h 0 rfl ?_; refine ea_val ?_; refine ev_call h (cal_letter_at F) 4 ?_; refine ea_val ?_; refine ev_name h 1 rfl ?_; refine ea_val ?_; refine ev_name h 2 rfl ?_; refine ea_val ?_; refine ev_int ?_; refine ea_nil ?_; refine ⟨S, ws, x, 0, hw, hx, rfl, ?_⟩; refine ea_val ?_; refine ev_name h 8 rfl ?_; refine ea_val ?_; refine ev_name h 9 rfl ?_; refine ea_nil ?_
    refine ⟨S, kk, _, _, _, hS, lS hx, bS (lS hx), lS hy, rfl, ?_⟩
    refine od_eqB (q _ ?_)
    rw [decide_eq_true_iff]
    unfold alF
    by_cases a : cf S (bk (lat ws x (m - 1))) (lat ws x m) (bk (lat ws y (-(m : Int)))) <;> by_cases b : cf S (lat ws x 0) (bk (lat ws x (-1))) (lat ws y 1)
    · simp only [a, b, decide_true, decide_false]; simp [h1, h2, h4, h5]; exact h3
    · simp only [a, b, decide_true, decide_false]; simp [h1, h2, h4, h5]; done
    · simp only [a, b, decide_true, decide_false]; simp [h1, h2, h4, h5]; done
    · simp only [a, b, decide_true, decide_false]; simp [h1, h2, h4, h5]; exact h3
end
end RW
namespace RW
open PySem PySem.Spec PyProof.Rows L2 DL
/-! ### sorted by the data -/
section
variable {β : Type} {enc : β → PyData}
theorem le_eq {a b : β} : PySem.W.dataLe false enc a b = !PySem.W.dataLt (enc b) (enc a) := rfl
theorem dLt_irr (d : PyData) : PySem.W.dataLt d d = false := lex_irrefl _
theorem dLt_trans {a b c : PyData} (h : PySem.W.dataLt a b = true) (h' : PySem.W.dataLt b c = true) : PySem.W.dataLt a c = true := lex_trans _ _ _ h h'
theorem dLe_trans (a b c : β) (h : PySem.W.dataLe false enc a b = true) (h' : PySem.W.dataLe false enc b c = true) : PySem.W.dataLe false enc a c = true := by
  rw [le_eq, Bool.not_eq_true'] at h h' ⊢
  cases z : PySem.W.dataLt (enc c) (enc a) with
  | false => rfl
  | true =>
    cases y : PySem.W.dataLt (enc a) (enc b) with
    | true => rw [dLt_trans z y] at h'; cases h'
    | false =>
      have e : PySem.W.keyToks (enc a) = PySem.W.keyToks (enc b) := lex_total _ _ y h
      have : PySem.W.dataLt (enc c) (enc b) = PySem.W.dataLt (enc c) (enc a) := by unfold PySem.W.dataLt; rw [e]
      rw [this, z] at h'; cases h'
theorem dLe_total (a b : β) : (PySem.W.dataLe false enc a b || PySem.W.dataLe false enc b a) = true := by
  rw [le_eq, le_eq]
  cases z : PySem.W.dataLt (enc b) (enc a) with
  | false => rfl
  | true =>
    cases y : PySem.W.dataLt (enc a) (enc b) with
    | false => rfl
    | true =>
      have := dLt_trans z y
      rw [dLt_irr] at this; cases this
/-- told anew in order: each less than the next -/
theorem sort_lt (inj : ∀ a b, PySem.W.keyToks (enc a) = PySem.W.keyToks (enc b) → a = b) {l : List β} (hn : l.Nodup) : (l.mergeSort (PySem.W.dataLe false enc)).Pairwise fun a b => PySem.W.dataLt (enc a) (enc b) = true := by
  have h1 := List.pairwise_mergeSort (le := PySem.W.dataLe false enc) dLe_trans dLe_total l
  have h2 : (l.mergeSort (PySem.W.dataLe false enc)).Nodup := (List.mergeSort_perm l _).nodup_iff.mpr hn
  refine (h1.and h2).imp fun {a b} q => ?_
  obtain ⟨q1, q2⟩ := q
  rw [le_eq, Bool.not_eq_true'] at q1
  cases z : PySem.W.dataLt (enc a) (enc b) with
  | true => rfl
  | false => exact (q2 (inj a b (lex_total _ _ z q1))).elim
theorem sort_eq (inj : ∀ a b, PySem.W.keyToks (enc a) = PySem.W.keyToks (enc b) → a = b) {l r : List β} (hp : l.Perm r) (hr : r.Pairwise fun a b => PySem.W.dataLt (enc a) (enc b) = true) : l.mergeSort (PySem.W.dataLe false enc) = r := by
  have nd : r.Nodup := hr.imp fun {a b} q e => by
    subst e
    rw [dLt_irr] at q; cases q
  refine List.Perm.eq_of_pairwise (le := fun a b => PySem.W.dataLt (enc a) (enc b) = true) (fun a b _ _ p q => ?_) (sort_lt inj (hp.nodup_iff.mpr nd)) hr ((List.mergeSort_perm l _).trans hp)
  have := dLt_trans p q
  rw [dLt_irr] at this; cases this
end
theorem st_ext {a b : St2} (h1 : (a.1 : Int) = b.1) (h2 : (a.2 : Int) = b.2) : a = b := Prod.ext (by omega) (by omega)
theorem dS_toks (a b : St2) (h : PySem.W.keyToks (dS a) = PySem.W.keyToks (dS b)) : a = b := by
  simp [PySem.W.keyToks, PySem.W.keyToksAll, dS] at h
  exact st_ext h.1 h.2
theorem dS_alike (a b : St2) : PySem.W.alike (dS a) (dS b) = true := rfl
/-- strands put in order -/
theorem sort_dS {l r : List St2} (hp : l.Perm r) (hr : r.Pairwise slt) : l.mergeSort (PySem.W.dataLe false dS) = r := sort_eq dS_toks hp (hr.imp fun {a b} q => by rw [dataLt_dS]; exact decide_eq_true q)
/-! ### links as data -/
def encLk : Lk St2 → PyData
  | .bes x y => .tuple [.str "beside", dS x, dS y]
  | .al d x y m => .tuple [.str (if d then "along" else "against"), dS x, dS y, .int (m : Nat)]
theorem s_ne1 : ("beside" : Str) ≠ "along" := by decide +kernel
theorem s_ne2 : ("beside" : Str) ≠ "against" := by decide +kernel
theorem s_ne3 : ("against" : Str) ≠ "along" := by decide +kernel
theorem cps_ne {a b : Str} (h : a ≠ b) : a.cps.toList ≠ b.cps.toList := fun e => h (PySem.W.str_of_cps e)
theorem encLk_alike (a b : Lk St2) : PySem.W.alike (encLk a) (encLk b) = true := by
  cases a <;> cases b <;> rfl
theorem encLk_toks (a b : Lk St2) (h : PySem.W.keyToks (encLk a) = PySem.W.keyToks (encLk b)) : a = b := by
  have n1 := cps_ne s_ne1
  have n2 := cps_ne s_ne2
  have n3 := cps_ne s_ne3
  cases a with
  | bes x y =>
    cases b with
    | bes x' y' =>
      simp [PySem.W.keyToks, PySem.W.keyToksAll, dS, encLk] at h
      obtain ⟨a1, a2, a3, a4⟩ := h
      rw [show x = x' from st_ext a1 a2, show y = y' from st_ext a3 a4]
    | al d x' y' m =>
      cases d <;> simp [PySem.W.keyToks, PySem.W.keyToksAll, dS, encLk] at h
  | al d x y m =>
    cases b with
    | bes x' y' => cases d <;> simp [PySem.W.keyToks, PySem.W.keyToksAll, dS, encLk] at h
    | al d' x' y' m' =>
      have hd : d = d' := by
        cases d <;> cases d' <;> simp only [PySem.W.keyToks, PySem.W.keyToksAll, encLk, if_true, if_false, Bool.false_eq_true, List.cons.injEq, List.cons_append, List.nil_append, Sum.inr.injEq] at h
        · rfl
        · exact (n3 h.2.1).elim
        · exact (n3 h.2.1.symm).elim
        · rfl
      subst hd
      simp [PySem.W.keyToks, PySem.W.keyToksAll, dS, encLk] at h
      obtain ⟨a1, a2, a3, a4, a5⟩ := h
      rw [show x = x' from st_ext a1 a2, show y = y' from st_ext a3 a4, show m = m' by omega]
theorem encLk_depth (a : Lk St2) : (encLk a).depth ≤ 8 := by cases a <;> exact Nat.le_of_ble_eq_true rfl
theorem encLk_tup (a : Lk St2) : ∃ x r, encLk a = .tuple (x :: r) := by cases a <;> exact ⟨_, _, rfl⟩
/-! ### all links -/
section
variable {S : List L} {ws : List (List L)}
noncomputable def lkB (h : Ways S ws) (a : Lk St2) : Bool := @decide (isLk (sysOf h) a) (Classical.propDecidable _)
theorem lkB_iff {h : Ways S ws} {a : Lk St2} : lkB h a = true ↔ isLk (sysOf h) a := ⟨fun q => @of_decide_eq_true _ (Classical.propDecidable _) q, fun q => @decide_eq_true _ (Classical.propDecidable _) q⟩
def r1 (ws : List (List L)) (x y : St2) : Nat := rn (fun k => decide (lat ws x k = lat ws y k)) (rmo ws x y)
def r2 (ws : List (List L)) (x y : St2) : Nat := rn (fun k => decide (lat ws x k = bk (lat ws y (-(k : Int))))) (rmo ws x y)
def cand (ws : List (List L)) (x y : St2) : List (Lk St2) := [.bes x y, .al true x y (r1 ws x y), .al false x y (r2 ws x y)]
noncomputable def lkAt (h : Ways S ws) (x y : St2) : List (Lk St2) := (cand ws x y).filter (lkB h)
noncomputable def lkIJ0 (h : Ways S ws) (i j : Nat) : List (Lk St2) := (List.range (wy ws i).length).flatMap fun p => (List.range (wy ws j).length).flatMap fun q => lkAt h (i, p) (j, q)
noncomputable def lkIJ (h : Ways S ws) (i j : Nat) : List (Lk St2) := (lkIJ0 h i j).mergeSort (PySem.W.dataLe false encLk)
noncomputable def allLk0 (h : Ways S ws) : List (Lk St2) := (List.range ws.length).flatMap fun i => (List.range (ws.length - i)).flatMap fun t => lkIJ h i (i + t)
noncomputable def allLk (h : Ways S ws) : List (Lk St2) := (allLk0 h).mergeSort (PySem.W.dataLe false encLk)
def fst' : Lk St2 → St2
  | .bes x _ => x
  | .al _ x _ _ => x
def snd' : Lk St2 → St2
  | .bes _ y => y
  | .al _ _ y _ => y
theorem lkAt_mem (h : Ways S ws) {x y : St2} {a : Lk St2} (hx : x ∈ sds ws) (hy : y ∈ sds ws) : a ∈ lkAt h x y ↔ isLk (sysOf h) a ∧ fst' a = x ∧ snd' a = y := by
  unfold lkAt
  rw [List.mem_filter, lkB_iff]
  constructor
  · rintro ⟨m, q⟩
    refine ⟨q, ?_⟩
    unfold cand at m
    simp only [List.mem_cons, List.not_mem_nil, or_false] at m
    rcases m with rfl | rfl | rfl <;> exact ⟨rfl, rfl⟩
  · rintro ⟨q, e1, e2⟩
    refine ⟨?_, q⟩
    unfold cand
    cases a with
    | bes x' y' =>
      have e1 : x' = x := e1
      have e2 : y' = y := e2
      subst e1; subst e2
      exact List.mem_cons_self
    | al d x' y' m =>
      have e1 : x' = x := e1
      have e2 : y' = y := e2
      subst e1; subst e2
      have er := al_run h hx hy q
      cases d with
      | true => rw [er]; exact List.mem_cons_of_mem _ List.mem_cons_self
      | false => rw [er]; exact List.mem_cons_of_mem _ (List.mem_cons_of_mem _ List.mem_cons_self)
theorem lkAt_nodup (h : Ways S ws) (x y : St2) : (lkAt h x y).Nodup := by
  unfold lkAt cand
  exact List.Pairwise.filter _ (by simp : ([Lk.bes x y, .al true x y (r1 ws x y), .al false x y (r2 ws x y)]).Nodup)
theorem isLk_ss {h : Ways S ws} {a : Lk St2} (q : isLk (sysOf h) a) : fst' a ∈ sds ws ∧ snd' a ∈ sds ws ∧ (fst' a).1 ≤ (snd' a).1 := by
  cases a with
  | bes x y =>
    refine ⟨q.1, q.2.1, ?_⟩
    have : slt x y := q.2.2.1
    show x.1 ≤ y.1
    unfold slt at this
    omega
  | al d x y m =>
    refine ⟨q.1.hx, q.1.hy, ?_⟩
    have t : slt x (du1 (sysOf h) d y m) := q.2.2.1
    have e : (du1 (sysOf h) d y m).1 = y.1 := by cases d <;> rfl
    unfold slt at t
    rw [e] at t
    show x.1 ≤ y.1
    omega
theorem mem_lkIJ (h : Ways S ws) {i j : Nat} (hi : i < ws.length) (hj : j < ws.length) {a : Lk St2} : a ∈ lkIJ0 h i j ↔ isLk (sysOf h) a ∧ (fst' a).1 = i ∧ (snd' a).1 = j := by
  unfold lkIJ0
  simp only [List.mem_flatMap, List.mem_range]
  constructor
  · rintro ⟨p, hp, q, hq, m⟩
    obtain ⟨l, e1, e2⟩ := (lkAt_mem h (mem_sds.mpr ⟨hi, hp⟩) (mem_sds.mpr ⟨hj, hq⟩)).mp m
    exact ⟨l, by rw [e1], by rw [e2]⟩
  · rintro ⟨l, rfl, rfl⟩
    obtain ⟨s1, s2, _⟩ := isLk_ss l
    exact ⟨_, (mem_sds.mp s1).2, _, (mem_sds.mp s2).2, (lkAt_mem h s1 s2).mpr ⟨l, rfl, rfl⟩⟩
theorem fm_nodup {α β : Type} {f : α → List β} {l : List α} (hl : l.Nodup) (h1 : ∀ a ∈ l, (f a).Nodup) (h2 : ∀ a ∈ l, ∀ b ∈ l, ∀ z, z ∈ f a → z ∈ f b → a = b) : (l.flatMap f).Nodup := by
  induction l with
  | nil => exact List.nodup_nil
  | cons a l ih =>
    have hl' := List.nodup_cons.mp hl
    rw [List.flatMap_cons, List.nodup_append]
    refine ⟨h1 a List.mem_cons_self, ih hl'.2 (fun b hb => h1 b (List.mem_cons_of_mem _ hb)) (fun b hb c hc => h2 b (List.mem_cons_of_mem _ hb) c (List.mem_cons_of_mem _ hc)), fun z hz y hy e => ?_⟩
    subst e
    obtain ⟨b, hb, hz'⟩ := List.mem_flatMap.mp hy
    have := h2 a List.mem_cons_self b (List.mem_cons_of_mem _ hb) z hz hz'
    subst this
    exact hl'.1 hb
theorem lkIJ_nodup (h : Ways S ws) {i j : Nat} (hi : i < ws.length) (hj : j < ws.length) : (lkIJ h i j).Nodup := by
  refine (List.mergeSort_perm _ _).nodup_iff.mpr ?_
  unfold lkIJ0
  refine fm_nodup List.nodup_range (fun p hp => fm_nodup List.nodup_range (fun q _ => lkAt_nodup _ _ _) fun q hq q' hq' z m m' => ?_) fun p hp p' hp' z m m' => ?_
  · have a := (lkAt_mem h (mem_sds.mpr ⟨hi, List.mem_range.mp hp⟩) (mem_sds.mpr ⟨hj, List.mem_range.mp hq⟩)).mp m
    have b := (lkAt_mem h (mem_sds.mpr ⟨hi, List.mem_range.mp hp⟩) (mem_sds.mpr ⟨hj, List.mem_range.mp hq'⟩)).mp m'
    exact (Prod.mk.inj (a.2.2.symm.trans b.2.2)).2
  · obtain ⟨q, hq, m⟩ := List.mem_flatMap.mp m
    obtain ⟨q', hq', m'⟩ := List.mem_flatMap.mp m'
    have a := (lkAt_mem h (mem_sds.mpr ⟨hi, List.mem_range.mp hp⟩) (mem_sds.mpr ⟨hj, List.mem_range.mp hq⟩)).mp m
    have b := (lkAt_mem h (mem_sds.mpr ⟨hi, List.mem_range.mp hp'⟩) (mem_sds.mpr ⟨hj, List.mem_range.mp hq'⟩)).mp m'
    exact (Prod.mk.inj (a.2.1.symm.trans b.2.1)).2
theorem mem_lkIJs (h : Ways S ws) {i j : Nat} (hi : i < ws.length) (hj : j < ws.length) {a : Lk St2} : a ∈ lkIJ h i j ↔ isLk (sysOf h) a ∧ (fst' a).1 = i ∧ (snd' a).1 = j := by
  unfold lkIJ
  rw [(List.mergeSort_perm _ _).mem_iff, mem_lkIJ h hi hj]
theorem mem_allLk (h : Ways S ws) {a : Lk St2} : a ∈ allLk h ↔ isLk (sysOf h) a := by
  unfold allLk allLk0
  rw [(List.mergeSort_perm _ _).mem_iff]
  simp only [List.mem_flatMap, List.mem_range]
  constructor
  · rintro ⟨i, hi, t, ht, m⟩
    exact ((mem_lkIJs h hi (by omega)).mp m).1
  · intro l
    obtain ⟨s1, s2, le⟩ := isLk_ss l
    have b1 := (mem_sds.mp s1).1
    have b2 := (mem_sds.mp s2).1
    exact ⟨_, b1, (snd' a).1 - (fst' a).1, by omega, (mem_lkIJs h b1 (by omega)).mpr ⟨l, rfl, by omega⟩⟩
theorem allLk0_nodup (h : Ways S ws) : (allLk0 h).Nodup := by
  unfold allLk0
  refine fm_nodup List.nodup_range (fun i hi => fm_nodup List.nodup_range (fun t ht => ?_) fun t ht t' ht' z m m' => ?_) fun i hi i' hi' z m m' => ?_
  · have := List.mem_range.mp hi
    have := List.mem_range.mp ht
    exact lkIJ_nodup h (by omega) (by omega)
  · have := List.mem_range.mp hi
    have := List.mem_range.mp ht
    have := List.mem_range.mp ht'
    have a := ((mem_lkIJs h (by omega) (by omega)).mp m).2.2
    have b := ((mem_lkIJs h (by omega) (by omega)).mp m').2.2
    omega
  · obtain ⟨t, ht, m⟩ := List.mem_flatMap.mp m
    obtain ⟨t', ht', m'⟩ := List.mem_flatMap.mp m'
    have := List.mem_range.mp hi
    have := List.mem_range.mp hi'
    have := List.mem_range.mp ht
    have := List.mem_range.mp ht'
    have a := ((mem_lkIJs h (by omega) (by omega)).mp m).2.1
    have b := ((mem_lkIJs h (by omega) (by omega)).mp m').2.1
    omega
theorem allLk_nodup (h : Ways S ws) : (allLk h).Nodup := (List.mergeSort_perm _ _).nodup_iff.mpr (allLk0_nodup h)
theorem allLk_lt (h : Ways S ws) : (allLk h).Pairwise fun a b => PySem.W.dataLt (encLk a) (encLk b) = true := sort_lt encLk_toks (allLk0_nodup h)
end
end RW
namespace LS
open PyProof.Rows
theorem unl_mem {zs : List PySem.Str} {k : PySem.Str} : ∀ i, i ≤ zs.length → ((unl zs i).any (· == k) = true ↔ k ∈ zs.take i)
  | 0, _ => by simp [unl]
  | i + 1, h => by
    have e : zs[i]? = some zs[i] := List.getElem?_eq_getElem (by omega)
    have tk : zs.take (i + 1) = zs.take i ++ [zs[i]] := by rw [List.take_add_one, e]; rfl
    rw [unl_succ e, sd_any, Bool.or_eq_true, unl_mem i (by omega), tk, List.mem_append, List.mem_singleton, decide_eq_true_iff]
theorem unl_full {zs : List PySem.Str} : ∀ i, i ≤ zs.length → ((unl zs i).length = i ↔ (zs.take i).Nodup)
  | 0, _ => by simp [unl]
  | i + 1, h => by
    have e : zs[i]? = some zs[i] := List.getElem?_eq_getElem (by omega)
    have ih := unl_full (zs := zs) i (by omega)
    have hm := unl_mem (zs := zs) (k := zs[i]) i (by omega)
    have hl := unl_le zs i
    have tk : zs.take (i + 1) = zs.take i ++ [zs[i]] := by rw [List.take_add_one, e]; rfl
    rw [tk, List.nodup_append, unl_succ e]
    unfold step_dedup
    by_cases q : (unl zs i).any (· == zs[i]) = true
    · rw [if_pos q]
      constructor
      · intro z; omega
      · rintro ⟨_, _, z⟩
        exact (z _ (hm.mp q) _ (by simp) rfl).elim
    · rw [if_neg q, List.length_append, List.length_singleton]
      constructor
      · intro z
        refine ⟨ih.mp (by omega), by simp, fun a ha b hb e => ?_⟩
        rw [List.mem_singleton] at hb
        subst hb
        subst e
        exact q (hm.mpr ha)
      · intro z
        have := ih.mpr z.1
        omega
end LS
namespace RW
open PySem PySem.Spec PyProof.Rows L2 DL
theorem four_unl {a b c d : L} : (LS.unl [tx [a], tx [b], tx [c], tx [d]] 4).length < 4 ↔ ¬ (a ≠ b ∧ a ≠ c ∧ a ≠ d ∧ b ≠ c ∧ b ≠ d ∧ c ≠ d) := by
  have h := LS.unl_full (zs := [tx [a], tx [b], tx [c], tx [d]]) 4 (Nat.le_refl _)
  have hl := LS.unl_le [tx [a], tx [b], tx [c], tx [d]] 4
  have e : (LS.unl [tx [a], tx [b], tx [c], tx [d]] 4).length < 4 ↔ ¬ (LS.unl [tx [a], tx [b], tx [c], tx [d]] 4).length = 4 := by omega
  rw [e, h]
  simp [tx_inj, not_or, and_assoc]
section
variable {G : Glb}
def C_is_beside : Con := fun ss Φ => ∃ (S : List L) (k : Nat) (ws : List (List L)) (x y : St2), Sok S k ∧ Wok S ws ∧ x ∈ sds ws ∧ y ∈ sds ws ∧ ss = [.val (dT S), .val (dWs ws), .val (dS x), .val (dS y)] ∧ ∀ c : Bool, (c = true ↔ beS S ws x y) → Φ (.bool c)
theorem cal_is_beside (F : Facts G) : Cal G "is_beside" 3 C_is_beside := by
  obtain ⟨f, fd, FD, hg⟩ := F.a_is_beside
  refine cal_of (lv := 2) FD hg S_is_beside bd_is_beside kg_is_beside (fun ss Φ h => ?_) (fun X T ss Φ h hp hc => ?_)
  · obtain ⟨_, _, _, _, _, _, _, _, _, rfl, _⟩ := h; rfl
  · obtain ⟨S, kk, ws, x, y, hS, hw, hx, hy, rfl, q⟩ := hc
    have lS : ∀ {z : St2} {j : Int}, z ∈ sds ws → lat ws z j ∈ S := fun hz => lat_S hw.w hz _
    have bS : ∀ {c : L}, c ∈ S → bk c ∈ S := fun hc => hw.w.bkS _ hc
    have rx : lat ws x 1 ≠ bk (lat ws x 0) := lat_red hw.w hx 0
    have ry : lat ws y 1 ≠ bk (lat ws y 0) := lat_red hw.w hy 0
    have hu := un_ok h
    have no : ¬ beS S ws x y → Φ (.bool false) := fun z => q false (by simp [z])
    refine sx_cons ?_; refine s1_par h 4 5 ?_; refine ea_val ?_
    refine ev_call h (cal_back F) 0 ?_; refine ea_val ?_; refine ev_call h (cal_letter_at F) 1 ?_; refine ea_val ?_; refine ev_name h 1 rfl ?_; refine ea_val ?_; refine ev_name h 2 rfl ?_; refine ea_val ?_; refine ev_int ?_; refine ea_nil ?_; refine ⟨S, ws, x, 0, hw, hx, rfl, ?_⟩; refine ea_nil ?_; refine ⟨_, rfl, ?_⟩
    refine ea_val ?_; refine ev_call h (cal_letter_at F) 1 ?_; refine ea_val ?_; refine ev_name h 1 rfl ?_; refine ea_val ?_; refine ev_name h 2 rfl ?_; refine ea_val ?_; refine ev_int ?_; refine ea_nil ?_; refine ⟨S, ws, x, 1, hw, hx, rfl, ?_⟩; refine ea_nil ?_; refine ⟨_, _, rfl, ?_⟩
    refine sx_cons ?_; refine s1_par h 6 7 ?_; refine ea_val ?_
    refine ev_call h (cal_back F) 0 ?_; refine ea_val ?_; refine ev_call h (cal_letter_at F) 1 ?_; refine ea_val ?_; refine ev_name h 1 rfl ?_; refine ea_val ?_; refine ev_name h 3 rfl ?_; refine ea_val ?_; refine ev_int ?_; refine ea_nil ?_; refine ⟨S, ws, y, 0, hw, hy, rfl, ?_⟩; refine ea_nil ?_; refine ⟨_, rfl, ?_⟩
    refine ea_val ?_; refine ev_call h (cal_letter_at F) 1 ?_; refine ea_val ?_; refine ev_name h 1 rfl ?_; refine ea_val ?_; refine ev_name h 3 rfl ?_; refine ea_val ?_; refine ev_int ?_; refine ea_nil ?_; refine ⟨S, ws, y, 1, hw, hy, rfl, ?_⟩; refine ea_nil ?_; refine ⟨_, _, rfl, ?_⟩
    refine sx_cons ?_; refine s1_if ?_; refine et_w ?_; refine ew_or ?_; refine et_not ?_; refine et_cmp ?_; refine ev_name h 2 rfl ?_; refine ev_name h 3 rfl ?_; refine od_ltS hu ⟨_, rfl, ?_⟩
    by_cases h1 : slt x y
    case neg => rw [decide_eq_false h1]; refine ifT ?_; refine ifT ?_; refine sx_one ?_; refine s1_ret ?_; refine ev_bl ?_; exact no (fun z => h1 z.1)
    rw [decide_eq_true h1]; refine ifF ?_; refine ew_or1 ?_; refine et_cmp ?_; refine ev_lenSet h 2 3 F.b_len F.b_set ?_; refine ev_lst ?_
    refine ea_val ?_; refine ev_name h 4 rfl ?_; refine ea_val ?_; refine ev_name h 5 rfl ?_; refine ea_val ?_; refine ev_name h 6 rfl ?_; refine ea_val ?_; refine ev_name h 7 rfl ?_; refine ea_nil ?_
    refine ⟨_, rfl, Nat.le_of_ble_eq_true rfl, [tx [bk (lat ws x 0)], tx [lat ws x 1], tx [bk (lat ws y 0)], tx [lat ws y 1]], rfl, Nat.le_of_ble_eq_true rfl, ?_⟩
    refine ev_int ?_; refine od_lt ⟨_, rfl, ?_⟩
    have e4 : ((((LS.unl [tx [bk (lat ws x 0)], tx [lat ws x 1], tx [bk (lat ws y 0)], tx [lat ws y 1]] [tx [bk (lat ws x 0)], tx [lat ws x 1], tx [bk (lat ws y 0)], tx [lat ws y 1]].length).length : Nat) : Int) < 4) ↔ ¬ (bk (lat ws x 0) ≠ bk (lat ws y 0) ∧ bk (lat ws x 0) ≠ lat ws y 1 ∧ lat ws x 1 ≠ bk (lat ws y 0) ∧ lat ws x 1 ≠ lat ws y 1) := by
      have := four_unl (a := bk (lat ws x 0)) (b := lat ws x 1) (c := bk (lat ws y 0)) (d := lat ws y 1)
      rw [show ∀ n : Nat, ((n : Int) < 4) ↔ n < 4 from fun n => by omega]
      refine Iff.trans this ?_
      have n1 := Ne.symm rx
      have n2 := Ne.symm ry
      constructor
      · exact fun z w => z ⟨n1, w.1, w.2.1, w.2.2.1, w.2.2.2, n2⟩
      · exact fun z w => z ⟨w.2.1, w.2.2.1, w.2.2.2.1, w.2.2.2.2.1⟩
    by_cases h2 : bk (lat ws x 0) ≠ bk (lat ws y 0) ∧ bk (lat ws x 0) ≠ lat ws y 1 ∧ lat ws x 1 ≠ bk (lat ws y 0) ∧ lat ws x 1 ≠ lat ws y 1
    case neg => rw [decide_eq_true (e4.mpr h2)]; refine ifT ?_; refine sx_one ?_; refine s1_ret ?_; refine ev_bl ?_; exact no (fun z => h2 z.2.1)
    rw [decide_eq_false (fun z => e4.mp z h2)]; refine ifF ?_; refine sx_nil ?_
    refine sx_one ?_; refine s1_ret ?_; refine ev_cmp ?_
    refine ev_call h (cal_comes_first F) 4 ?_; refine ea_val ?_; refine ev_name h 0 rfl ?_; refine ea_val ?_; refine ev_name h 4 rfl ?_; refine ea_val ?_; refine ev_name h 6 rfl ?_; refine ea_val ?_; refine ev_name h 5 rfl ?_; refine ea_nil ?_
    refine ⟨S, kk, _, _, _, hS, bS (lS hx), bS (lS hy), lS hx, rfl, ?_⟩
    refine ev_call h (cal_comes_first F) 4 ?_; refine ea_val ?_; refine ev_name h 0 rfl ?_; refine ea_val ?_; refine ev_name h 4 rfl ?_; refine ea_val ?_; refine ev_name h 7 rfl ?_; refine ea_val ?_; refine ev_name h 5 rfl ?_; refine ea_nil ?_
    refine ⟨S, kk, _, _, _, hS, bS (lS hx), lS hy, lS hx, rfl, ?_⟩
    refine od_neB (q _ ?_)
    unfold beS
    by_cases a : cf S (bk (lat ws x 0)) (bk (lat ws y 0)) (lat ws x 1) <;> by_cases b : cf S (bk (lat ws x 0)) (lat ws y 1) (lat ws x 1)
    · simp [a, b]
    · simp only [a, b, decide_true, decide_false]; simp [h1]; exact h2
    · simp only [a, b, decide_true, decide_false]; simp [h1]; exact h2
    · simp [a, b]
def C_is_link : Con := fun ss Φ => ∃ (S : List L) (k : Nat) (ws : List (List L)) (a : Lk St2) (hw : Wok S ws), Sok S k ∧ fst' a ∈ sds ws ∧ snd' a ∈ sds ws ∧ ss = [.val (dT S), .val (dWs ws), .val (encLk a)] ∧ ∀ c : Bool, (c = true ↔ isLk (sysOf hw.w) a) → Φ (.bool c)
theorem cal_is_link (F : Facts G) : Cal G "is_link" 4 C_is_link := by
  obtain ⟨f, fd, FD, hg⟩ := F.a_is_link
  refine cal_of (lv := 3) FD hg S_is_link bd_is_link kg_is_link (fun ss Φ h => ?_) (fun X T ss Φ h hp hc => ?_)
  · obtain ⟨_, _, _, _, _, _, _, _, rfl, _⟩ := h; rfl
  · obtain ⟨S, kk, ws, a, hw, hS, hx, hy, rfl, q⟩ := hc
    cases a with
    | bes x y =>
      have hx : x ∈ sds ws := hx
      have hy : y ∈ sds ws := hy
      refine sx_cons ?_; refine s1_if ?_; refine et_w ?_; refine ew_or ?_; refine et_not ?_; refine et_val ?_; refine ev_isi h 0 1 F.b_isinstance F.b_tuple bb_tuple ?_; refine ev_name h 2 rfl ?_; refine ⟨_, kb_tt, _, rfl, ?_⟩; refine ifF ?_
      refine ew_or ?_; refine et_cmp ?_; refine ev_len h 2 F.b_len ?_; refine ev_name h 2 rfl ?_; refine ⟨3, rfl, ?_⟩; refine ev_int ?_; refine od_lt ⟨false, rfl, ?_⟩; refine ifF ?_
      refine ew_or1 ?_; refine et_not ?_; refine et_val ?_; refine ev_isi h 0 3 F.b_isinstance F.b_str bb_str ?_; refine ev_ix ?_; refine ev_name h 2 rfl ?_; refine ev_int ?_; refine ix_T (d := .str "beside") rfl ?_; refine ⟨_, kb_ss, _, rfl, ?_⟩; refine ifF ?_; refine sx_nil ?_
      refine sx_cons ?_; refine s1_if ?_; refine et_w ?_; refine ew_or ?_; refine et_not ?_; refine et_val ?_; refine ev_call h (cal_is_strand F) 4 ?_; refine ea_val ?_; refine ev_name h 1 rfl ?_; refine ea_val ?_; refine ev_ix ?_; refine ev_name h 2 rfl ?_; refine ev_int ?_; refine ix_T (d := dS x) rfl ?_; refine ea_nil ?_; refine ⟨S, ws, x, hw, hx, rfl, _, rfl, ?_⟩; refine ifF ?_
      refine ew_or1 ?_; refine et_not ?_; refine et_val ?_; refine ev_call h (cal_is_strand F) 4 ?_; refine ea_val ?_; refine ev_name h 1 rfl ?_; refine ea_val ?_; refine ev_ix ?_; refine ev_name h 2 rfl ?_; refine ev_int ?_; refine ix_T (d := dS y) rfl ?_; refine ea_nil ?_; refine ⟨S, ws, y, hw, hy, rfl, _, rfl, ?_⟩; refine ifF ?_; refine sx_nil ?_
      refine sx_cons ?_; refine s1_if ?_; refine et_cmp ?_; refine ev_ix ?_; refine ev_name h 2 rfl ?_; refine ev_int ?_; refine ix_T (d := .str "beside") rfl ?_; refine ev_str ?_; refine od_eqS ⟨_, rfl, ?_⟩; rw [decide_eq_true rfl]; refine ifT ?_
      refine sx_one ?_; refine s1_ret ?_; refine ev_and ?_; refine ev_cmp ?_; refine ev_len h 2 F.b_len ?_; refine ev_name h 2 rfl ?_; refine ⟨3, rfl, ?_⟩; refine ev_int ?_; refine od_eqI ⟨true, rfl, ?_⟩; refine ifT ?_
      refine ev_one ?_; refine ev_call h (cal_is_beside F) 5 ?_; refine ea_val ?_; refine ev_name h 0 rfl ?_; refine ea_val ?_; refine ev_name h 1 rfl ?_; refine ea_val ?_; refine ev_ix ?_; refine ev_name h 2 rfl ?_; refine ev_int ?_; refine ix_T (d := dS x) rfl ?_; refine ea_val ?_; refine ev_ix ?_; refine ev_name h 2 rfl ?_; refine ev_int ?_; refine ix_T (d := dS y) rfl ?_; refine ea_nil ?_
      exact ⟨S, kk, ws, x, y, hS, hw, hx, hy, rfl, fun c hc => q c (hc.trans (beS_iff hw.w hx hy).symm)⟩
    | al d x y m =>
      have hx : x ∈ sds ws := hx
      have hy : y ∈ sds ws := hy
      refine sx_cons ?_; refine s1_if ?_; refine et_w ?_; refine ew_or ?_; refine et_not ?_; refine et_val ?_; refine ev_isi h 0 1 F.b_isinstance F.b_tuple bb_tuple ?_; refine ev_name h 2 rfl ?_; refine ⟨_, kb_tt, _, rfl, ?_⟩; refine ifF ?_
      refine ew_or ?_; refine et_cmp ?_; refine ev_len h 2 F.b_len ?_; refine ev_name h 2 rfl ?_; refine ⟨4, rfl, ?_⟩; refine ev_int ?_; refine od_lt ⟨false, rfl, ?_⟩; refine ifF ?_
      refine ew_or1 ?_; refine et_not ?_; refine et_val ?_; refine ev_isi h 0 3 F.b_isinstance F.b_str bb_str ?_; refine ev_ix ?_; refine ev_name h 2 rfl ?_; refine ev_int ?_; refine ix_T (d := .str (if d then "along" else "against")) rfl ?_; refine ⟨_, kb_ss, _, rfl, ?_⟩; refine ifF ?_; refine sx_nil ?_
      refine sx_cons ?_; refine s1_if ?_; refine et_w ?_; refine ew_or ?_; refine et_not ?_; refine et_val ?_; refine ev_call h (cal_is_strand F) 4 ?_; refine ea_val ?_; refine ev_name h 1 rfl ?_; refine ea_val ?_; refine ev_ix ?_; refine ev_name h 2 rfl ?_; refine ev_int ?_; refine ix_T (d := dS x) rfl ?_; refine ea_nil ?_; refine ⟨S, ws, x, hw, hx, rfl, _, rfl, ?_⟩; refine ifF ?_
      refine ew_or1 ?_; refine et_not ?_; refine et_val ?_; refine ev_call h (cal_is_strand F) 4 ?_; refine ea_val ?_; refine ev_name h 1 rfl ?_; refine ea_val ?_; refine ev_ix ?_; refine ev_name h 2 rfl ?_; refine ev_int ?_; refine ix_T (d := dS y) rfl ?_; refine ea_nil ?_; refine ⟨S, ws, y, hw, hy, rfl, _, rfl, ?_⟩; refine ifF ?_; refine sx_nil ?_
      have nb : (if d then ("along" : Str) else "against") ≠ "beside" := by cases d; exact Ne.symm s_ne2; exact Ne.symm s_ne1
      refine sx_cons ?_; refine s1_if ?_; refine et_cmp ?_; refine ev_ix ?_; refine ev_name h 2 rfl ?_; refine ev_int ?_; refine ix_T (d := .str (if d then "along" else "against")) rfl ?_; refine ev_str ?_; refine od_eqS ⟨_, rfl, ?_⟩; rw [decide_eq_false nb]; refine ifF ?_; refine sx_nil ?_
      refine sx_cons ?_; refine s1_if ?_; refine et_w ?_; refine ew_or ?_; refine et_cmp ?_; refine ev_len h 2 F.b_len ?_; refine ev_name h 2 rfl ?_; refine ⟨4, rfl, ?_⟩; refine ev_int ?_; refine od_neI ⟨false, rfl, ?_⟩; refine ifF ?_
      refine ew_or1 ?_; refine et_not ?_; refine et_val ?_; refine ev_call h (cal_is_long F) 6 ?_; refine ea_val ?_; refine ev_ix ?_; refine ev_name h 2 rfl ?_; refine ev_int ?_; refine ix_T (d := .int (m : Nat)) rfl ?_; refine ea_nil ?_; refine ⟨m, rfl, _, rfl, ?_⟩
      have i1 : d = true → (isLk (sysOf hw.w) (.al d x y m) ↔ 0 < m ∧ alT S ws x y m) := fun e => by subst e; exact alT_iff hw.w hx hy
      have i2 : d = false → (isLk (sysOf hw.w) (.al d x y m) ↔ 0 < m ∧ alF S ws x y m) := fun e => by subst e; exact alF_iff hw.w hx hy
      by_cases hm : 0 < m
      case neg =>
        rw [decide_eq_false hm]; refine ifT ?_; refine sx_one ?_; refine s1_ret ?_; refine ev_bl ?_
        refine q false ⟨fun z => (by cases z), fun z => ?_⟩
        cases d with
        | true => exact (hm ((i1 rfl).mp z).1).elim
        | false => exact (hm ((i2 rfl).mp z).1).elim
      rw [decide_eq_true hm]; refine ifF ?_; refine sx_nil ?_
      cases d with
      | true =>
        refine sx_cons ?_; refine s1_if ?_; refine et_cmp ?_; refine ev_ix ?_; refine ev_name h 2 rfl ?_; refine ev_int ?_; refine ix_T (d := .str "along") rfl ?_; refine ev_str ?_; refine od_eqS ⟨_, rfl, ?_⟩; rw [decide_eq_true rfl]; refine ifT ?_
        refine sx_one ?_; refine s1_ret ?_; refine ev_call h (cal_is_along F) 7 ?_; refine ea_val ?_; refine ev_name h 0 rfl ?_; refine ea_val ?_; refine ev_name h 1 rfl ?_; refine ea_val ?_; refine ev_ix ?_; refine ev_name h 2 rfl ?_; refine ev_int ?_; refine ix_T (d := dS x) rfl ?_; refine ea_val ?_; refine ev_ix ?_; refine ev_name h 2 rfl ?_; refine ev_int ?_; refine ix_T (d := dS y) rfl ?_
        refine ea_val ?_; refine ev_ix ?_; refine ev_name h 2 rfl ?_; refine ev_int ?_; refine ix_T (d := .int (m : Nat)) rfl ?_; refine ea_nil ?_
        exact ⟨S, kk, ws, x, y, m, hS, hw, hx, hy, hm, rfl, fun c hc => q c (hc.trans ⟨fun z => (i1 rfl).mpr ⟨hm, z⟩, fun z => ((i1 rfl).mp z).2⟩)⟩
      | false =>
        refine sx_cons ?_; refine s1_if ?_; refine et_cmp ?_; refine ev_ix ?_; refine ev_name h 2 rfl ?_; refine ev_int ?_; refine ix_T (d := .str "against") rfl ?_; refine ev_str ?_; refine od_eqS ⟨_, rfl, ?_⟩; rw [decide_eq_false s_ne3]; refine ifF ?_; refine sx_nil ?_
        refine sx_one ?_; refine s1_ret ?_; refine ev_and ?_; refine ev_cmp ?_; refine ev_ix ?_; refine ev_name h 2 rfl ?_; refine ev_int ?_; refine ix_T (d := .str "against") rfl ?_; refine ev_str ?_; refine od_eqS ⟨_, rfl, ?_⟩; rw [decide_eq_true rfl]; refine ifT ?_
        refine ev_one ?_; refine ev_call h (cal_is_against F) 8 ?_; refine ea_val ?_; refine ev_name h 0 rfl ?_; refine ea_val ?_; refine ev_name h 1 rfl ?_; refine ea_val ?_; refine ev_ix ?_; refine ev_name h 2 rfl ?_; refine ev_int ?_; refine ix_T (d := dS x) rfl ?_; refine ea_val ?_; refine ev_ix ?_; refine ev_name h 2 rfl ?_; refine ev_int ?_; refine ix_T (d := dS y) rfl ?_
        refine ea_val ?_; refine ev_ix ?_; refine ev_name h 2 rfl ?_; refine ev_int ?_; refine ix_T (d := .int (m : Nat)) rfl ?_; refine ea_nil ?_
        exact ⟨S, kk, ws, x, y, m, hS, hw, hx, hy, hm, rfl, fun c hc => q c (hc.trans ⟨fun z => (i2 rfl).mpr ⟨hm, z⟩, fun z => ((i2 rfl).mp z).2⟩)⟩
end
end RW
namespace RW
open PySem PySem.Spec PyProof.Rows L2 DL
theorem fm_len {α : Type} {f : Nat → List α} {c : Nat} (h : ∀ i, (f i).length ≤ c) : ∀ n, ((List.range n).flatMap f).length ≤ n * c
  | 0 => by simp
  | n + 1 => by
    have ih := fm_len h n
    have := h n
    rw [fm_succ, List.length_append, Nat.add_mul]
    omega
theorem fm_lenB {α : Type} {f : Nat → List α} {c m : Nat} (h : ∀ i, i < m → (f i).length ≤ c) : ∀ n, n ≤ m → ((List.range n).flatMap f).length ≤ n * c
  | 0, _ => by simp
  | n + 1, hn => by
    have ih := fm_lenB h n (by omega)
    have := h n (by omega)
    rw [fm_succ, List.length_append, Nat.add_mul]
    omega
theorem rng_get {a : Int} {n i : Nat} {d : PyData} (h : (rng a n)[i]? = some d) : i < n ∧ d = .int (a + i) := by
  unfold rng at h
  rw [List.getElem?_map, Option.map_eq_some_iff] at h
  obtain ⟨z, hz, rfl⟩ := h
  have hi := (List.getElem?_eq_some_iff.mp hz)
  obtain ⟨hi, e⟩ := hi
  rw [List.length_range] at hi
  rw [List.getElem_range] at e
  exact ⟨hi, by rw [e]⟩
section
variable {S : List L} {ws : List (List L)}
theorem lkAt_len (h : Ways S ws) (x y : St2) : (lkAt h x y).length ≤ 3 := List.length_filter_le ..
theorem lkIJ0_len (hw : Wok S ws) {i j : Nat} (hi : i < ws.length) (hj : j < ws.length) : (lkIJ0 hw.w i j).length ≤ 12288 := by
  have h1 : (wy ws i).length ≤ 64 := by rw [wy_at hi]; exact hw.l _ (List.getElem_mem _)
  have h2 : (wy ws j).length ≤ 64 := by rw [wy_at hj]; exact hw.l _ (List.getElem_mem _)
  unfold lkIJ0
  have a : ∀ p, ((List.range (wy ws j).length).flatMap fun q => lkAt hw.w (i, p) (j, q)).length ≤ (wy ws j).length * 3 := fun p => fm_len (fun q => lkAt_len _ _ _) _
  have b := fm_len (c := 192) (fun p => Nat.le_trans (a p) (by omega)) (wy ws i).length
  omega
theorem lkIJ_len (hw : Wok S ws) {i j : Nat} (hi : i < ws.length) (hj : j < ws.length) : (lkIJ hw.w i j).length ≤ 12288 := by
  unfold lkIJ
  rw [(List.mergeSort_perm _ _).length_eq]
  exact lkIJ0_len hw hi hj
end
section
variable {G : Glb}
def C_links_of : Con := fun ss Φ => ∃ (S : List L) (k : Nat) (ws : List (List L)) (x y : St2) (hw : Wok S ws), Sok S k ∧ x ∈ sds ws ∧ y ∈ sds ws ∧ ss = [.val (dT S), .val (dWs ws), .val (dS x), .val (dS y)] ∧ Φ (.list ((lkAt hw.w x y).map encLk))
theorem cal_links_of (F : Facts G) : Cal G "links_of" 5 C_links_of := by
  obtain ⟨f, fd, FD, hg⟩ := F.a_links_of
  refine cal_of (lv := 4) FD hg S_links_of bd_links_of kg_links_of (fun ss Φ h => ?_) (fun X T ss Φ h hp hc => ?_)
  · obtain ⟨_, _, _, _, _, _, _, _, _, rfl, _⟩ := h; rfl
  · obtain ⟨S, kk, ws, x, y, hw, hS, hx, hy, rfl, q⟩ := hc
    refine sx_cons ?_; refine s1_set h 4 ?_; refine ev_tup ?_; refine ea_val ?_; refine ev_str ?_; refine ea_val ?_; refine ev_name h 2 rfl ?_; refine ea_val ?_; refine ev_name h 3 rfl ?_; refine ea_val ?_
    refine ev_call h (cal_run_along F) 0 ?_; refine ea_val ?_; refine ev_name h 1 rfl ?_; refine ea_val ?_; refine ev_name h 2 rfl ?_; refine ea_val ?_; refine ev_name h 3 rfl ?_; refine ea_nil ?_; refine ⟨S, ws, x, y, hw, hx, hy, rfl, ?_⟩; refine ea_nil ?_; refine ⟨_, rfl, Nat.le_of_ble_eq_true rfl, ?_⟩
    refine sx_cons ?_; refine s1_set h 5 ?_; refine ev_tup ?_; refine ea_val ?_; refine ev_str ?_; refine ea_val ?_; refine ev_name h 2 rfl ?_; refine ea_val ?_; refine ev_name h 3 rfl ?_; refine ea_val ?_
    refine ev_call h (cal_run_against F) 1 ?_; refine ea_val ?_; refine ev_name h 1 rfl ?_; refine ea_val ?_; refine ev_name h 2 rfl ?_; refine ea_val ?_; refine ev_name h 3 rfl ?_; refine ea_nil ?_; refine ⟨S, ws, x, y, hw, hx, hy, rfl, ?_⟩; refine ea_nil ?_; refine ⟨_, rfl, Nat.le_of_ble_eq_true rfl, ?_⟩
    refine sx_one ?_; refine s1_ret ?_; refine ev_lc h o_links_of0 [6] k_links_of0 g_links_of0 ?_; refine ei_tup ?_; refine ev_tup ?_
    refine ea_val ?_; refine ev_tup ?_; refine ea_val ?_; refine ev_str ?_; refine ea_val ?_; refine ev_name h 2 rfl ?_; refine ea_val ?_; refine ev_name h 3 rfl ?_; refine ea_nil ?_; refine ⟨_, rfl, Nat.le_of_ble_eq_true rfl, ?_⟩
    refine ea_val ?_; refine ev_name h 4 rfl ?_; refine ea_val ?_; refine ev_name h 5 rfl ?_; refine ea_nil ?_; refine ⟨_, rfl, Nat.le_of_ble_eq_true rfl, _, rfl, ?_⟩
    refine LcQ.on encLk (cand ws x y) (lkB hw.w) encLk (Nat.le_of_ble_eq_true rfl) (fun a ha => ?_) q
    have sx : fst' a = x ∧ snd' a = y := by
      unfold cand at ha
      simp only [List.mem_cons, List.not_mem_nil, or_false] at ha
      rcases ha with rfl | rfl | rfl <;> exact ⟨rfl, rfl⟩
    refine ⟨_, fun X' h' => tg_name h' 6 rfl, fun X' h' => ?_, fun _ X' h' => ?_⟩
    · refine ets_one ?_; refine et_val ?_; refine ev_call h' (cal_is_link F) 0 ?_; refine ea_val ?_; refine ev_name h' 0 rfl ?_; refine ea_val ?_; refine ev_name h' 1 rfl ?_; refine ea_val ?_; refine ev_name h' 6 rfl ?_; refine ea_nil ?_
      exact ⟨S, kk, ws, a, hw, hS, by rw [sx.1]; exact hx, by rw [sx.2]; exact hy, rfl, fun c hc => ⟨c, rfl, Bool.eq_iff_iff.mpr (hc.trans lkB_iff.symm)⟩⟩
    · refine ev_name h' 6 rfl ?_
      rfl
def C_links : Con := fun ss Φ => ∃ (S : List L) (k : Nat) (ws : List (List L)) (i j : Nat) (hw : Wok S ws), Sok S k ∧ i < ws.length ∧ j < ws.length ∧ ss = [.val (dT S), .val (dWs ws), .val (.int i), .val (.int j)] ∧ Φ (.list ((lkIJ hw.w i j).map encLk))
theorem cal_links (F : Facts G) : Cal G "links" 6 C_links := by
  obtain ⟨f, fd, FD, hg⟩ := F.a_links
  refine cal_of (lv := 5) FD hg S_links bd_links kg_links (fun ss Φ h => ?_) (fun X T ss Φ h hp hc => ?_)
  · obtain ⟨_, _, _, _, _, _, _, _, _, rfl, _⟩ := h; rfl
  · obtain ⟨S, kk, ws, i, j, hw, hS, hi, hj, rfl, q⟩ := hc
    have hli : (wy ws i).length ≤ 64 := by rw [wy_at hi]; exact hw.l _ (List.getElem_mem _)
    have hlj : (wy ws j).length ≤ 64 := by rw [wy_at hj]; exact hw.l _ (List.getElem_mem _)
    have row : ∀ p n, ((List.range n).flatMap fun q => lkAt hw.w (i, p) (j, q)).length ≤ n * 3 := fun p n => fm_len (fun q => lkAt_len _ _ _) n
    have all : ∀ n, ((List.range n).flatMap fun p => (List.range (wy ws j).length).flatMap fun q => lkAt hw.w (i, p) (j, q)).length ≤ n * 192 := fun n => fm_len (fun p => Nat.le_trans (row p _) (by omega)) n
    refine sx_cons ?_; refine s1_setO h 4 ?_; refine ea_nil ?_; refine ⟨[], rfl, Nat.zero_le _, ?_⟩
    refine sx_cons ?_; refine s1_for (is := [5]) hp h ?_; refine ei_range1 h 0 F.b_range ?_; refine ev_len h 1 F.b_len ?_; refine ev_ix ?_; refine ev_name h 1 rfl ?_; refine ev_name h 2 rfl ?_; refine ixW hi ?_; refine ⟨_, lenW hli, _, rfl, by omega, by omega, ?_⟩
    refine ⟨fun n ρ => ∃ ds a b, ρ = [.val (dT S), .val (dWs ws), .val (.int i), .val (.int j), .own ds, a, b] ∧ ds = ((List.range n).flatMap fun p => (List.range (wy ws j).length).flatMap fun q => lkAt hw.w (i, p) (j, q)).map encLk, ⟨_, _, _, rfl, rfl⟩, fun n d ρ hd hI => ?_, fun ρ hI => ?_⟩
    · obtain ⟨ds, a, b, rfl, rfl⟩ := hI
      obtain ⟨hn, rfl⟩ := rng_get hd
      have hn : n < (wy ws i).length := by simpa using hn
      refine tg_name h 5 ?_
      refine sx_one ?_; refine s1_for (is := [6]) hp h ?_; refine ei_range1 h 0 F.b_range ?_; refine ev_len h 1 F.b_len ?_; refine ev_ix ?_; refine ev_name h 1 rfl ?_; refine ev_name h 3 rfl ?_; refine ixW hj ?_; refine ⟨_, lenW hlj, _, rfl, by omega, by omega, ?_⟩
      refine ⟨fun m ρ => ∃ ds b, ρ = [.val (dT S), .val (dWs ws), .val (.int i), .val (.int j), .own ds, .val (.int (0 + (n : Int))), b] ∧ ds = (((List.range n).flatMap fun p => (List.range (wy ws j).length).flatMap fun q => lkAt hw.w (i, p) (j, q)) ++ (List.range m).flatMap fun q => lkAt hw.w (i, n) (j, q)).map encLk, ⟨_, _, rfl, by simp⟩, fun m d ρ hd hI => ?_, fun ρ hI => ?_⟩
      · obtain ⟨ds, b, rfl, rfl⟩ := hI
        obtain ⟨hm, rfl⟩ := rng_get hd
        have hm : m < (wy ws j).length := by simpa using hm
        refine tg_name h 6 ?_
        refine sx_one ?_; refine s1_extend h 4 rfl ?_; refine ev_call h (cal_links_of F) 2 ?_; refine ea_val ?_; refine ev_name h 0 rfl ?_; refine ea_val ?_; refine ev_name h 1 rfl ?_
        refine ea_val ?_; refine ev_tup ?_; refine ea_val ?_; refine ev_name h 2 rfl ?_; refine ea_val ?_; refine ev_name h 5 rfl ?_; refine ea_nil ?_; refine ⟨_, rfl, Nat.le_of_ble_eq_true rfl, ?_⟩
        refine ea_val ?_; refine ev_tup ?_; refine ea_val ?_; refine ev_name h 3 rfl ?_; refine ea_val ?_; refine ev_name h 6 rfl ?_; refine ea_nil ?_; refine ⟨_, rfl, Nat.le_of_ble_eq_true rfl, ?_⟩
        refine ea_nil ?_
        refine ⟨S, kk, ws, (i, n), (j, m), hw, hS, mem_sds.mpr ⟨hi, hn⟩, mem_sds.mpr ⟨hj, hm⟩, ?_, _, rfl, ?_, _, _, rfl, ?_⟩
        · show [_, _, _, _] = [_, _, _, _]
          unfold dS
          rw [Int.zero_add, Int.zero_add]
        · have h1 := all n
          have h2 := row n m
          have h3 := lkAt_len hw.w (i, n) (j, m)
          rw [List.length_map, List.length_append, List.length_map]
          omega
        · rw [fm_succ, ← List.append_assoc, List.map_append (l₂ := lkAt hw.w (i, n) (j, m))]
      · obtain ⟨ds, b, rfl, rfl⟩ := hI
        refine ⟨_, _, _, rfl, ?_⟩
        rw [len_rng, Int.toNat_natCast, fm_succ]
    · obtain ⟨ds, a, b, rfl, rfl⟩ := hI
      refine sx_freeze 4 rfl ?_; refine sx_one ?_; refine s1_ret ?_; refine ev_callB h 3 F.b_sorted bb_sorted ?_; refine ea_val ?_; refine ev_name h 4 rfl ?_; refine ea_nil ?_
      have h1 := all (wy ws i).length
      rw [len_rng, Int.toNat_natCast]
      have hu := un_ok h
      exact cd_sortedL encLk _ (by omega) encLk_alike (PySem.W.Sortable.tuples encLk_tup) encLk_depth (by omega) q
def C_all_links : Con := fun ss Φ => ∃ (S : List L) (k : Nat) (ws : List (List L)) (hw : Wok S ws), Sok S k ∧ ss = [.val (dT S), .val (dWs ws)] ∧ Φ (.list ((allLk hw.w).map encLk))
theorem cal_all_links (F : Facts G) : Cal G "all_links" 7 C_all_links := by
  obtain ⟨f, fd, FD, hg⟩ := F.a_all_links
  refine cal_of (lv := 6) FD hg S_all_links bd_all_links kg_all_links (fun ss Φ h => ?_) (fun X T ss Φ h hp hc => ?_)
  · obtain ⟨_, _, _, _, _, rfl, _⟩ := h; rfl
  · obtain ⟨S, kk, ws, hw, hS, rfl, q⟩ := hc
    have h8 := hw.n
    have row : ∀ i, i < ws.length → ∀ n, n ≤ ws.length - i → ((List.range n).flatMap fun t => lkIJ hw.w i (i + t)).length ≤ n * 12288 := fun i hi n hn => fm_lenB (m := ws.length - i) (fun t ht => lkIJ_len hw hi (by omega)) n hn
    have all : ∀ n, n ≤ ws.length → ((List.range n).flatMap fun i => (List.range (ws.length - i)).flatMap fun t => lkIJ hw.w i (i + t)).length ≤ n * 36864 := fun n hn => fm_lenB (m := ws.length) (fun i hi => Nat.le_trans (row i hi _ (Nat.le_refl _)) (by omega)) n hn
    have fin : (allLk0 hw.w).length ≤ 100000 := by
      unfold allLk0
      rcases Nat.eq_zero_or_pos ws.length with z | z
      · rw [z]; simp
      · obtain ⟨m, hm⟩ : ∃ m, ws.length = m + 1 := ⟨ws.length - 1, by omega⟩
        have a := all m (by omega)
        have b := row m (by omega) (ws.length - m) (Nat.le_refl _)
        generalize hf : (fun i => (List.range (ws.length - i)).flatMap fun t => lkIJ hw.w i (i + t)) = f at *
        have e : f m = (List.range (ws.length - m)).flatMap fun t => lkIJ hw.w m (m + t) := by rw [← hf]
        rw [← e] at b
        rw [hm, fm_succ, List.length_append]
        omega
    refine sx_cons ?_; refine s1_setO h 2 ?_; refine ea_nil ?_; refine ⟨[], rfl, Nat.zero_le _, ?_⟩
    refine sx_cons ?_; refine s1_for (is := [3]) hp h ?_; refine ei_range1 h 0 F.b_range ?_; refine ev_len h 1 F.b_len ?_; refine ev_name h 1 rfl ?_; refine ⟨ws.length, by simp [lenD, dWs], _, rfl, by omega, by omega, ?_⟩
    refine ⟨fun n ρ => ∃ ds a b, ρ = [.val (dT S), .val (dWs ws), .own ds, a, b] ∧ ds = ((List.range n).flatMap fun i => (List.range (ws.length - i)).flatMap fun t => lkIJ hw.w i (i + t)).map encLk, ⟨_, _, _, rfl, rfl⟩, fun n d ρ hd hI => ?_, fun ρ hI => ?_⟩
    · obtain ⟨ds, a, b, rfl, rfl⟩ := hI
      obtain ⟨hn, rfl⟩ := rng_get hd
      have hn : n < ws.length := by simpa using hn
      refine tg_name h 3 ?_
      refine sx_one ?_; refine s1_for (is := [4]) hp h ?_; refine ei_range2 h 0 F.b_range ?_; refine ev_name h 3 rfl ?_; refine ev_len h 1 F.b_len ?_; refine ev_name h 1 rfl ?_; refine ⟨ws.length, by simp [lenD, dWs], _, _, rfl, rfl, ⟨by omega, by omega, by omega, by omega⟩, ?_⟩
      have e0 : ((ws.length : Int) - (0 + (n : Int))).toNat = ws.length - n := by omega
      rw [e0]
      refine ⟨fun m ρ => ∃ ds b, ρ = [.val (dT S), .val (dWs ws), .own ds, .val (.int (0 + (n : Int))), b] ∧ ds = (((List.range n).flatMap fun i => (List.range (ws.length - i)).flatMap fun t => lkIJ hw.w i (i + t)) ++ (List.range m).flatMap fun t => lkIJ hw.w n (n + t)).map encLk, ⟨_, _, rfl, by simp⟩, fun m d ρ hd hI => ?_, fun ρ hI => ?_⟩
      · obtain ⟨ds, b, rfl, rfl⟩ := hI
        obtain ⟨hm, rfl⟩ := rng_get hd
        refine tg_name h 4 ?_
        refine sx_one ?_; refine s1_extend h 2 rfl ?_; refine ev_call h (cal_links F) 2 ?_; refine ea_val ?_; refine ev_name h 0 rfl ?_; refine ea_val ?_; refine ev_name h 1 rfl ?_; refine ea_val ?_; refine ev_name h 3 rfl ?_; refine ea_val ?_; refine ev_name h 4 rfl ?_; refine ea_nil ?_
        refine ⟨S, kk, ws, n, n + m, hw, hS, hn, by omega, ?_, _, rfl, ?_, _, _, rfl, ?_⟩
        · rw [show (0 : Int) + (n : Int) + (m : Int) = ((n + m : Nat) : Int) by omega, show (0 : Int) + (n : Int) = (n : Int) by omega]
        · have h1 := all n (by omega)
          have h2 := row n hn m (by omega)
          have h3 := lkIJ_len hw hn (show n + m < ws.length by omega)
          rw [List.length_map, List.length_append, List.length_map]
          omega
        · rw [fm_succ, ← List.append_assoc, List.map_append (l₂ := lkIJ hw.w n (n + m))]
      · obtain ⟨ds, b, rfl, rfl⟩ := hI
        refine ⟨_, _, _, rfl, ?_⟩
        rw [len_rng, fm_succ]
    · obtain ⟨ds, a, b, rfl, rfl⟩ := hI
      refine sx_freeze 2 rfl ?_; refine sx_one ?_; refine s1_ret ?_; refine ev_callB h 3 F.b_sorted bb_sorted ?_; refine ea_val ?_; refine ev_name h 2 rfl ?_; refine ea_nil ?_
      rw [len_rng, Int.toNat_natCast]
      have hu := un_ok h
      exact cd_sortedL encLk _ (by omega) encLk_alike (PySem.W.Sortable.tuples encLk_tup) encLk_depth fin q
end
end RW
namespace RW
open PySem PySem.Spec PyProof.Rows L2 DL
theorem tw_eq {α : Type} {p : α → Bool} : ∀ {r : List α} {k : Nat}, k ≤ r.length → (∀ j (h : j < r.length), j < k → p r[j] = true) → (∀ h : k < r.length, p r[k] = false) → r.takeWhile p = r.take k ∧ r.dropWhile p = r.drop k
  | [], k, h, _, _ => by simp at h; subst h; simp
  | a :: r, 0, _, _, h => by
    have q := h (by simp)
    rw [List.getElem_cons_zero] at q
    simp [List.takeWhile_cons, List.dropWhile_cons, q]
  | a :: r, k + 1, h0, h1, h2 => by
    have pa := h1 0 (by simp) (by omega)
    rw [List.getElem_cons_zero] at pa
    have ih := tw_eq (r := r) (k := k) (by simpa using h0) (fun j hj hk => by
      have q := h1 (j + 1) (by simpa using hj) (by omega)
      rw [List.getElem_cons_succ] at q
      exact q) (fun hk => by
      have q := h2 (by simpa using hk)
      rw [List.getElem_cons_succ] at q
      exact q)
    simp [List.takeWhile_cons, List.dropWhile_cons, pa, ih.1, ih.2]
def dRows (rows : List (List St2)) : PyData := .tuple (rows.map fun r => .tuple (r.map dS))
theorem thr_len {S : List L} {ws : List (List L)} (h : Wok S ws) (n : Nat) : (thr ws n).length ≤ 512 := Nat.le_trans (List.length_filter_le ..) (sds_len' h)
section
variable {G : Glb}
def C_met_at : Con := fun ss Φ => ∃ (S : List L) (ws : List (List L)) (x : St2) (j : Int), Wok S ws ∧ x ∈ sds ws ∧ ss = [.val (dWs ws), .val (dS x), .val (.int j)] ∧ Φ (dT [metL ws x j])
theorem cal_met_at (F : Facts G) : Cal G "met_at" 3 C_met_at := by
  obtain ⟨f, fd, FD, hg⟩ := F.a_met_at
  refine cal_of (lv := 2) FD hg S_met_at bd_met_at kg_met_at (fun ss Φ h => ?_) (fun X T ss Φ h hp hc => ?_)
  · obtain ⟨_, _, _, _, _, _, rfl, _⟩ := h; rfl
  · obtain ⟨S, ws, x, j, hw, hx, rfl, q⟩ := hc
    unfold metL at q
    refine sx_cons ?_; refine s1_if ?_; refine et_cmp ?_; refine ev_call h (cal_letter_at F) 0 ?_; refine ea_val ?_; refine ev_name h 0 rfl ?_; refine ea_val ?_; refine ev_name h 1 rfl ?_; refine ea_val ?_; refine ev_int ?_; refine ea_nil ?_; refine ⟨S, ws, x, 0, hw, hx, rfl, ?_⟩
    refine ev_gstr h 1 F.s_SMALL_tight ?_; refine od_small ⟨_, rfl, ?_⟩
    cases hs : small (lat ws x 0) with
    | true =>
      rw [hs, if_pos rfl] at q
      refine ifT ?_; refine sx_one ?_; refine s1_ret ?_; refine ev_call h (cal_letter_at F) 0 ?_; refine ea_val ?_; refine ev_name h 0 rfl ?_; refine ea_val ?_; refine ev_name h 1 rfl ?_; refine ea_val ?_; refine ev_name h 2 rfl ?_; refine ea_nil ?_
      exact ⟨S, ws, x, j, hw, hx, rfl, q⟩
    | false =>
      rw [hs, if_neg Bool.false_ne_true] at q
      refine ifF ?_; refine sx_nil ?_; refine sx_one ?_; refine s1_ret ?_; refine ev_call h (cal_back F) 2 ?_; refine ea_val ?_; refine ev_call h (cal_letter_at F) 0 ?_; refine ea_val ?_; refine ev_name h 0 rfl ?_; refine ea_val ?_; refine ev_name h 1 rfl ?_; refine ea_val ?_; refine ev_un ?_; refine ev_name h 2 rfl ?_; refine ud_neg ?_; refine ea_nil ?_
      refine ⟨S, ws, x, -j, hw, hx, rfl, ?_⟩; refine ea_nil ?_
      exact ⟨_, rfl, q⟩
def C_run_on : Con := fun ss Φ => ∃ (S : List L) (ws : List (List L)) (x y : St2) (t : Int), Wok S ws ∧ x ∈ sds ws ∧ y ∈ sds ws ∧ -2 ≤ t ∧ t ≤ 2 ∧ ss = [.val (dWs ws), .val (dS x), .val (dS y), .val (.int t)] ∧ Φ (.int (ra ws x y t : Nat))
theorem cal_run_on (F : Facts G) : Cal G "run_on" 4 C_run_on := by
  obtain ⟨f, fd, FD, hg⟩ := F.a_run_on
  refine cal_of (lv := 3) FD hg S_run_on bd_run_on kg_run_on (fun ss Φ h => ?_) (fun X T ss Φ h hp hc => ?_)
  · obtain ⟨_, _, _, _, _, _, _, _, _, _, rfl, _⟩ := h; rfl
  · obtain ⟨S, ws, x, y, t, hw, hx, hy, t0, t1, rfl, q⟩ := hc
    have rb : rmo ws x y ≤ 128 := by have := wy_len hw hx; have := wy_len hw hy; unfold rmo; omega
    refine sx_cons ?_; refine s1_set h 4 ?_; refine ev_int ?_
    refine sx_cons ?_
    refine s1_whileP hp (fun mm ρ => ∃ k : Nat, k ≤ rmo ws x y ∧ mm = rmo ws x y - k ∧ ρ = [.val (dWs ws), .val (dS x), .val (dS y), .val (.int t), .val (.int (1 + (k : Int)))] ∧ ∀ j : Nat, j < k → decide (metL ws x (t * (1 + j)) = metL ws y (t * (1 + j))) = true)
      (fun ρ => ρ = [.val (dWs ws), .val (dS x), .val (dS y), .val (.int t), .val (.int (1 + (ra ws x y t : Nat)))]) (rmo ws x y) ⟨0, Nat.zero_le _, rfl, rfl, fun j hj => absurd hj (Nat.not_lt_zero j)⟩ ?_ ?_
    · rintro mm ρ' ⟨k, hk, rfl, rfl, ha⟩
      refine et_w ?_; refine ew_and ?_; refine et_cmp ?_; refine ev_name h 4 rfl ?_; refine ev_call h (cal_room_of F) 0 ?_; refine ea_val ?_; refine ev_name h 0 rfl ?_; refine ea_val ?_; refine ev_name h 1 rfl ?_; refine ea_val ?_; refine ev_name h 2 rfl ?_; refine ea_nil ?_
      refine ⟨S, ws, x, y, hw, hx, hy, rfl, ?_⟩; refine od_le ⟨_, rfl, ?_⟩
      by_cases h1 : k < rmo ws x y
      · rw [decide_eq_true (by omega)]; refine ifT ?_
        have cm : CMul t (1 + (k : Int)) := .inl ⟨by omega, by omega⟩
        refine ew_and1 ?_; refine et_cmp ?_
        refine ev_call h (cal_met_at F) 1 ?_; refine ea_val ?_; refine ev_name h 0 rfl ?_; refine ea_val ?_; refine ev_name h 1 rfl ?_; refine ea_val ?_; refine ev_bin ?_; refine ev_name h 3 rfl ?_; refine ev_name h 4 rfl ?_; refine od_mul cm ?_; refine ea_nil ?_; refine ⟨S, ws, x, _, hw, hx, rfl, ?_⟩
        refine ev_call h (cal_met_at F) 1 ?_; refine ea_val ?_; refine ev_name h 0 rfl ?_; refine ea_val ?_; refine ev_name h 2 rfl ?_; refine ea_val ?_; refine ev_bin ?_; refine ev_name h 3 rfl ?_; refine ev_name h 4 rfl ?_; refine od_mul cm ?_; refine ea_nil ?_; refine ⟨S, ws, y, _, hw, hy, rfl, ?_⟩
        refine od_eqL ⟨_, rfl, ?_⟩
        by_cases h2 : metL ws x (t * (1 + (k : Int))) = metL ws y (t * (1 + (k : Int)))
        · rw [decide_eq_true h2]; refine ifT ?_
          refine sx_one ?_; refine s1_set h 4 ?_; refine ev_bin ?_; refine ev_name h 4 rfl ?_; refine ev_int ?_; refine od_add ?_
          refine ⟨rmo ws x y - (k + 1), by omega, k + 1, h1, rfl, by rw [Int.natCast_add, Int.add_assoc]; rfl, fun j hj => ?_⟩
          by_cases e : j = k
          · subst e; exact decide_eq_true h2
          · exact ha j (by omega)
        · rw [decide_eq_false h2]; refine ifF ?_
          unfold ra
          rw [rn_eq hk ha (fun _ => decide_eq_false h2)]
      · rw [decide_eq_false (by omega)]; refine ifF ?_; refine ifF ?_
        unfold ra
        rw [rn_eq hk ha (fun z => absurd z h1)]
    · rintro ρ' rfl
      refine sx_one ?_; refine s1_ret ?_; refine ev_bin ?_; refine ev_name h 4 rfl ?_; refine ev_int ?_; refine od_sub ?_
      rw [show (1 : Int) + ((ra ws x y t : Nat) : Int) - 1 = (ra ws x y t : Nat) by omega]
      exact q
def C_stands_first : Con := fun ss Φ => ∃ (S : List L) (k : Nat) (ws : List (List L)) (x y : St2) (n : Nat) (hw : Wok S ws), Sok S k ∧ x ∈ thr ws n ∧ y ∈ thr ws n ∧ x ≠ y ∧ ss = [.val (dT S), .val (dWs ws), .val (dS x), .val (dS y)] ∧ Φ (.bool (sfB hw.w x y))
theorem cal_stands_first (F : Facts G) : Cal G "stands_first" 5 C_stands_first := by
  obtain ⟨f, fd, FD, hg⟩ := F.a_stands_first
  refine cal_of (lv := 4) FD hg S_stands_first bd_stands_first kg_stands_first (fun ss Φ h => ?_) (fun X T ss Φ h hp hc => ?_)
  · obtain ⟨_, _, _, _, _, _, _, _, _, _, _, rfl, _⟩ := h; rfl
  · obtain ⟨S, kk, ws, x, y, n, hw, hS, tx', ty', ne, rfl, q⟩ := hc
    have hx := (mem_thr.mp tx').1
    have hy := (mem_thr.mp ty').1
    have h0 := thr_met tx' ty'
    have mS : ∀ {z : St2} {j : Int}, z ∈ sds ws → metL ws z j ∈ S := fun hz => metL_S hw.w hz _
    have bS : ∀ {c : L}, c ∈ S → bk c ∈ S := fun hc => hw.w.bkS _ hc
    have hu := un_ok h
    have qq : ∀ c : Bool, (c = true ↔ sf (sysOf hw.w) x y) → Φ (.bool c) := fun c hc => by
      rw [show c = sfB hw.w x y from Bool.eq_iff_iff.mpr (hc.trans sfB_iff.symm)]; exact q
    refine sx_cons ?_; refine s1_set h 4 ?_; refine ev_call h (cal_run_on F) 0 ?_; refine ea_val ?_; refine ev_name h 1 rfl ?_; refine ea_val ?_; refine ev_name h 2 rfl ?_; refine ea_val ?_; refine ev_name h 3 rfl ?_; refine ea_val ?_; refine ev_int ?_; refine ea_nil ?_; refine ⟨S, ws, x, y, 1, hw, hx, hy, by omega, by omega, rfl, ?_⟩
    refine sx_cons ?_; refine s1_set h 5 ?_; refine ev_call h (cal_run_on F) 0 ?_; refine ea_val ?_; refine ev_name h 1 rfl ?_; refine ea_val ?_; refine ev_name h 2 rfl ?_; refine ea_val ?_; refine ev_name h 3 rfl ?_; refine ea_val ?_; refine ev_un ?_; refine ev_int ?_; refine ud_neg ?_; refine ea_nil ?_; refine ⟨S, ws, x, y, -1, hw, hx, hy, by omega, by omega, rfl, ?_⟩
    refine sx_cons ?_; refine s1_if ?_; refine et_cmp ?_; refine ev_name h 4 rfl ?_; refine ev_call h (cal_room_of F) 1 ?_; refine ea_val ?_; refine ev_name h 1 rfl ?_; refine ea_val ?_; refine ev_name h 2 rfl ?_; refine ea_val ?_; refine ev_name h 3 rfl ?_; refine ea_nil ?_
    refine ⟨S, ws, x, y, hw, hx, hy, rfl, ?_⟩; refine od_eqI ⟨_, rfl, ?_⟩
    have le1 := ra_le (ws := ws) (x := x) (y := y) (t := 1)
    by_cases h1 : ra ws x y 1 = rmo ws x y
    · rw [decide_eq_true (by omega)]; refine ifT ?_
      refine sx_one ?_; refine s1_ret ?_; refine ev_cmp ?_; refine ev_cmp ?_; refine ev_name h 2 rfl ?_; refine ev_name h 3 rfl ?_; refine od_ltS hu ?_
      refine ev_cmp ?_; refine ev_call h (cal_letter_at F) 2 ?_; refine ea_val ?_; refine ev_name h 1 rfl ?_; refine ea_val ?_; refine ev_callB h 3 F.b_min bb_min ?_; refine ea_val ?_; refine ev_name h 2 rfl ?_; refine ea_val ?_; refine ev_name h 3 rfl ?_; refine ea_nil ?_
      refine cd_min2D h.calm (by omega) ⟨rfl, rfl, rfl, rfl⟩ ⟨fun z => (by cases z), Nat.le_of_ble_eq_true rfl⟩ ⟨fun z => (by cases z), Nat.le_of_ble_eq_true rfl⟩ ?_
      refine ea_val ?_; refine ev_int ?_; refine ea_nil ?_
      have hz : (if slt y x then y else x) ∈ sds ws := by split <;> assumption
      refine ⟨S, ws, if slt y x then y else x, 0, hw, hz, ?_, ?_⟩
      · rw [dataLt_dS]
        by_cases a : slt y x
        · simp [a]
        · simp [a]
      refine ev_gstr h 4 F.s_SMALL_tight ?_; refine od_small ?_; refine od_eqB (qq _ ?_)
      rw [sf_par' hw.w hx hy h0 ne h1, decide_eq_true_iff]
    · rw [decide_eq_false (by omega)]; refine ifF ?_; refine sx_nil ?_
      refine sx_cons ?_; refine s1_if ?_; refine et_cmp ?_; refine ev_name h 4 rfl ?_; refine ev_name h 5 rfl ?_; refine od_le ⟨_, rfl, ?_⟩
      by_cases h2 : ra ws x y 1 ≤ ra ws x y (-1)
      · rw [decide_eq_true (by omega)]; refine ifT ?_
        refine sx_cons ?_; refine s1_set h 6 ?_; refine ev_call h (cal_back F) 5 ?_; refine ea_val ?_; refine ev_call h (cal_met_at F) 6 ?_; refine ea_val ?_; refine ev_name h 1 rfl ?_; refine ea_val ?_; refine ev_name h 2 rfl ?_; refine ea_val ?_; refine ev_name h 4 rfl ?_; refine ea_nil ?_; refine ⟨S, ws, x, _, hw, hx, rfl, ?_⟩; refine ea_nil ?_; refine ⟨_, rfl, ?_⟩
        refine sx_one ?_; refine s1_ret ?_; refine ev_call h (cal_comes_first F) 7 ?_; refine ea_val ?_; refine ev_name h 0 rfl ?_; refine ea_val ?_; refine ev_name h 6 rfl ?_
        refine ea_val ?_; refine ev_call h (cal_met_at F) 6 ?_; refine ea_val ?_; refine ev_name h 1 rfl ?_; refine ea_val ?_; refine ev_name h 2 rfl ?_; refine ea_val ?_; refine ev_bin ?_; refine ev_name h 4 rfl ?_; refine ev_int ?_; refine od_add ?_; refine ea_nil ?_; refine ⟨S, ws, x, _, hw, hx, rfl, ?_⟩
        refine ea_val ?_; refine ev_call h (cal_met_at F) 6 ?_; refine ea_val ?_; refine ev_name h 1 rfl ?_; refine ea_val ?_; refine ev_name h 3 rfl ?_; refine ea_val ?_; refine ev_bin ?_; refine ev_name h 4 rfl ?_; refine ev_int ?_; refine od_add ?_; refine ea_nil ?_; refine ⟨S, ws, y, _, hw, hy, rfl, ?_⟩
        refine ea_nil ?_; refine ⟨S, kk, _, _, _, hS, bS (mS hx), mS hx, mS hy, rfl, qq _ ?_⟩
        rw [sf_ahead hw.w hx hy (by omega) h2, decide_eq_true_iff]
      · rw [decide_eq_false (by omega)]; refine ifF ?_; refine sx_nil ?_
        refine sx_cons ?_; refine s1_set h 7 ?_; refine ev_tup ?_
        refine ea_val ?_; refine ev_call h (cal_back F) 5 ?_; refine ea_val ?_; refine ev_call h (cal_met_at F) 6 ?_; refine ea_val ?_; refine ev_name h 1 rfl ?_; refine ea_val ?_; refine ev_name h 2 rfl ?_; refine ea_val ?_; refine ev_bin ?_; refine ev_un ?_; refine ev_name h 5 rfl ?_; refine ud_neg ?_; refine ev_int ?_; refine od_sub ?_; refine ea_nil ?_; refine ⟨S, ws, x, _, hw, hx, rfl, ?_⟩; refine ea_nil ?_; refine ⟨_, rfl, ?_⟩
        refine ea_val ?_; refine ev_call h (cal_back F) 5 ?_; refine ea_val ?_; refine ev_call h (cal_met_at F) 6 ?_; refine ea_val ?_; refine ev_name h 1 rfl ?_; refine ea_val ?_; refine ev_name h 3 rfl ?_; refine ea_val ?_; refine ev_bin ?_; refine ev_un ?_; refine ev_name h 5 rfl ?_; refine ud_neg ?_; refine ev_int ?_; refine od_sub ?_; refine ea_nil ?_; refine ⟨S, ws, y, _, hw, hy, rfl, ?_⟩; refine ea_nil ?_; refine ⟨_, rfl, ?_⟩
        refine ea_nil ?_; refine ⟨_, rfl, Nat.le_of_ble_eq_true rfl, ?_⟩
        refine sx_one ?_; refine s1_ret ?_; refine ev_call h (cal_comes_first F) 7 ?_; refine ea_val ?_; refine ev_name h 0 rfl ?_
        refine ea_val ?_; refine ev_call h (cal_met_at F) 6 ?_; refine ea_val ?_; refine ev_name h 1 rfl ?_; refine ea_val ?_; refine ev_name h 2 rfl ?_; refine ea_val ?_; refine ev_un ?_; refine ev_name h 5 rfl ?_; refine ud_neg ?_; refine ea_nil ?_; refine ⟨S, ws, x, _, hw, hx, rfl, ?_⟩
        refine ea_val ?_; refine ev_ix ?_; refine ev_name h 7 rfl ?_; refine ev_int ?_; refine ix_T (d := dT [bk (metL ws y (-(ra ws x y (-1) : Nat) - 1))]) rfl ?_; refine ea_val ?_; refine ev_ix ?_; refine ev_name h 7 rfl ?_; refine ev_int ?_; refine ix_T (d := dT [bk (metL ws x (-(ra ws x y (-1) : Nat) - 1))]) rfl ?_
        refine ea_nil ?_; refine ⟨S, kk, _, _, _, hS, mS hx, bS (mS hy), bS (mS hx), rfl, qq _ ?_⟩
        rw [sf_behind hw.w hx hy (by omega), decide_eq_true_iff]
def C_order_of : Con := fun ss Φ => ∃ (S : List L) (k : Nat) (ws : List (List L)) (n : Nat) (hw : Wok S ws), Sok S k ∧ ss = [.val (dT S), .val (dWs ws), .val (.list ((thr ws n).map dS))] ∧ Φ (.list ((ord (sfB hw.w) (thr ws n)).map dS))
theorem cal_order_of (F : Facts G) : Cal G "order_of" 6 C_order_of := by
  obtain ⟨f, fd, FD, hg⟩ := F.a_order_of
  refine cal_of (lv := 5) FD hg S_order_of bd_order_of kg_order_of (fun ss Φ h => ?_) (fun X T ss Φ h hp hc => ?_)
  · obtain ⟨_, _, _, _, _, _, rfl, _⟩ := h; rfl
  · obtain ⟨S, kk, ws, n, hw, hS, rfl, q⟩ := hc
    have hl := thr_len hw n
    have hn : (thr ws n).Nodup := (sds_nodup ws).filter _
    refine sx_cons ?_; refine s1_setO h 3 ?_; refine ea_nil ?_; refine ⟨[], rfl, Nat.zero_le _, ?_⟩
    refine sx_cons ?_; refine s1_for (is := [4]) hp h ?_; refine ei_list ?_; refine ev_name h 2 rfl ?_; refine ⟨_, rfl, ?_⟩
    refine ⟨fun i ρ => ∃ ds a b, ρ = [.val (dT S), .val (dWs ws), .val (.list ((thr ws n).map dS)), .own ds, a, b] ∧ ds = (ord (sfB hw.w) ((thr ws n).take i)).map dS, ⟨_, _, _, rfl, rfl⟩, fun i d ρ hd hI => ?_, fun ρ hI => ?_⟩
    · obtain ⟨ds, a, b, rfl, rfl⟩ := hI
      rw [List.getElem?_map, Option.map_eq_some_iff] at hd
      obtain ⟨x, hx, rfl⟩ := hd
      have hi := (List.getElem?_eq_some_iff.mp hx).1
      have hx' := (List.getElem?_eq_some_iff.mp hx).2
      have mx : x ∈ thr ws n := List.mem_of_getElem? hx
      have tk : (thr ws n).take (i + 1) = (thr ws n).take i ++ [x] := by rw [List.take_add_one, hx]; rfl
      have nd : ((thr ws n).take i ++ [x]).Nodup := by rw [← tk]; exact hn.sublist (List.take_sublist ..)
      have pr := ord_perm (ct := sfB hw.w) ((thr ws n).take i)
      have o1 : ord (sfB hw.w) ((thr ws n).take (i + 1)) = ins (sfB hw.w) x (ord (sfB hw.w) ((thr ws n).take i)) := by
        rw [tk]; unfold ord; rw [List.foldl_append]; rfl
      generalize hr : ord (sfB hw.w) ((thr ws n).take i) = r at *
      have rl : r.length ≤ 512 := by rw [pr.length_eq, List.length_take]; omega
      have rm : ∀ z ∈ r, z ∈ thr ws n ∧ z ≠ x := fun z hz => by
        have z1 := pr.mem_iff.mp hz
        refine ⟨List.mem_of_mem_take z1, fun e => ?_⟩
        subst e
        exact (List.nodup_append.mp nd).2.2 z z1 z (by simp) rfl
      refine tg_name h 4 ?_
      refine sx_cons ?_; refine s1_set h 5 ?_; refine ev_int ?_
      refine sx_cons ?_
      refine s1_whileP hp (fun mm ρ => ∃ k : Nat, k ≤ r.length ∧ mm = r.length - k ∧ ρ = [.val (dT S), .val (dWs ws), .val (.list ((thr ws n).map dS)), .own (r.map dS), .val (dS x), .val (.int k)] ∧ ∀ j (hj : j < r.length), j < k → sfB hw.w r[j] x = true)
        (fun ρ => ∃ k : Nat, k ≤ r.length ∧ ρ = [.val (dT S), .val (dWs ws), .val (.list ((thr ws n).map dS)), .own (r.map dS), .val (dS x), .val (.int k)] ∧ r.takeWhile (fun z => sfB hw.w z x) = r.take k ∧ r.dropWhile (fun z => sfB hw.w z x) = r.drop k) r.length ⟨0, Nat.zero_le _, rfl, rfl, fun j _ hj => absurd hj (Nat.not_lt_zero j)⟩ ?_ ?_
      · rintro mm ρ' ⟨k, hk, rfl, rfl, ha⟩
        refine et_view 3 rfl ?_
        refine et_w ?_; refine ew_and ?_; refine et_cmp ?_; refine ev_name h 5 rfl ?_; refine ev_len h 0 F.b_len ?_; refine ev_name h 3 rfl ?_; refine ⟨r.length, by simp [lenD], ?_⟩; refine od_lt ⟨_, rfl, ?_⟩
        by_cases h1 : k < r.length
        · rw [decide_eq_true (by omega)]; refine ifT ?_
          have mk := rm r[k] (List.getElem_mem _)
          refine ew_and1 ?_; refine et_val ?_; refine ev_call h (cal_stands_first F) 1 ?_; refine ea_val ?_; refine ev_name h 0 rfl ?_; refine ea_val ?_; refine ev_name h 1 rfl ?_; refine ea_val ?_; refine ev_ix ?_; refine ev_name h 3 rfl ?_; refine ev_name h 5 rfl ?_; refine ixD_L (by simpa using h1) ?_
          refine ea_val ?_; refine ev_name h 4 rfl ?_; refine ea_nil ?_
          refine ⟨S, kk, ws, r[k], x, n, hw, hS, mk.1, mx, mk.2, by rw [List.getElem_map], _, rfl, ?_⟩
          cases h2 : sfB hw.w r[k] x with
          | true =>
            refine ifT ?_
            refine sx_one ?_; refine s1_set h 5 ?_; refine ev_bin ?_; refine ev_name h 5 rfl ?_; refine ev_int ?_; refine od_add ?_
            refine ⟨r.length - (k + 1), by omega, k + 1, h1, rfl, by rw [Int.natCast_add]; rfl, fun j hj hjk => ?_⟩
            by_cases e : j = k
            · subst e; exact h2
            · exact ha j hj (by omega)
          | false =>
            refine ifF ?_
            exact ⟨k, hk, rfl, tw_eq hk ha (fun _ => h2)⟩
        · rw [decide_eq_false (by omega)]; refine ifF ?_; refine ifF ?_
          exact ⟨k, hk, rfl, tw_eq hk ha (fun z => absurd z h1)⟩
      · rintro ρ' ⟨k, hk, rfl, t1, t2⟩
        refine sx_one ?_; refine s1_insert h 3 rfl ?_; refine ev_name h 5 rfl ?_; refine ev_name h 4 rfl ?_
        refine ⟨k, rfl, by omega, by rw [List.length_map]; omega, _, _, _, rfl, ?_⟩
        rw [o1]
        unfold ins
        rw [t1, t2, List.map_append, List.map_cons, List.map_take, List.map_drop, List.append_assoc]
        rfl
    · obtain ⟨ds, a, b, rfl, rfl⟩ := hI
      refine sx_freeze 3 rfl ?_; refine sx_one ?_; refine s1_ret ?_; refine ev_name h 3 rfl ?_
      rw [List.length_map, List.take_length]
      exact q
def C_tight : Con := fun ss Φ => ∃ (S : List L) (k : Nat) (ws : List (List L)) (hw : Wok S ws), Sok S k ∧ ss = [.val (dT S), .val (dWs ws)] ∧ Φ (dRows (tightR hw.w k))
theorem cal_tight (F : Facts G) : Cal G "tight" 7 C_tight := by
  obtain ⟨f, fd, FD, hg⟩ := F.a_tight
  refine cal_of (lv := 6) FD hg S_tight bd_tight kg_tight (fun ss Φ h => ?_) (fun X T ss Φ h hp hc => ?_)
  · obtain ⟨_, _, _, _, _, rfl, _⟩ := h; rfl
  · obtain ⟨S, k, ws, hw, hS, rfl, q⟩ := hc
    have h6 := hS.k6
    have hl := hS.ln
    refine sx_cons ?_; refine s1_setLc h 2 o_tight0 [3] k_tight0 g_tight0 ?_; refine ei_range1 h 0 F.b_range ?_; refine ev_bin ?_; refine ev_len h 1 F.b_len ?_; refine ev_name h 0 rfl ?_; refine ⟨_, lenW (by omega), ?_⟩; refine ev_int ?_; refine od_div ⟨by decide, by decide⟩ ?_
    have e2 : ((S.length : Int) / 2) = (k : Int) := by omega
    rw [e2]
    refine ⟨_, rfl, by omega, by omega, ?_⟩
    refine LcQ.on (fun k : Nat => PyData.int (0 + (k : Int))) (List.range (k : Int).toNat) (fun _ => true) (fun n => .list ((ord (sfB hw.w) (thr ws n)).map dS)) (by rw [List.length_range]; omega) (fun n hn => ?_) ?_
    · refine ⟨_, fun X' h' => tg_name h' 3 rfl, fun X' h' => ets_nil rfl, fun _ X' h' => ?_⟩
      have hn : n < k := by simpa using hn
      refine ev_call h' (cal_order_of F) 0 ?_; refine ea_val ?_; refine ev_name h' 0 rfl ?_; refine ea_val ?_; refine ev_name h' 1 rfl ?_; refine ea_val ?_; refine ev_call h' (cal_strands_through F) 1 ?_; refine ea_val ?_; refine ev_name h' 1 rfl ?_; refine ea_val ?_; refine ev_name h' 3 rfl ?_; refine ea_nil ?_
      refine ⟨S, ws, n, hw, by omega, by rw [Int.zero_add], ?_⟩; refine ea_nil ?_
      exact ⟨S, k, ws, n, hw, hS, rfl, rfl⟩
    · rw [List.filter_eq_self.mpr (fun _ _ => rfl), Int.toNat_natCast]
      refine sx_one ?_; refine s1_ret ?_; refine ev_callT h 2 F.b_tuple bb_tuple ?_; refine ea_val ?_
      refine ev_lc h o_tight1 [4] k_tight1 g_tight1 ?_; refine ei_list ?_; refine ev_name h 2 rfl ?_; refine ⟨_, rfl, ?_⟩
      refine LcQ.on (fun n : Nat => PyData.list ((ord (sfB hw.w) (thr ws n)).map dS)) (List.range k) (fun _ => true) (fun n => .tuple ((ord (sfB hw.w) (thr ws n)).map dS)) (by rw [List.length_range]; omega) (fun n hn => ?_) ?_
      · refine ⟨_, fun X' h' => tg_name h' 4 rfl, fun X' h' => ets_nil rfl, fun _ X' h' => ?_⟩
        refine ev_callT h' 0 F.b_tuple bb_tuple ?_; refine ea_val ?_; refine ev_name h' 4 rfl ?_; refine ea_nil ?_; refine cd_tupL ?_
        rfl
      · rw [List.filter_eq_self.mpr (fun _ _ => rfl)]
        refine ea_nil ?_; refine cd_tupL ?_
        unfold dRows tightR at q
        rw [List.map_map] at q
        exact q
end
end RW
/-! Dicts whose keys are a text and a pair. -/
namespace DL
open PySem PySem.Spec PyProof.Rows L2
def keyD (t : Str) (a b : Nat) : PyData := .tuple [.str t, .tuple [.int a, .int b]]
def nk (t : Str) (a b : Nat) : NestedKey := .tup [.text t, .tup [.num a, .num b]]
theorem nk_inj {t t' : Str} {a b a' b' : Nat} (h : nk t a b = nk t' a' b') : t = t' ∧ a = a' ∧ b = b' := by
  unfold nk at h
  simp only [NestedKey.tup.injEq, List.cons.injEq, NestedKey.text.injEq, NestedKey.num.injEq, and_true] at h
  exact ⟨h.1, by omega, by omega⟩
section
variable {X : Cx} {pins : List (Addr × Obj)} {σ : L2.St} {H B : Hp} {s : Shared}
theorem key_is (I : Inv X pins σ H s) (e : Same B H) {p : Addr} {t : Str} {a b : Nat} (r : Dt B (.ref p) (keyD t a b)) : NestedIs s.heap (nk t a b) (.ref p) := by
  cases r with
  | tup h1 r1 =>
    cases r1 with
    | cons r2 r1 =>
      cases r1 with
      | cons r3 r1 =>
        cases r1
        cases r2
        cases r3 with
        | tup h2 r4 =>
          cases r4 with
          | cons r5 r4 =>
            cases r4 with
            | cons r6 r4 =>
              cases r4
              cases r5
              cases r6
              obtain ⟨i1, v1, ⟨o1, g1, c1, n1, d1⟩, _⟩ := I.tuple (SqT.of (e _ _ h1))
              obtain ⟨i2, v2, ⟨o2, g2, c2, n2, d2⟩, _⟩ := I.tuple (SqT.of (e _ _ h2))
              obtain ⟨u1, u2, rfl, ⟨t1, rfl⟩, q2⟩ := vals2 v1
              obtain ⟨u3, u4, rfl, ⟨t3, rfl⟩, ⟨t4, rfl⟩⟩ := vals2 v2
              cases q2
              exact .tup g1 c1 d1 (.cons (.text _ _) (.cons (.tup g2 c2 d2 (.cons (.int _ _) (.cons (.int _ _) .nil))) .nil))
theorem nk_depth (t : Str) (a b : Nat) : (nk t a b).depth ≤ 8 := Nat.le_of_ble_eq_true rfl
/-- what a slot holds that holds such a dict -/
def DictP (P : Program) (w : World) (kvs : List ((Str × Nat × Nat) × Int)) : Hp → V → Prop := fun B v => ∃ (p : Addr) (o : Obj) (es : Array DictEntry) (ep : Nat) (xs : List (NestedKey × Addr × Value)), v = .ref p ∧ B p = some (.ext fun h => h.get? p = some o) ∧ o.ExactDict ∧ o.data = .dict es ep ∧
  es.toList = xs.map (entryOfKey (nestedKind P w)) ∧ (xs.map (·.1)).Nodup ∧ Paired (fun (k : (Str × Nat × Nat) × Int) (x : NestedKey × Addr × Value) => x.1 = nk k.1.1 k.1.2.1 k.1.2.2 ∧ Dt B (.ref x.2.1) (keyD k.1.1 k.1.2.1 k.1.2.2) ∧ ∃ t, x.2.2 = .int k.2 t) kvs xs
theorem DictP.mono {P : Program} {w : World} {kvs : List ((Str × Nat × Nat) × Int)} {B' : Hp} {v : V} (h : DictP P w kvs B v) (e : Same B B') : DictP P w kvs B' v := by
  obtain ⟨p, o, es, ep, xs, h1, h2, h3, h4, h5, h6, h7⟩ := h
  exact ⟨p, o, es, ep, xs, h1, e _ _ h2, h3, h4, h5, h6, L2.Paired.mapP h7 fun a b q => ⟨q.1, q.2.1.mono e, q.2.2⟩⟩
theorem paired_mem {α β : Type} {R : α → β → Prop} : ∀ {l : List α} {r : List β}, Paired R l r → ∀ y ∈ r, ∃ x ∈ l, R x y
  | _, _, .nil, _, h => by simp at h
  | _, _, .cons a t, y, h => by
    rcases List.mem_cons.mp h with rfl | h
    · exact ⟨_, List.mem_cons_self, a⟩
    · obtain ⟨x, hx, q⟩ := paired_mem t y h
      exact ⟨x, List.mem_cons_of_mem _ hx, q⟩
theorem at_key {B : Hp} : ∀ {kvs : List ((Str × Nat × Nat) × Int)} {xs : List (NestedKey × Addr × Value)} {k : Str × Nat × Nat} {z : Int}, Paired (fun (k : (Str × Nat × Nat) × Int) (x : NestedKey × Addr × Value) => x.1 = nk k.1.1 k.1.2.1 k.1.2.2 ∧ Dt B (.ref x.2.1) (keyD k.1.1 k.1.2.1 k.1.2.2) ∧ ∃ t, x.2.2 = .int k.2 t) kvs xs →
    kvs.lookup k = some z → ∃ p t, atKey xs (nk k.1 k.2.1 k.2.2) = some (p, .int z t)
  | _, _, _, _, .nil, h => by simp at h
  | (k', z') :: kvs, x :: xs, k, z, .cons a t, h => by
    obtain ⟨e1, _, t0, e2⟩ := a
    by_cases e : k = k'
    · subst e
      rw [List.lookup_cons_self] at h
      cases h
      refine ⟨x.2.1, t0, ?_⟩
      show Option.map _ (List.find? _ (x :: xs)) = _
      rw [List.find?_cons_of_pos (by simpa using e1)]
      exact congrArg some (Prod.ext rfl e2)
    · have hb : (k == k') = false := by simpa using e
      rw [List.lookup_cons, hb] at h
      obtain ⟨p, t1, q⟩ := at_key t h
      refine ⟨p, t1, ?_⟩
      show Option.map _ (List.find? _ (x :: xs)) = _
      have ne : ¬ x.1 = nk k.1 k.2.1 k.2.2 := fun z => by
        rw [e1] at z
        obtain ⟨q1, q2, q3⟩ := nk_inj z
        exact e (Prod.ext q1.symm (Prod.ext q2.symm q3.symm))
      rw [List.find?_cons_of_neg (by simpa using ne)]
      exact q
def rGetD (P : Program) (w : World) : R2 := fun x y H Q => ∃ (B : Hp) (kvs : List ((Str × Nat × Nat) × Int)) (k : Str × Nat × Nat) (z : Int), Same B H ∧ DictP P w kvs B x ∧ Dt B y (keyD k.1 k.2.1 k.2.2) ∧ kvs.lookup k = some z ∧ Q (.int z) H
theorem ix_getD (hu : X.A.units + 65 < cLine) : IxR X (rGetD X.prog X.w) := by
  intro value slice pins s σ H x y v u Q I rx ry h hs
  obtain ⟨B, kvs, k, z, e, ⟨p, o, es, ep, xs, rfl, hp, ex, hd, he, hn, pr⟩, r, hl, q⟩ := h
  obtain rfl : v = Value.ref p := rx
  obtain ⟨py, rfl⟩ : ∃ py, y = .ref py := by
    cases r with
    | tup h1 r1 => exact ⟨_, rfl⟩
  obtain rfl : u = Value.ref py := ry
  have ho : s.heap.get? p = some o := (I.hok p _ (e _ _ hp)).1
  have dh : s.heap.DictOfH (nestedKind X.prog X.w) p xs := ⟨o, es, ep, ho, ex, hd, he, fun x hx => by
    obtain ⟨kv, _, e1, r1, _⟩ := paired_mem pr x hx
    rw [e1]
    exact ⟨key_is I e r1, nk_depth _ _ _⟩, hn⟩
  obtain ⟨pa, t, hat⟩ := at_key pr hl
  refine tail_any dh.typeIs slot_dict_getitem.lookup (wpAny_getItem_heap (knd := nestedKind X.prog X.w) ?_ (k := nk k.1 k.2.1 k.2.2) ⟨key_is I e r, nk_depth _ _ _⟩ dh hat ⟨.int z, H, I.tok _, ⟨t, rfl⟩, q⟩) hs
  show X.A.in1.units + 8 < cLine
  show X.A.units + 1 + 8 < cLine
  omega
end
section
variable {G : Glb} {N : List Str} {sc : Scope} {ks : List (Option NameKind)} {gs : List Str} {fc : Bool} {lv : Nat} {X : Cx} {T : Tape} {ρ : List S} {Φ : PyData → Prop} {O : Out} {p pos : Pos} {e : Expr}
/-- where[key] -/
theorem ev_getD (h : XOk G N sc ks gs fc lv X) (i : Nat) {x : Str} {k : NameKind} {kvs : List ((Str × Nat × Nat) × Int)} (hr : ρ[i]? = some (.obj (DictP G.P G.w kvs))) (he : Ev X T ρ e fun d => ∃ (c : Str × Nat × Nat) (z : Int), d = keyD c.1 c.2.1 c.2.2 ∧ kvs.lookup c = some z ∧ Φ (.int z))
    (hN : N[i]? = some x := by rfl) (hk : ks[i]? = some (some k) := by rfl) (hv : visK k = true := by rfl) (hs : PlainIx e := by exact fun _ _ => rfl) : Ev X T ρ (.Subscript (.Name x p) e pos) Φ := by
  intro A σ B H Q s kQ
  have hd := h.hk i x k hN hk
  have hu : X.A.units + 65 < cLine := by have := h.room.un; omega
  obtain ⟨v, ev, P0⟩ := s.sl i _ hr
  refine we_of (pe_ix (ix_getD hu) (pe_var (by rw [h.eN]; exact hN) (h.vis hN hk hv) hd.2.1 hd.2.2) pe_we hs) ⟨v, ev, ?_⟩
  refine he A σ B H _ s fun w d B1 H1 s1 r q => ?_
  obtain ⟨c, z, rfl, hl, q⟩ := q
  exact ⟨B1, kvs, c, z, s1.e, by rw [h.eP, h.ew]; exact P0 B1 s1.b, r, hl, (kQ.step s1).now s1.e s1.t (.int z) q⟩
/-- a slot gets another thing -/
theorem Sl.setG {A : Hp × Hp} {σ : L2.St} {B H : Hp} (s : Sl T A σ B H ρ) {i : Nat} {v : V} {x : S} (nx : ∀ ds, x ≠ .own ds) (hv : Sv T B H x (some (some v))) : Sl T A (σ.set i (some v)) B H (ρ.set i x) := by
  have at_ : ∀ {j : Nat} {y : S}, (ρ.set i x)[j]? = some y → (j = i ∧ y = x ∧ (σ.set i (some v))[j]? = some (some v)) ∨ (ρ[j]? = some y ∧ (σ.set i (some v))[j]? = σ[j]?) := fun {j y} hy => by
    by_cases z : i = j
    · subst z
      have hl : i < ρ.length := by simpa using (List.getElem?_eq_some_iff.mp hy).1
      rw [List.getElem?_set_self hl] at hy
      exact .inl ⟨rfl, (Option.some.inj hy).symm, by rw [List.getElem?_set_self (by rw [s.len]; exact hl)]⟩
    · rw [List.getElem?_set_ne z] at hy
      exact .inr ⟨hy, by rw [List.getElem?_set_ne z]⟩
  have own : ∀ {j : Nat} {ds : List PyData}, (ρ.set i x)[j]? = some (.own ds) → ρ[j]? = some (.own ds) ∧ (σ.set i (some v))[j]? = σ[j]? := fun {j ds} hy => by
    rcases at_ hy with ⟨_, e, _⟩ | q
    · exact absurd e.symm (nx ds)
    · exact q
  refine ⟨by simp [s.len], s.e, s.t, fun j y hy => ?_, fun j k p ds es n h1 h2 h3 h4 => ?_, fun j p ds h1 h2 => ?_, s.anc⟩
  · rcases at_ hy with ⟨_, rfl, e⟩ | ⟨q, e⟩
    · rw [e]; exact hv
    · rw [e]; exact s.sl j y q
  · have a := own h1
    have b := own h2
    rw [a.2] at h3
    rw [b.2] at h4
    exact s.ne j k p ds es n a.1 b.1 h3 h4
  · have a := own h1
    rw [a.2] at h2
    exact s.fr j p ds a.1 h2
/-- pairs of a key and a number, as they stand -/
theorem pairs_at {B H : Hp} {pins : List (Addr × Obj)} {σ : L2.St} {s : Shared} (I : Inv X pins σ H s) (e : Same B H) : ∀ {kvs : List ((Str × Nat × Nat) × Int)} {vs : List V} {us : List Value}, DtA B vs (kvs.map fun k => .tuple [keyD k.1.1 k.1.2.1 k.1.2.2, .int k.2]) → Vals vs us →
    ∃ ts : List (Addr × NestedKey × Addr × Value), us = ts.map (fun t => Value.ref t.1) ∧ Paired (fun (k : (Str × Nat × Nat) × Int) (x : NestedKey × Addr × Value) => x.1 = nk k.1.1 k.1.2.1 k.1.2.2 ∧ Dt B (.ref x.2.1) (keyD k.1.1 k.1.2.1 k.1.2.2) ∧ ∃ t, x.2.2 = .int k.2 t) kvs (ts.map (·.2)) ∧ ∀ t ∈ ts, s.heap.IsTuple t.1 #[.ref t.2.2.1, t.2.2.2]
  | [], _, _, r, rv => by
    cases r
    cases rv
    exact ⟨[], rfl, .nil, fun t h => by simp at h⟩
  | k :: kvs, _, _, r, rv => by
    cases r with
    | cons r1 r =>
      cases rv with
      | cons w1 rv =>
        obtain ⟨ts, e1, e2, e3⟩ := pairs_at I e r rv
        cases r1 with
        | tup h1 r2 =>
          rename_i a xs
          cases w1
          cases r2 with
          | cons r3 r2 =>
            cases r2 with
            | cons r4 r2 =>
              cases r2
              cases r4
              obtain ⟨i1, v1, pl, _⟩ := I.tuple (SqT.of (e _ _ h1))
              obtain ⟨u1, u2, rfl, q1, ⟨t4, rfl⟩⟩ := vals2 v1
              cases r3 with
              | @tup py ys _ h5 r5 =>
                obtain rfl : u1 = Value.ref py := q1
                refine ⟨(a, nk k.1.1 k.1.2.1 k.1.2.2, py, .int k.2 t4) :: ts, by rw [e1]; rfl, .cons ⟨rfl, .tup h5 r5, t4, rfl⟩ e2, fun t ht => ?_⟩
                rcases List.mem_cons.mp ht with rfl | ht
                · exact pl
                · exact e3 t ht
theorem ext_ok {P : Program} {w : World} {H : Hp} {h : Heap} {p : Addr} {o : Obj} (e : h.get? p = some o) : ObjOk P w H h p (.ext fun h => h.get? p = some o) := ⟨e, ⟨o, e⟩, fun h1 h2 a b => b o a⟩
/-- x = dict(a list of pairs) -/
theorem s1_setDict (h : XOk G N sc ks gs fc lv X) (i j : Nat) {x : Str} {k : NameKind} {px pn pc : Pos} (hm : G.mg "dict" = none) (he : Ev X T ρ e fun d => ∃ kvs : List ((Str × Nat × Nat) × Int), d = .list (kvs.map fun k => .tuple [keyD k.1.1 k.1.2.1 k.1.2.2, .int k.2]) ∧ (kvs.map (·.1)).Nodup ∧ kvs.length ≤ 100000 ∧ O.nx (ρ.set i (.obj (DictP G.P G.w kvs))))
    (hN : N[i]? = some x := by rfl) (hk : ks[i]? = some (some k) := by rfl) (hv : locK fc k = true := by rfl) (hg : gs[j]? = some ("dict" : Str) := by rfl) (hs : starEach [e] X.env = (false, eval e X.env) :: starEach [] X.env := by rfl)
    (hw : swapsWith (.Call (.Name "dict" pn) [e] [] pc) (some (.Name x px)) pos.line X.env = pure false := by rfl) : S1 X T ρ (.Assign [.Name x px] (.Call (.Name "dict" pn) [e] [] pc) pos) O := by
  intro A σ B H D s kD
  have l := h.loc hN hk hv
  have g := h.hg j _ hg
  have hu : X.A.units + 65 < cLine := by have := h.room.un; omega
  have call : CallR X (.type "dict") (WC X (.type "dict")) := call_wc
  refine ws_of (ps_set (by rw [h.eN]; exact h.nd) (by rw [h.eN]; exact hN) l.1 (pe_callTy call (h.gl hg) (by rw [h.eg]; exact hm) (by decide +kernel) (pa_cons pe_we pa_nil hs) g.2.2 g.2.1 hs rfl) hw l.2) ?_
  refine he A σ B H _ s fun v d B1 H1 s1 r q => ?_
  obtain ⟨kvs, rfl, nd, few, q⟩ := q
  intro pins sh σ' us I rv
  cases r with
  | lst h1 r1 =>
    rename_i a vs
    obtain ⟨u, rfl, ru⟩ := vals1 rv
    obtain rfl : u = Value.ref a := ru
    obtain ⟨its, rits, pl, hz⟩ := I.list (SqL.of (s1.e _ _ h1))
    obtain ⟨ts, rfl, pr, tup⟩ := pairs_at I s1.e r1 rits
    have lts : ts.length = kvs.length := by have := pr.length; simpa using this.symm
    have nd2 : ((ts.map (·.2)).map (·.1)).Nodup := by
      have e1 : (ts.map (·.2)).map (·.1) = kvs.map fun k => nk k.1.1 k.1.2.1 k.1.2.2 := by
        clear nd few q tup rits pl hz lts r1 rv
        generalize ts.map (·.2) = xs at pr
        induction pr with
        | nil => rfl
        | cons a t ih => rw [List.map_cons, List.map_cons, ih, a.1]
      rw [e1]
      have e2 : (kvs.map fun k => nk k.1.1 k.1.2.1 k.1.2.2) = (kvs.map (·.1)).map fun c => nk c.1 c.2.1 c.2.2 := by rw [List.map_map]; rfl
      rw [e2]
      refine List.pairwise_map.mpr (nd.imp fun {c c'} ne z => ne ?_)
      obtain ⟨q1, q2, q3⟩ := nk_inj z
      exact Prod.ext q1 (Prod.ext q2 q3)
    have kis : ∀ x ∈ ts.map (·.2), ∀ h' : Heap, (∀ b o, sh.heap.get? b = some o → h'.get? b = some o) → (nestedKind X.prog X.w).is h' x.1 x.2.1 := fun x hx h' keep => by
      obtain ⟨kv, _, e1, r2, _⟩ := paired_mem pr x hx
      rw [e1]
      exact ⟨NestedIs.at (fun b o _ _ eb _ => keep b o eb) _ _ (key_is I s1.e r2), nk_depth _ _ _⟩
    refine call_dict_pairsH (knd := nestedKind X.prog X.w) (ps := ts.map (·.2)) (PairArg.list (prog := X.prog) (w := X.w) a (ts.map fun t => Value.ref t.1).toArray (fun n => ((ts[n]?).map (·.1)).getD 0) (ts.map fun t => (Value.ref t.2.2.1, t.2.2.2))) (I.ok.hd h.calm) ?_ ?_ ?_ ?_ ?_ fun h' tk hd' keep => ?_
    · show X.A.units + 1 + 1 + 8 < cLine
      omega
    · refine ⟨?_, by simp, fun n k v hn => ?_⟩
      · obtain ⟨o, n1, g1, c1, d0, d1⟩ := pl
        exact ⟨o, n1, g1, c1, d0, d1⟩
      · rw [List.getElem?_map, Option.map_eq_some_iff] at hn
        obtain ⟨t, ht, e⟩ := hn
        cases e
        refine ⟨by simp [ht], .inl ?_⟩
        show sh.heap.IsTuple (((ts[n]?).map (·.1)).getD 0) _
        rw [ht]; exact tup t (List.mem_of_getElem? ht)
    · refine ⟨by simp, fun n k v hn => ?_⟩
      have hn : (ts.map fun t => (Value.ref t.2.2.1, t.2.2.2))[n]? = some (k, v) := hn
      rw [List.getElem?_map, Option.map_eq_some_iff] at hn
      obtain ⟨t, ht, e⟩ := hn
      cases e
      exact ⟨t.2.1, t.2.2.1, by rw [List.getElem?_map, ht]; rfl, rfl⟩
    · intro h' keep x hx
      exact kis x hx h' fun b o eb => keep b o (Nat.ne_of_lt (Heap.lt_size eb)) (fun z => by cases z) eb
    · rw [List.length_map, lts]; exact Nat.le_trans few (by decide)
    · rw [storedAllH_nil_of_nodup _ nd2] at hd'
      obtain ⟨o, es, ep, g1, ex, hd, hes, _, _⟩ := hd'
      have fr : H1 sh.heap.objs.size = none := I.hok.fresh (Nat.le_refl _)
      have I2 : Inv X pins σ' (upd H1 sh.heap.objs.size (.ext fun h => h.get? sh.heap.objs.size = some o)) { sh with heap := h', toks := tk } := I.laid (fun b u eb => keep b u (fun z => by cases z) eb) (Nat.le_refl _) (ext_ok g1)
      have st := Step.new (o := .ext fun h => h.get? sh.heap.objs.size = some o) s1.e s1.t fr
      refine ⟨.ref sh.heap.objs.size, _, I2, rfl, ?_⟩
      rw [h.eP, h.ew] at hes
      have dp : DictP G.P G.w kvs (upd B1 sh.heap.objs.size (.ext fun h => h.get? sh.heap.objs.size = some o)) (.ref sh.heap.objs.size) := ⟨_, o, es, ep, _, rfl, upd_same, ex, hd, hes, nd2, L2.Paired.mapP pr fun a b q => ⟨q.1, q.2.1.mono st.b, q.2.2⟩⟩
      have sl := ((s.step s1).step st).setG (i := i) (v := .ref sh.heap.objs.size) (x := .obj (DictP G.P G.w kvs)) (fun ds z => by cases z) ⟨_, rfl, fun B' sm => dp.mono sm⟩
      exact kD.nx _ _ _ _ sl q
end
end DL
namespace RW
open PySem PySem.Spec PyProof.Rows L2 DL
/-! ### shapes -/
theorem lay_all {β : Type} {f : β → PyData} (h : ∀ b, (f b).canLay0 = true) : ∀ l : List β, PyData.canLayAll0 (l.map f) = true
  | [] => rfl
  | b :: l => by rw [List.map_cons, PyData.canLayAll0, h b, lay_all h l]; rfl
theorem dep_all {β : Type} {f : β → PyData} {n : Nat} (h : ∀ b, (f b).depth ≤ n) : ∀ l : List β, PyData.depthAll (l.map f) ≤ n
  | [] => by simp [PyData.depthAll]
  | b :: l => by
    have h1 := h b
    have h2 := dep_all h l
    rw [List.map_cons, PyData.depthAll]
    omega
theorem shaped_list {β : Type} {f : β → PyData} {n : Nat} (hn : n ≤ 60) (h : ∀ b, (f b).canLay0 = true) (h' : ∀ b, (f b).depth ≤ n) (l : List β) : SeqAt.shaped (.list (l.map f)) = true := by
  unfold SeqAt.shaped
  have a : (PyData.list (l.map f)).canLay0 = true := lay_all h l
  have b : (PyData.list (l.map f)).depth ≤ 64 := by
    rw [PyData.depth]
    have := dep_all h' l
    omega
  rw [a, decide_eq_true b]; rfl
theorem shaped_dS (l : List St2) : SeqAt.shaped (.list (l.map dS)) = true := shaped_list (n := 3) (by decide) (fun b => rfl) (fun b => Nat.le_of_ble_eq_true rfl) l
theorem eqv_same {d : PyData} (h : SeqAt.shaped d = true) : PyData.eqv d d = true := SeqAt.eqv_refl d (SeqAt.canLay_of_shaped h)
/-! ### drawings as data -/
structure DrOk (k : Nat) (ws : List (List L)) (rows : List (List St2)) : Prop where
  len : rows.length = k
  ok : ∀ n, n < k → (rows.getD n []).Perm (thr ws n)
theorem DrOk.rows {S : List L} {k : Nat} {ws : List (List L)} {rows : List (List St2)} (h : DrOk k ws rows) (hS : Sok S k) : RowsOk S ws rows := fun n ⟨c, hc, e⟩ => h.ok n (by rw [← e]; exact (hS.mem c).mp hc)
theorem tight_dr {S : List L} {k : Nat} {ws : List (List L)} (h : Ways S ws) (hS : Sok S k) : DrOk k ws (tightR h k) := ⟨by simp [tightR], fun n hn => by
  unfold tightR
  rw [List.getD_eq_getElem?_getD, List.getElem?_map, List.getElem?_range hn]
  exact ord_perm _⟩
theorem thr_lt (ws : List (List L)) (n : Nat) : (thr ws n).Pairwise slt := (sds_lt ws).filter _
theorem sds_len3 {S : List L} {ws : List (List L)} (h : Wok S ws) : (sds ws).length ≤ 192 := by
  have := sds_len h ws.length (Nat.le_refl _)
  have := h.n
  unfold sds
  omega
theorem row_len {S : List L} {k : Nat} {ws : List (List L)} {rows : List (List St2)} (hw : Wok S ws) (h : DrOk k ws rows) {n : Nat} (hn : n < k) : (rows.getD n []).length ≤ 192 := by
  rw [(h.ok n hn).length_eq]
  exact Nat.le_trans (List.length_filter_le ..) (sds_len3 hw)
def encP (p : L × St2) : PyData := .tuple [dT [p.1], dS p.2]
theorem small_idx (c : L) : (("abcdef" : Str)).cps.toList.idxOf (en (lo c)) = (lo c).val := by revert c; decide +kernel
theorem small_mem (c : L) : en (lo c) ∈ (("abcdef" : Str)).cps.toList := by revert c; decide +kernel
section
variable {G : Glb}
def C_is_drawing : Con := fun ss Φ => ∃ (S : List L) (k : Nat) (ws : List (List L)) (rows : List (List St2)), Sok S k ∧ Wok S ws ∧ DrOk k ws rows ∧ ss = [.val (dT S), .val (dWs ws), .val (dRows rows)] ∧ Φ (.bool true)
theorem cal_is_drawing (F : Facts G) : Cal G "is_drawing" 3 C_is_drawing := by
  obtain ⟨f, fd, FD, hg⟩ := F.a_is_drawing
  refine cal_of (lv := 2) FD hg S_is_drawing bd_is_drawing kg_is_drawing (fun ss Φ h => ?_) (fun X T ss Φ h hp hc => ?_)
  · obtain ⟨_, _, _, _, _, _, _, rfl, _⟩ := h; rfl
  · obtain ⟨S, k, ws, rows, hS, hw, hD, rfl, q⟩ := hc
    have h6 := hS.k6
    have hl := hS.ln
    have hr := hD.len
    have hu := un_ok h
    refine sx_cons ?_; refine s1_if ?_; refine et_w ?_; refine ew_or ?_; refine et_not ?_; refine et_val ?_; refine ev_isi h 0 1 F.b_isinstance F.b_tuple bb_tuple ?_; refine ev_name h 2 rfl ?_; refine ⟨_, kb_tt, _, rfl, ?_⟩; refine ifF ?_
    refine ew_or1 ?_; refine et_cmp ?_; refine ev_len h 2 F.b_len ?_; refine ev_name h 2 rfl ?_; refine ⟨k, by simp [lenD, dRows, hr], ?_⟩; refine ev_bin ?_; refine ev_len h 2 F.b_len ?_; refine ev_name h 0 rfl ?_; refine ⟨_, lenW (by omega), ?_⟩; refine ev_int ?_; refine od_div ⟨by decide, by decide⟩ ?_; refine od_neI ⟨_, rfl, ?_⟩
    rw [decide_eq_true (by omega)]; refine ifF ?_; refine sx_nil ?_
    refine sx_cons ?_; refine s1_for (is := [3, 4]) hp h ?_; refine ei_enumT h 3 F.b_enumerate ?_; refine ev_name h 2 rfl ?_; refine ⟨_, rfl, ?_⟩
    refine ⟨fun i ρ => ∃ a b, ρ = [.val (dT S), .val (dWs ws), .val (dRows rows), a, b, .emp], ⟨_, _, rfl⟩, fun i d ρ hd hI => ?_, fun ρ hI => ?_⟩
    · obtain ⟨a, b, rfl⟩ := hI
      have hi : i < k := by have := (List.getElem?_eq_some_iff.mp hd).1; simpa [enumD_length, hr] using this
      have hrow := row_len hw hD hi
      have hperm := hD.ok i hi
      have eg : rows[i]? = some (rows.getD i []) := by rw [List.getD_eq_getElem?_getD, List.getElem?_eq_getElem (by omega)]; rfl
      rw [enumD_get (d := .tuple ((rows.getD i []).map dS)) (by rw [List.getElem?_map, eg]; rfl)] at hd
      cases hd
      generalize rows.getD i [] = row at *
      refine tg_pair h 3 4 ?_
      refine sx_cons ?_; refine s1_if ?_; refine et_w ?_; refine ew_or ?_; refine et_not ?_; refine et_val ?_; refine ev_isi h 0 1 F.b_isinstance F.b_tuple bb_tuple ?_; refine ev_name h 4 rfl ?_; refine ⟨_, kb_tt, _, rfl, ?_⟩; refine ifF ?_
      refine ew_or1 ?_; refine et_not ?_; refine et_val ?_; refine ev_callB h 4 F.b_all bb_all ?_; refine ea_val ?_
      refine ev_lc h o_is_drawing0 [5] k_is_drawing0 g_is_drawing0 ?_; refine ei_tup ?_; refine ev_name h 4 rfl ?_; refine ⟨_, rfl, ?_⟩
      refine LcQ.on dS row (fun _ => true) (fun _ => .bool true) (by omega) (fun x hx => ?_) ?_
      · have mx : x ∈ sds ws := (mem_thr.mp (hperm.mem_iff.mp hx)).1
        refine ⟨_, fun X' h' => tg_name h' 5 rfl, fun X' h' => ets_nil rfl, fun _ X' h' => ?_⟩
        refine ev_call h' (cal_is_strand F) 0 ?_; refine ea_val ?_; refine ev_name h' 1 rfl ?_; refine ea_val ?_; refine ev_name h' 5 rfl ?_; refine ea_nil ?_
        exact ⟨S, ws, x, hw, mx, rfl, rfl⟩
      · refine ea_nil ?_
        have e : ((row.filter fun _ => true).map fun _ => PyData.bool true) = (row.map fun _ => true).map .bool := by rw [List.filter_eq_self.mpr (fun _ _ => rfl), List.map_map]; rfl
        rw [e]
        refine cd_all h.calm ⟨_, rfl, ?_⟩
        have e2 : (row.map fun _ => true).all id = true := by simp
        rw [e2]; refine ifF ?_; refine sx_nil ?_
        refine sx_one ?_; refine s1_if ?_; refine et_cmp ?_; refine ev_callB h 5 F.b_sorted bb_sorted ?_; refine ea_val ?_; refine ev_name h 4 rfl ?_; refine ea_nil ?_
        refine cd_sortedT dS row (by omega) dS_alike (PySem.W.Sortable.tuples fun b => ⟨_, _, rfl⟩) (fun b => Nat.le_of_ble_eq_true rfl) (by omega) ?_
        rw [sort_dS hperm (thr_lt ws i)]
        refine ev_call h (cal_strands_through F) 6 ?_; refine ea_val ?_; refine ev_name h 1 rfl ?_; refine ea_val ?_; refine ev_name h 3 rfl ?_; refine ea_nil ?_
        refine ⟨S, ws, i, hw, by omega, rfl, ?_⟩
        refine od_ne (by omega) (shaped_dS _) (shaped_dS _) ⟨_, rfl, ?_⟩
        rw [eqv_same (shaped_dS _)]; refine ifF ?_; refine sx_nil ?_
        exact ⟨_, _, rfl⟩
    · obtain ⟨a, b, rfl⟩ := hI
      refine sx_one ?_; refine s1_ret ?_; refine ev_bl ?_
      exact q
def C_points : Con := fun ss Φ => ∃ (S : List L) (k : Nat) (ws : List (List L)) (rows : List (List St2)), Sok S k ∧ Wok S ws ∧ DrOk k ws rows ∧ ss = [.val (dT S), .val (dWs ws), .val (dRows rows)] ∧ Φ (.list ((pts S rows).map encP))
theorem rowE_len {S : List L} {k : Nat} {ws : List (List L)} {rows : List (List St2)} (hw : Wok S ws) (hS : Sok S k) (h : DrOk k ws rows) {e : L} (he : e ∈ S) : (rowE rows e).length ≤ 192 := by
  have := row_len hw h ((hS.mem e).mp he)
  unfold rowE
  split
  · exact this
  · rw [List.length_reverse]; exact this
theorem pts_len {S : List L} {k : Nat} {ws : List (List L)} {rows : List (List St2)} (hw : Wok S ws) (hS : Sok S k) (h : DrOk k ws rows) : ∀ l : List L, (∀ e ∈ l, e ∈ S) → (pts l rows).length ≤ l.length * 192
  | [], _ => by simp [pts]
  | e :: l, hl => by
    have ih := pts_len hw hS h l (fun z hz => hl z (List.mem_cons_of_mem _ hz))
    have r := rowE_len hw hS h (hl e List.mem_cons_self)
    unfold pts at ih ⊢
    rw [List.flatMap_cons, List.length_append, List.length_map, List.length_cons]
    omega
theorem pts_snoc (l : List L) (e : L) (rows : List (List St2)) : pts (l ++ [e]) rows = pts l rows ++ (rowE rows e).map fun x => (e, x) := by
  unfold pts
  rw [List.flatMap_append]; simp
theorem cal_points (F : Facts G) : Cal G "points" 1 C_points := by
  obtain ⟨f, fd, FD, hg⟩ := F.a_points
  refine cal_of (lv := 0) FD hg S_points bd_points kg_points (fun ss Φ h => ?_) (fun X T ss Φ h hp hc => ?_)
  · obtain ⟨_, _, _, _, _, _, _, rfl, _⟩ := h; rfl
  · obtain ⟨S, k, ws, rows, hS, hw, hD, rfl, q⟩ := hc
    have h6 := hS.k6
    have hl := hS.ln
    have hr := hD.len
    refine sx_cons ?_; refine s1_setO h 3 ?_; refine ea_nil ?_; refine ⟨[], rfl, Nat.zero_le _, ?_⟩
    refine sx_cons ?_; refine s1_for (is := [4]) hp h ?_; refine ei_str ?_; refine ev_name h 0 rfl ?_; refine ⟨_, rfl, ?_⟩
    refine ⟨fun i ρ => ∃ ds a b, ρ = [.val (dT S), .val (dWs ws), .val (dRows rows), .own ds, a, b, .emp] ∧ ds = (pts (S.take i) rows).map encP, ⟨_, _, _, rfl, rfl⟩, fun i d ρ hd hI => ?_, fun ρ hI => ?_⟩
    · obtain ⟨ds, a, b, rfl, rfl⟩ := hI
      rw [tx_list, List.map_map, List.getElem?_map, Option.map_eq_some_iff] at hd
      obtain ⟨e, he, rfl⟩ := hd
      have hi := (List.getElem?_eq_some_iff.mp he).1
      have me : e ∈ S := List.mem_of_getElem? he
      have hk := (hS.mem e).mp me
      have tk : S.take (i + 1) = S.take i ++ [e] := by rw [List.take_add_one, he]; rfl
      have rl := rowE_len hw hS hD me
      have pl := pts_len hw hS hD (S.take i) (fun z hz => List.mem_of_mem_take hz)
      have pl2 : (pts (S.take i) rows).length ≤ 12 * 192 := by
        have : (S.take i).length ≤ 12 := by rw [List.length_take]; omega
        exact Nat.le_trans pl (Nat.mul_le_mul_right _ this)
      refine tg_name h 4 ?_
      refine sx_cons ?_; refine s1_set h 5 ?_; refine ev_ix ?_; refine ev_name h 2 rfl ?_; refine ev_sindex ?_; refine ev_gstr h 0 F.s_SMALL_drawings ?_; refine ⟨_, rfl, ?_⟩
      refine ev_lower ?_; refine ev_name (d := dT [e]) h 4 rfl ?_; refine ⟨_, rfl, Nat.le_of_ble_eq_true rfl, ?_⟩; rw [lo_tx]; refine ⟨en (lo e), rfl, small_mem e, ?_⟩
      rw [small_idx]
      refine ixD_T (by rw [List.length_map]; omega) ?_
      have er : (rows.map fun r => PyData.tuple (r.map dS))[(lo e).val]'(by rw [List.length_map]; omega) = .tuple ((rows.getD (lo e).val []).map dS) := by
        rw [List.getElem_map, List.getD_eq_getElem?_getD, List.getElem?_eq_getElem (by omega)]; rfl
      rw [er]
      refine sx_one ?_; refine s1_if ?_; refine et_cmp ?_; refine ev_name (d := dT [e]) h 4 rfl ?_; refine ev_gstr h 0 F.s_SMALL_drawings ?_; refine od_small ⟨_, rfl, ?_⟩
      unfold rowE at rl
      cases hs : small e with
      | true =>
        rw [hs, if_pos rfl] at rl
        refine ifT ?_; refine sx_one ?_; refine s1_extend h 3 rfl ?_; refine ev_lc h o_points0 [6] k_points0 g_points0 ?_; refine ei_tup ?_; refine ev_name h 5 rfl ?_; refine ⟨_, rfl, ?_⟩
        refine LcQ.on dS (rows.getD (lo e).val []) (fun _ => true) (fun x => encP (e, x)) (by omega) (fun x hx => ?_) ?_
        · refine ⟨_, fun X' h' => tg_name h' 6 rfl, fun X' h' => ets_nil rfl, fun _ X' h' => ?_⟩
          refine ev_tup ?_; refine ea_val ?_; refine ev_name (d := dT [e]) h' 4 rfl ?_; refine ea_val ?_; refine ev_name h' 6 rfl ?_; refine ea_nil ?_
          exact ⟨_, rfl, Nat.le_of_ble_eq_true rfl, rfl⟩
        · rw [List.filter_eq_self.mpr (fun _ _ => rfl)]
          refine ⟨_, rfl, by rw [List.length_map, List.length_map]; omega, _, _, _, rfl, ?_⟩
          rw [tk, pts_snoc, List.map_append, List.map_map]
          unfold rowE
          rw [hs, if_pos rfl]; rfl
      | false =>
        rw [hs, if_neg Bool.false_ne_true] at rl
        refine ifF ?_; refine sx_one ?_; refine s1_extend h 3 rfl ?_; refine ev_lc h o_points1 [6] k_points1 g_points1 ?_; refine ei_tup ?_; refine ev_revT ?_; refine ev_name h 5 rfl ?_; refine ⟨_, rfl, _, rfl, ?_⟩
        rw [← List.map_reverse]
        refine LcQ.on dS (rows.getD (lo e).val []).reverse (fun _ => true) (fun x => encP (e, x)) (by omega) (fun x hx => ?_) ?_
        · refine ⟨_, fun X' h' => tg_name h' 6 rfl, fun X' h' => ets_nil rfl, fun _ X' h' => ?_⟩
          refine ev_tup ?_; refine ea_val ?_; refine ev_name (d := dT [e]) h' 4 rfl ?_; refine ea_val ?_; refine ev_name h' 6 rfl ?_; refine ea_nil ?_
          exact ⟨_, rfl, Nat.le_of_ble_eq_true rfl, rfl⟩
        · rw [List.filter_eq_self.mpr (fun _ _ => rfl)]
          refine ⟨_, rfl, by rw [List.length_map, List.length_map]; omega, _, _, _, rfl, ?_⟩
          rw [tk, pts_snoc, List.map_append, List.map_map]
          unfold rowE
          rw [hs, if_neg Bool.false_ne_true]; rfl
    · obtain ⟨ds, a, b, rfl, rfl⟩ := hI
      refine sx_freeze 3 rfl ?_; refine sx_one ?_; refine s1_ret ?_; refine ev_name h 3 rfl ?_
      rw [List.length_map, tx_list, List.length_map, List.take_length]
      exact q
end
end RW
namespace RW
open PySem PySem.Spec PyProof.Rows L2 DL
/-- numbered from n on -/
def numb {α : Type} : Nat → List α → List (α × Int)
  | _, [] => []
  | n, a :: l => (a, (n : Int)) :: numb (n + 1) l
theorem numb_fst {α : Type} : ∀ (n : Nat) (l : List α), (numb n l).map (·.1) = l
  | _, [] => rfl
  | n, a :: l => by rw [numb, List.map_cons, numb_fst (n + 1) l]
theorem numb_len {α : Type} (n : Nat) (l : List α) : (numb n l).length = l.length := by
  have := congrArg List.length (numb_fst n l)
  simpa using this
theorem numb_lookup {α : Type} [BEq α] [LawfulBEq α] [DecidableEq α] {a : α} : ∀ {n : Nat} {l : List α}, a ∈ l → (numb n l).lookup a = some ((n + l.idxOf a : Nat) : Int)
  | _, [], h => by simp at h
  | n, b :: l, h => by
    rw [numb, idx_cons]
    by_cases e : a = b
    · subst e
      rw [List.lookup_cons_self]; simp
    · have hb : (a == b) = false := by simpa using e
      rw [List.lookup_cons, hb, if_neg (fun z => e z.symm)]
      show List.lookup a (numb (n + 1) l) = _
      rw [numb_lookup ((List.mem_cons.mp h).resolve_left e)]
      congr 2
      omega
theorem numb_get {α : Type} : ∀ {n i : Nat} {l : List α} {a : α}, l[i]? = some a → (numb n l)[i]? = some (a, ((n + i : Nat) : Int))
  | _, _, [], _, h => by simp at h
  | n, 0, b :: l, a, h => by simp at h; subst h; rfl
  | n, i + 1, b :: l, a, h => by
    have := numb_get (n := n + 1) (i := i) (l := l) (a := a) (by simpa using h)
    rw [numb, List.getElem?_cons_succ, this]
    congr 3
    omega
/-- keys of points -/
def kP (p : L × St2) : Str × Nat × Nat := (tx [p.1], p.2.1, p.2.2)
theorem kP_inj {p q : L × St2} (h : kP p = kP q) : p = q := by
  unfold kP at h
  simp only [Prod.mk.injEq] at h
  obtain ⟨a, b, c⟩ := h
  have := tx_inj.mp a
  simp at this
  exact Prod.ext this (Prod.ext b c)
theorem idx_kP (p : L × St2) : ∀ l : List (L × St2), (l.map kP).idxOf (kP p) = l.idxOf p
  | [] => rfl
  | a :: l => by
    rw [List.map_cons, idx_cons, idx_cons, idx_kP p l]
    by_cases h : a = p
    · subst h; simp
    · rw [if_neg h, if_neg (fun z => h (kP_inj z))]
theorem pts_nodup {S : List L} {ws : List (List L)} {rows : List (List St2)} (hr : RowsOk S ws rows) : ∀ {l : List L}, l.Nodup → (∀ e ∈ l, e ∈ S) → (pts l rows).Nodup
  | [], _, _ => List.nodup_nil
  | e :: l, hn, hl => by
    have hn' := List.nodup_cons.mp hn
    have ih := pts_nodup hr hn'.2 (fun z hz => hl z (List.mem_cons_of_mem _ hz))
    unfold pts at ih ⊢
    rw [List.flatMap_cons, List.nodup_append]
    refine ⟨nodup_map (fun a b e => (Prod.mk.inj e).2) (row_nodup hr (hl e List.mem_cons_self)), ih, fun a ha b hb e' => ?_⟩
    subst e'
    obtain ⟨x, _, rfl⟩ := List.mem_map.mp ha
    obtain ⟨e2, he2, hm⟩ := List.mem_flatMap.mp hb
    obtain ⟨y, _, e3⟩ := List.mem_map.mp hm
    cases e3
    exact hn'.1 he2
theorem mem_pts {S : List L} {rows : List (List St2)} {e : L} {x : St2} (he : e ∈ S) (hx : x ∈ rowE rows e) : (e, x) ∈ pts S rows := List.mem_flatMap.mpr ⟨e, he, List.mem_map.mpr ⟨x, hx, rfl⟩⟩
/-- do_cross -/
def dcB (a b c d : Nat) : Bool := if a < c then decide (c < b) && decide (b < d) else decide (a < d) && decide (d < b)
theorem dcB_iff {p q r s : Nat} (h1 : p ≠ r) (h2 : p ≠ s) (h3 : q ≠ r) (h4 : q ≠ s) (h5 : p ≠ q) (h6 : r ≠ s) : dcB (min p q) (max p q) (min r s) (max r s) = true ↔ X4 p q r s := by
  unfold dcB X4
  by_cases h : min p q < min r s
  · rw [if_pos h, Bool.and_eq_true, decide_eq_true_iff, decide_eq_true_iff]; omega
  · rw [if_neg h, Bool.and_eq_true, decide_eq_true_iff, decide_eq_true_iff]; omega
def encC (S : List L) (ws : List (List L)) (rows : List (List St2)) (x : St2) : PyData :=
  .tuple [dS x, .int (min (posF S rows (bk (lat ws x 0)) x) (posF S rows (lat ws x 1) (mvs ws x 1)) : Nat), .int (max (posF S rows (bk (lat ws x 0)) x) (posF S rows (lat ws x 1) (mvs ws x 1)) : Nat)]
def encPr (p : St2 × St2) : PyData := .tuple [dS p.1, dS p.2]
section
variable {S : List L} {k : Nat} {ws : List (List L)} {rows : List (List St2)}
theorem crF_dc (h : Ways S ws) (hr : RowsOk S ws rows) {u v : St2} (hu : u ∈ sds ws) (hv : v ∈ sds ws) (ne : u ≠ v) :
    dcB (min (posF S rows (bk (lat ws u 0)) u) (posF S rows (lat ws u 1) (mvs ws u 1))) (max (posF S rows (bk (lat ws u 0)) u) (posF S rows (lat ws u 1) (mvs ws u 1))) (min (posF S rows (bk (lat ws v 0)) v) (posF S rows (lat ws v 1) (mvs ws v 1))) (max (posF S rows (bk (lat ws v 0)) v) (posF S rows (lat ws v 1) (mvs ws v 1))) = decide (crF S ws rows u v) := by
  have l1 : ∀ {z : St2}, z ∈ sds ws → (sysOf h).on (bk (lat ws z 0)) z := fun hz => on_bk (Y := sysOf h) hz
  have l2 : ∀ {z : St2}, z ∈ sds ws → (sysOf h).on (lat ws z 1) (mvs ws z 1) := fun {z} hz => by
    have := on_l (Y := sysOf h) (mvs_mem hz 1)
    have e : (sysOf h).l (mvs ws z 1) = lat ws z 1 := by show lat ws (mvs ws z 1) 0 = _; rw [lat_mv hz, Int.add_zero]
    rw [e] at this; exact this
  have mne : mvs ws u 1 ≠ mvs ws v 1 := fun z => ne (Sys.mv_inj (Y := sysOf h) hu hv z)
  have a : ∀ {z w : St2}, z ∈ sds ws → w ∈ sds ws → bk (lat ws z 0) ≠ lat ws w 1 ∨ z ≠ mvs ws w 1 := fun {z w} hz hw => by
    by_cases e : z = mvs ws w 1
    · left
      have e2 : lat ws w 1 = lat ws z 0 := by rw [e, lat_mv hw, Int.add_zero]
      rw [e2]; exact bk_ne _
    · exact .inr e
  have D := drOf h hr
  have pn := fun {e e' : L} {x y : St2} (o1 : (sysOf h).on e x) (o2 : (sysOf h).on e' y) (q : e ≠ e' ∨ x ≠ y) => pos_ne (drOf h hr) o1 o2 q
  rw [Bool.eq_iff_iff, decide_eq_true_iff]
  exact dcB_iff (pn (l1 hu) (l1 hv) (.inr ne)) (pn (l1 hu) (l2 hv) (a hu hv)) (Ne.symm (pn (l1 hv) (l2 hu) (a hv hu))) (pn (l2 hu) (l2 hv) (.inr mne)) (pn (l1 hu) (l2 hu) (a hu hu)) (pn (l1 hv) (l2 hv) (a hv hv))
theorem prs_len : ∀ l : List St2, (prs l).length ≤ l.length * l.length
  | [] => by simp [prs]
  | x :: r => by
    have ih := prs_len r
    rw [prs, List.length_append, List.length_map, List.length_cons, Nat.add_mul, Nat.mul_add]
    omega
theorem prs_len3 (hw : Wok S ws) : (prs (sds ws)).length ≤ 36864 := Nat.le_trans (prs_len _) (Nat.mul_le_mul (sds_len3 hw) (sds_len3 hw))
theorem crl_len (hw : Wok S ws) : (crl S ws rows).length ≤ 36864 := Nat.le_trans (List.length_filter_le ..) (prs_len3 hw)
end
section
variable {G : Glb}
def C_chords : Con := fun ss Φ => ∃ (S : List L) (k : Nat) (ws : List (List L)) (rows : List (List St2)), Sok S k ∧ Wok S ws ∧ DrOk k ws rows ∧ ss = [.val (dT S), .val (dWs ws), .val (dRows rows)] ∧ Φ (.list ((sds ws).map (encC S ws rows)))
theorem cal_chords (F : Facts G) : Cal G "chords" 3 C_chords := by
  obtain ⟨f, fd, FD, hg⟩ := F.a_chords
  refine cal_of (lv := 2) FD hg S_chords bd_chords kg_chords (fun ss Φ h => ?_) (fun X T ss Φ h hp hc => ?_)
  · obtain ⟨_, _, _, _, _, _, _, rfl, _⟩ := h; rfl
  · obtain ⟨S, k, ws, rows, hS, hw, hD, rfl, q⟩ := hc
    have h6 := hS.k6
    have hl := hS.ln
    have hr := hD.rows hS
    have pl : (pts S rows).length ≤ 12 * 192 := Nat.le_trans (pts_len hw hS hD S fun e he => he) (Nat.mul_le_mul_right _ (by omega))
    refine sx_cons ?_; refine s1_setDict h 3 0 F.b_dict ?_
    refine ev_lc h o_chords0 [9, 10] k_chords0 g_chords0 ?_; refine ei_enumL h 1 F.b_enumerate ?_; refine ev_call h (cal_points F) 2 ?_; refine ea_val ?_; refine ev_name h 0 rfl ?_; refine ea_val ?_; refine ev_name h 1 rfl ?_; refine ea_val ?_; refine ev_name h 2 rfl ?_; refine ea_nil ?_
    refine ⟨S, k, ws, rows, hS, hw, hD, rfl, _, rfl, ?_⟩
    have en_eq : enumD ((pts S rows).map encP) = (numb 0 (pts S rows)).map fun p => .tuple [.int p.2, encP p.1] := by
      apply List.ext_getElem?
      intro i
      by_cases hi : i < (pts S rows).length
      · rw [enumD_get (d := encP (pts S rows)[i]) (by rw [List.getElem?_map, List.getElem?_eq_getElem hi]; rfl), List.getElem?_map, numb_get (List.getElem?_eq_getElem hi)]
        simp
      · rw [List.getElem?_eq_none (by rw [enumD_length, List.length_map]; omega), List.getElem?_eq_none (by rw [List.length_map, numb_len]; omega)]
    rw [en_eq]
    refine LcQ.on (fun p : (L × St2) × Int => .tuple [.int p.2, encP p.1]) (numb 0 (pts S rows)) (fun _ => true) (fun p => .tuple [encP p.1, .int p.2]) (by rw [numb_len]; omega) (fun p hp => ?_) ?_
    · refine ⟨_, fun X' h' => tg_pair h' 9 10 rfl, fun X' h' => ets_nil rfl, fun _ X' h' => ?_⟩
      refine ev_tup ?_; refine ea_val ?_; refine ev_name h' 10 rfl ?_; refine ea_val ?_; refine ev_name h' 9 rfl ?_; refine ea_nil ?_
      exact ⟨_, rfl, Nat.le_of_ble_eq_true rfl, rfl⟩
    rw [List.filter_eq_self.mpr (fun _ _ => rfl)]
    refine ⟨(numb 0 (pts S rows)).map fun p => (kP p.1, p.2), ?_, ?_, by rw [List.length_map, numb_len]; omega, ?_⟩
    · rw [List.map_map]; rfl
    · rw [List.map_map, show ((fun x : (Str × Nat × Nat) × Int => x.1) ∘ fun p : (L × St2) × Int => (kP p.1, p.2)) = kP ∘ (fun p => p.1) from rfl, ← List.map_map, numb_fst]
      exact nodup_map (fun a b e => kP_inj e) (pts_nodup hr hS.nd fun e he => he)
    have look : ∀ {e : L} {x : St2}, (sysOf hw.w).on e x → ((numb 0 (pts S rows)).map fun p => (kP p.1, p.2)).lookup (kP (e, x)) = some ((posF S rows e x : Nat) : Int) := fun {e x} ho => by
      have m := on_row hw.w hr ho
      have e1 : ((numb 0 (pts S rows)).map fun p => (kP p.1, p.2)) = numb 0 ((pts S rows).map kP) := by
        have : ∀ (n : Nat) (l : List (L × St2)), (numb n l).map (fun p => (kP p.1, p.2)) = numb n (l.map kP) := fun n l => by
          induction l generalizing n with
          | nil => rfl
          | cons a l ih => rw [numb, List.map_cons, ih, List.map_cons, numb]
        exact this 0 _
      rw [e1, numb_lookup (List.mem_map.mpr ⟨_, mem_pts m.1 m.2, rfl⟩), idx_kP, Nat.zero_add]
      rfl
    refine sx_cons ?_; refine s1_setO h 4 ?_; refine ea_nil ?_; refine ⟨[], rfl, Nat.zero_le _, ?_⟩
    refine sx_cons ?_; refine s1_for (is := [5]) hp h ?_; refine ei_list ?_; refine ev_call h (cal_strands_of F) 3 ?_; refine ea_val ?_; refine ev_name h 1 rfl ?_; refine ea_nil ?_; refine ⟨S, ws, hw, rfl, _, rfl, ?_⟩
    refine ⟨fun i ρ => ∃ ds a b c d, ρ = [.val (dT S), .val (dWs ws), .val (dRows rows), .obj (DictP G.P G.w ((numb 0 (pts S rows)).map fun p => (kP p.1, p.2))), .own ds, a, b, c, d, .emp, .emp] ∧ ds = ((sds ws).take i).map (encC S ws rows), ⟨_, _, _, _, _, rfl, rfl⟩, fun i d ρ hd hI => ?_, fun ρ hI => ?_⟩
    · obtain ⟨ds, a, b, c, d', rfl, rfl⟩ := hI
      rw [List.getElem?_map, Option.map_eq_some_iff] at hd
      obtain ⟨x, hx, rfl⟩ := hd
      have mx : x ∈ sds ws := List.mem_of_getElem? hx
      have tk : (sds ws).take (i + 1) = (sds ws).take i ++ [x] := by rw [List.take_add_one, hx]; rfl
      have o1 : (sysOf hw.w).on (bk (lat ws x 0)) x := on_bk (Y := sysOf hw.w) mx
      have mm := mvs_mem mx 1
      have o2 : (sysOf hw.w).on (lat ws (mvs ws x 1) 0) (mvs ws x 1) := on_l (Y := sysOf hw.w) mm
      refine tg_name h 5 ?_
      refine sx_cons ?_; refine s1_set h 6 ?_; refine ev_call h (cal_moved F) 4 ?_; refine ea_val ?_; refine ev_name h 1 rfl ?_; refine ea_val ?_; refine ev_name h 5 rfl ?_; refine ea_val ?_; refine ev_int ?_; refine ea_nil ?_; refine ⟨S, ws, x, 1, hw, mx, rfl, ?_⟩
      refine sx_cons ?_; refine s1_set h 7 ?_; refine ev_getD h 3 rfl ?_; refine ev_tup ?_; refine ea_val ?_; refine ev_call h (cal_back F) 5 ?_; refine ea_val ?_; refine ev_call h (cal_letter_at F) 6 ?_; refine ea_val ?_; refine ev_name h 1 rfl ?_; refine ea_val ?_; refine ev_name h 5 rfl ?_; refine ea_val ?_; refine ev_int ?_; refine ea_nil ?_; refine ⟨S, ws, x, 0, hw, mx, rfl, ?_⟩; refine ea_nil ?_; refine ⟨_, rfl, ?_⟩
      refine ea_val ?_; refine ev_name h 5 rfl ?_; refine ea_nil ?_; refine ⟨_, rfl, Nat.le_of_ble_eq_true rfl, kP (bk (lat ws x 0), x), _, rfl, look o1, ?_⟩
      refine sx_cons ?_; refine s1_set h 8 ?_; refine ev_getD h 3 rfl ?_; refine ev_tup ?_; refine ea_val ?_; refine ev_call h (cal_letter_at F) 6 ?_; refine ea_val ?_; refine ev_name h 1 rfl ?_; refine ea_val ?_; refine ev_name h 6 rfl ?_; refine ea_val ?_; refine ev_int ?_; refine ea_nil ?_; refine ⟨S, ws, mvs ws x 1, 0, hw, mm, rfl, ?_⟩
      refine ea_val ?_; refine ev_name h 6 rfl ?_; refine ea_nil ?_; refine ⟨_, rfl, Nat.le_of_ble_eq_true rfl, kP (lat ws (mvs ws x 1) 0, mvs ws x 1), _, rfl, look o2, ?_⟩
      rw [lat_mv mx, Int.add_zero]
      refine sx_one ?_; refine s1_append h 4 rfl ?_; refine ev_tup ?_; refine ea_val ?_; refine ev_name h 5 rfl ?_
      refine ea_val ?_; refine ev_callB h 7 F.b_min bb_min ?_; refine ea_val ?_; refine ev_name h 7 rfl ?_; refine ea_val ?_; refine ev_name h 8 rfl ?_; refine ea_nil ?_; refine cd_min2 h.calm ?_
      refine ea_val ?_; refine ev_callB h 8 F.b_max bb_max ?_; refine ea_val ?_; refine ev_name h 7 rfl ?_; refine ea_val ?_; refine ev_name h 8 rfl ?_; refine ea_nil ?_; refine cd_max2 h.calm ?_
      refine ea_nil ?_; refine ⟨_, rfl, Nat.le_of_ble_eq_true rfl, ?_, _, _, _, _, _, rfl, ?_⟩
      · have := sds_len3 hw
        rw [List.length_map, List.length_take]; omega
      · rw [tk, List.map_append, List.map_cons, List.map_nil]
        unfold encC
        congr 4
        generalize posF S rows (bk (lat ws x 0)) x = p
        generalize posF S rows (lat ws x 1) (mvs ws x 1) = r
        have m1 : (if (r : Int) < (p : Int) then (r : Int) else (p : Int)) = ((min p r : Nat) : Int) := by split <;> omega
        have m2 : (if (r : Int) > (p : Int) then (r : Int) else (p : Int)) = ((max p r : Nat) : Int) := by split <;> omega
        rw [m1, m2]
    · obtain ⟨ds, a, b, c, d', rfl, rfl⟩ := hI
      refine sx_freeze 4 rfl ?_; refine sx_one ?_; refine s1_ret ?_; refine ev_name h 4 rfl ?_
      rw [List.length_map, List.take_length]
      exact q
def C_do_cross : Con := fun ss Φ => ∃ (p q : PyData) (a b c d : Nat), ss = [.val (.tuple [p, .int a, .int b]), .val (.tuple [q, .int c, .int d])] ∧ Φ (.bool (dcB a b c d))
theorem cal_do_cross (F : Facts G) : Cal G "do_cross" 1 C_do_cross := by
  obtain ⟨f, fd, FD, hg⟩ := F.a_do_cross
  refine cal_of (lv := 0) FD hg S_do_cross bd_do_cross kg_do_cross (fun ss Φ h => ?_) (fun X T ss Φ h hp hc => ?_)
  · obtain ⟨_, _, _, _, _, _, rfl, _⟩ := h; rfl
  · obtain ⟨p, q, a, b, c, d, rfl, k⟩ := hc
    unfold dcB at k
    refine sx_cons ?_; refine s1_if ?_; refine et_cmp ?_; refine ev_ix ?_; refine ev_name h 0 rfl ?_; refine ev_int ?_; refine ix_T (d := .int a) rfl ?_; refine ev_ix ?_; refine ev_name h 1 rfl ?_; refine ev_int ?_; refine ix_T (d := .int c) rfl ?_; refine od_lt ⟨_, rfl, ?_⟩
    by_cases h1 : a < c
    · rw [decide_eq_true (by omega)]; rw [if_pos h1] at k; refine ifT ?_
      refine sx_one ?_; refine s1_ret ?_; refine ev_chain ?_; refine ev_ix ?_; refine ev_name h 1 rfl ?_; refine ev_int ?_; refine ix_T (d := .int c) rfl ?_; refine ev_ix ?_; refine ev_name h 0 rfl ?_; refine ev_int ?_; refine ix_T (d := .int b) rfl ?_; refine od_lt ⟨_, rfl, ?_⟩
      by_cases h2 : c < b
      · rw [decide_eq_true (by omega)]; refine ifT ?_; refine ev_ix ?_; refine ev_name h 1 rfl ?_; refine ev_int ?_; refine ix_T (d := .int d) rfl ?_; refine od_lt ?_
        rw [decide_eq_true h2, Bool.true_and] at k
        rw [show decide ((b : Int) < (d : Int)) = decide (b < d) from decide_eq_decide.mpr (by omega)]; exact k
      · rw [decide_eq_false (by omega)]; refine ifF ?_
        rw [decide_eq_false h2, Bool.false_and] at k; exact k
    · rw [decide_eq_false (by omega)]; rw [if_neg h1] at k; refine ifF ?_; refine sx_nil ?_
      refine sx_one ?_; refine s1_ret ?_; refine ev_chain ?_; refine ev_ix ?_; refine ev_name h 0 rfl ?_; refine ev_int ?_; refine ix_T (d := .int a) rfl ?_; refine ev_ix ?_; refine ev_name h 1 rfl ?_; refine ev_int ?_; refine ix_T (d := .int d) rfl ?_; refine od_lt ⟨_, rfl, ?_⟩
      by_cases h2 : a < d
      · rw [decide_eq_true (by omega)]; refine ifT ?_; refine ev_ix ?_; refine ev_name h 0 rfl ?_; refine ev_int ?_; refine ix_T (d := .int b) rfl ?_; refine od_lt ?_
        rw [decide_eq_true h2, Bool.true_and] at k
        rw [show decide ((d : Int) < (b : Int)) = decide (d < b) from decide_eq_decide.mpr (by omega)]; exact k
      · rw [decide_eq_false (by omega)]; refine ifF ?_
        rw [decide_eq_false h2, Bool.false_and] at k; exact k
def C_crossings : Con := fun ss Φ => ∃ (S : List L) (k : Nat) (ws : List (List L)) (rows : List (List St2)), Sok S k ∧ Wok S ws ∧ DrOk k ws rows ∧ ss = [.val (dT S), .val (dWs ws), .val (dRows rows)] ∧ Φ (.list ((crl S ws rows).map encPr))
theorem cal_crossings (F : Facts G) : Cal G "crossings" 4 C_crossings := by
  obtain ⟨f, fd, FD, hg⟩ := F.a_crossings
  refine cal_of (lv := 3) FD hg S_crossings bd_crossings kg_crossings (fun ss Φ h => ?_) (fun X T ss Φ h hp hc => ?_)
  · obtain ⟨_, _, _, _, _, _, _, rfl, _⟩ := h; rfl
  · obtain ⟨S, k, ws, rows, hS, hw, hD, rfl, q⟩ := hc
    have hr := hD.rows hS
    have l3 := sds_len3 hw
    refine sx_cons ?_; refine s1_set h 3 ?_; refine ev_call h (cal_chords F) 0 ?_; refine ea_val ?_; refine ev_name h 0 rfl ?_; refine ea_val ?_; refine ev_name h 1 rfl ?_; refine ea_val ?_; refine ev_name h 2 rfl ?_; refine ea_nil ?_; refine ⟨S, k, ws, rows, hS, hw, hD, rfl, ?_⟩
    refine sx_cons ?_; refine s1_setO h 4 ?_; refine ea_nil ?_; refine ⟨[], rfl, Nat.zero_le _, ?_⟩
    refine sx_cons ?_; refine s1_for (is := [5, 6]) hp h ?_; refine ei_enumL h 1 F.b_enumerate ?_; refine ev_name h 3 rfl ?_; refine ⟨_, rfl, ?_⟩
    refine ⟨fun i ρ => ∃ ds done a b, ρ = [.val (dT S), .val (dWs ws), .val (dRows rows), .val (.list ((sds ws).map (encC S ws rows))), .own ds, a, b, .emp] ∧ ds = done.map encPr ∧ done ++ (prs ((sds ws).drop i)).filter (fun p => decide (crF S ws rows p.1 p.2)) = crl S ws rows, ⟨[], [], _, _, rfl, rfl, rfl⟩, fun i d ρ hd hI => ?_, fun ρ hI => ?_⟩
    · obtain ⟨ds, done, a, b, rfl, rfl, he⟩ := hI
      have hi : i < (sds ws).length := by have := (List.getElem?_eq_some_iff.mp hd).1; simpa [enumD_length] using this
      rw [enumD_get (d := encC S ws rows (sds ws)[i]) (by rw [List.getElem?_map, List.getElem?_eq_getElem hi]; rfl)] at hd
      cases hd
      have mx : (sds ws)[i] ∈ sds ws := List.getElem_mem _
      have dr : (sds ws).drop i = (sds ws)[i] :: (sds ws).drop (i + 1) := List.drop_eq_getElem_cons hi
      have ne : ∀ y ∈ (sds ws).drop (i + 1), (sds ws)[i] ≠ y := fun y hy e => by
        have nd := (sds_nodup ws).sublist (List.drop_sublist i _)
        rw [dr, List.nodup_cons] at nd
        exact nd.1 (by rw [e]; exact hy)
      rw [dr, prs, List.filter_append, ← List.append_assoc, List.filter_map] at he
      generalize (sds ws)[i] = x at *
      refine tg_pair h 5 6 ?_
      refine sx_one ?_; refine s1_extend h 4 rfl ?_; refine ev_lc h o_crossings0 [7] k_crossings0 g_crossings0 ?_; refine ei_list ?_; refine ev_slice ?_; refine ev_name h 3 rfl ?_; refine eo_some ?_; refine ev_bin ?_; refine ev_name h 5 rfl ?_; refine ev_int ?_; refine od_add ?_; refine ⟨_, rfl, ?_⟩; refine eo_none ?_
      refine sl_LD (encC S ws rows) ?_
      rw [show (i : Int) + 1 = ((i + 1 : Nat) : Int) by omega, cut_from]
      refine ⟨_, rfl, ?_⟩
      refine LcQ.on (encC S ws rows) ((sds ws).drop (i + 1)) (fun y => decide (crF S ws rows x y)) (fun y => encPr (x, y)) (by rw [List.length_drop]; omega) (fun y hy => ?_) ?_
      · have my : y ∈ sds ws := List.mem_of_mem_drop hy
        refine ⟨_, fun X' h' => tg_name h' 7 rfl, fun X' h' => ?_, fun _ X' h' => ?_⟩
        · refine ets_one ?_; refine et_val ?_; refine ev_call h' (cal_do_cross F) 0 ?_; refine ea_val ?_; refine ev_name h' 6 rfl ?_; refine ea_val ?_; refine ev_name h' 7 rfl ?_; refine ea_nil ?_
          exact ⟨_, _, _, _, _, _, rfl, _, rfl, crF_dc hw.w hr mx my (ne y hy)⟩
        · refine ev_tup ?_; refine ea_val ?_; refine ev_ix ?_; refine ev_name h' 6 rfl ?_; refine ev_int ?_; refine ix_T (d := dS x) rfl ?_; refine ea_val ?_; refine ev_ix ?_; refine ev_name h' 7 rfl ?_; refine ev_int ?_; refine ix_T (d := dS y) rfl ?_; refine ea_nil ?_
          exact ⟨_, rfl, Nat.le_of_ble_eq_true rfl, rfl⟩
      · have cl := crl_len (rows := rows) hw
        have e2 : ((sds ws).drop (i + 1)).filter (fun y => decide (crF S ws rows x y)) = ((sds ws).drop (i + 1)).filter ((fun p : St2 × St2 => decide (crF S ws rows p.1 p.2)) ∘ fun y => (x, y)) := rfl
        have ll := congrArg List.length he
        simp only [List.length_append, List.length_map] at ll
        rw [e2]
        refine ⟨_, rfl, ?_, _, done ++ (((sds ws).drop (i + 1)).filter ((fun p : St2 × St2 => decide (crF S ws rows p.1 p.2)) ∘ fun y => (x, y))).map (fun y => (x, y)), _, _, rfl, ?_, he⟩
        · rw [List.length_map, List.length_map]; omega
        · rw [List.map_append, List.map_map]; rfl
    · obtain ⟨ds, done, a, b, rfl, rfl, he⟩ := hI
      refine sx_freeze 4 rfl ?_; refine sx_one ?_; refine s1_ret ?_; refine ev_name h 4 rfl ?_
      rw [enumD_length, List.length_map, List.drop_length] at he
      rw [show done = crl S ws rows from by rw [← he]; simp [prs]]
      exact q
def C_crossing_paper : Con := fun ss Φ => ∃ (S : List L) (k : Nat) (ws : List (List L)) (hw : Wok S ws), Sok S k ∧ ss = [.val (dT S), .val (dWs ws)] ∧ Φ (.tuple [dRows (tightR hw.w k), .tuple ((allLk hw.w).map encLk)])
theorem cal_crossing_paper (F : Facts G) : Cal G "crossing_paper" 8 C_crossing_paper := by
  obtain ⟨f, fd, FD, hg⟩ := F.a_crossing_paper
  refine cal_of (lv := 7) FD hg S_crossing_paper bd_crossing_paper kg_crossing_paper (fun ss Φ h => ?_) (fun X T ss Φ h hp hc => ?_)
  · obtain ⟨_, _, _, _, _, rfl, _⟩ := h; rfl
  · obtain ⟨S, k, ws, hw, hS, rfl, q⟩ := hc
    refine sx_one ?_; refine s1_ret ?_; refine ev_tup ?_; refine ea_val ?_; refine ev_call h (cal_tight F) 0 ?_; refine ea_val ?_; refine ev_name h 0 rfl ?_; refine ea_val ?_; refine ev_name h 1 rfl ?_; refine ea_nil ?_; refine ⟨S, k, ws, hw, hS, rfl, ?_⟩
    refine ea_val ?_; refine ev_callT h 1 F.b_tuple bb_tuple ?_; refine ea_val ?_; refine ev_call h (cal_all_links F) 2 ?_; refine ea_val ?_; refine ev_name h 0 rfl ?_; refine ea_val ?_; refine ev_name h 1 rfl ?_; refine ea_nil ?_; refine ⟨S, k, ws, hw, hS, rfl, ?_⟩; refine ea_nil ?_; refine cd_tupL ?_
    refine ea_nil ?_
    exact ⟨_, rfl, Nat.le_of_ble_eq_true rfl, q⟩
end
end RW
/-! The refusal NoPaper(word, at): made, let out, caught. -/
namespace DL
open PySem PySem.Spec PyProof.Rows L2
section
variable {X : Cx} {Φ : PyData → Prop}
theorem cd_strS {z : Str} (q : Φ (.str z)) : CD X (.type "str") [.val (.str z)] Φ := cd_of SkE.call_str_str fun T B H vs Q a b r k => by
  cases r with
  | val r1 r2 =>
    cases r2
    cases r1
    exact ⟨z, rfl, k.now a b (.str z) q⟩
theorem cd_strI {i : Int} (hi : i.natAbs.log2 < 1920) (q : Φ (.str (toString i))) : CD X (.type "str") [.val (.int i)] Φ := cd_of call_str_int fun T B H vs Q a b r k => by
  cases r with
  | val r1 r2 =>
    cases r2
    cases r1
    exact ⟨i, rfl, hi, k.now a b (.str _) q⟩
end
section
variable {G : Glb} {N : List Str} {sc : Scope} {ks : List (Option NameKind)} {gs : List Str} {fc : Bool} {lv : Nat} {X : Cx} {p pos : Pos}
theorem XOk.var (h : XOk G N sc ks gs fc lv X) (i : Nat) {x : Str} {k : NameKind} (hN : N[i]? = some x := by rfl) (hk : ks[i]? = some (some k) := by rfl) (hv : visK k = true := by rfl) : PE X (.Name x pos) (tVar i) := by
  have hd := h.hk i x k hN hk
  exact pe_var (by rw [h.eN]; exact hN) (h.vis hN hk hv) hd.2.1 hd.2.2
/-- R.__init__(e, ..), R an own class that has ValueError's -/
theorem pe_rinit {R : Str} {RC : Addr} {mc : Value} {e : Expr} {es : List Expr} {ta : TA} {p1 p2 : Pos} {pl : Sem Bool} (hg : Gl X R) (hm : X.mg R = some (.ref RC)) (rg : PySem.W.specialIn X.K (.ref RC) "__getattribute__" = some (some (.builtin "type.__getattribute__")))
    (rr : PySem.W.readsIn X.K RC mc = true) (rf : PySem.W.findCls X.K (.ref RC) mc "__init__" = some (.val (.builtin "ValueError.__init__"))) (ha : PA X (e :: es) ta) (hd : (R == ("__debug__" : Str)) = false := by decide)
    (hc : eval (.Call (.Attribute (.Name R p1) "__init__" p2) (e :: es) [] pos) X.env = (do
      let ov ← eval (.Name R p1) X.env
      standAt p2.atName
      let (f, first) ← holding [ov] (getMethod ov "__init__" pl)
      callWith pos f first (backTo pos (starEach (e :: es) X.env)) (backToKw pos (keywordEach [] X.env))) := by rfl)
    (he : starEach (e :: es) X.env = (false, eval e X.env) :: starEach es X.env := by rfl) (hpl : (backTo pos (starEach es X.env)).any (·.1) = false := by rfl) : PE X (.Call (.Attribute (.Name R p1) "__init__" p2) (e :: es) [] pos) (tVeI X.K ta) := by
  refine ⟨fun pins s σ H Q I h => PySem.W.methodCall_KW (ld_glob I hg hm ?_ hd) hc⟩
  refine PySem.W.method_cls I.kIn rg (PySem.W.cls_value I.kIn rr rf (by decide +kernel) ?_)
  refine PyProof.Rows.callWith_method1 (thn (ha.run pos pins _ σ H _ (I.tok _) h) fun us s1 hv => ?_) he hpl
  obtain ⟨vs, H1, I1, r1, a, C, ws, rfl, few, T, ea, q⟩ := hv
  cases r1 with
  | @cons _ u0 _ ur ra rb =>
    obtain rfl : u0 = Value.ref a := ra
    refine oinit_ok T I1 ea ?_ fun s' J => ⟨.non, H1, J, rfl, q⟩
    rw [← Paired.length rb]
    exact Nat.le_trans few (by decide)
end
end DL
namespace RW
open PySem PySem.Spec PyProof.Rows L2 DL
def npI : Stmt := match top 21 with
  | .ClassDef _ _ _ b _ _ _ _ _ _ _ => b.getD 0 (.Pass ⟨0, 0, 0, 0⟩)
  | _ => .Pass ⟨0, 0, 0, 0⟩
/-- what the module has of the classes -/
structure NpC (K : PySem.W.Frag) (mg : Str → Option Value) (C RC fI : Addr) (fd : FuncData) (mc : Value) : Prop where
  gC : mg "NoPaper" = some (.ref C)
  gR : mg "RingError" = some (.ref RC)
  T : OexC K C
  iC : PySem.W.findIn K (.ref C) "__init__" = some (some (.ref fI))
  tI : PySem.W.typeIn K (.ref fI) = some (.type "function")
  nW : PySem.W.findIn K (.ref C) "word" = some none
  nA : PySem.W.findIn K (.ref C) "at" = some none
  xf : XfC K C
  ex : PySem.W.exmOne K (.ref C) (.ref C) = some true
  rg : PySem.W.specialIn K (.ref RC) "__getattribute__" = some (some (.builtin "type.__getattribute__"))
  rr : PySem.W.readsIn K RC mc = true
  rf : PySem.W.findCls K (.ref RC) mc "__init__" = some (.val (.builtin "ValueError.__init__"))
  fn : FunD K "__init__" "NoPaper.__init__" (defArgs npI) (defBody npI) (defScope npI) [] [] fI fd
abbrev N_np : List Str := ["self", "word", "at"]
abbrev K_np : List (Option NameKind) := [some .local, some .local, some .local]
abbrev G_np : List Str := ["RingError", "str"]
theorem S_np : FnScope N_np ["self", "word", "at"] (defScope npI) := ⟨rfl, rfl, rfl, by decide +kernel, rfl, by decide +kernel, by decide +kernel⟩
theorem kg_np : (ksB N_np (defScope npI) K_np && gsB G_np (defScope npI)) = true := by decide +kernel
theorem bd_np (kV doc pm : Value) (an : Option Addr) (cdv ct : Value) (us : List Value) (h : us.length = (["self", "word", "at"] : List Str).length) : bindArgs (PySem.W.fnOf "__init__" "NoPaper.__init__" (defArgs npI) (defBody npI) (defScope npI) .none kV doc pm an cdv ct) ⟨us, []⟩ = pure ((["self", "word", "at"] : List Str).zip us) := match us, h with | [_, _, _], _ => rfl
def spI (C : Addr) : Sp := fun vs H Q _ => ∃ (T : Tape) (B : Hp) (a : Addr) (w : Str) (n : Int), vs = [.ref a, .str w, .int n] ∧ H a = some (exo a C none) ∧ Same B H ∧ Tp T B H ∧ w.length ≤ 1000 ∧ n.natAbs ≤ 10 ∧
  ∀ B' H' dx, Step T B H B' H' → H' dx = none → dx ≠ a → Q .non (upd (upd (upd H' dx (exd dx [("word", .str w)])) a (exo a C (some dx))) dx (exd dx [("at", .int n), ("word", .str w)]))
theorem str_app_len (a b : Str) : (a ++ b).length = a.length + b.length := by
  show (⟨a.cps ++ b.cps⟩ : Str).length = _
  simp [Str.length]
theorem log_small {n : Nat} (h : n ≤ 1000) : n.log2 < 1920 := by
  by_cases z : n = 0
  · subst z; decide
  · rw [Nat.log2_lt z]
    exact Nat.lt_of_le_of_lt h (Nat.lt_of_lt_of_le (by decide : 1000 < 2 ^ 10) (Nat.pow_le_pow_right (by decide) (by decide)))
theorem int_text {n : Int} (h : n.natAbs ≤ 10) : (Str.ofString (toString n)).length ≤ 10 := by
  have : ∀ m : Nat, m ≤ 10 → (Str.ofString (toString (m : Int))).length ≤ 10 ∧ (Str.ofString (toString (-(m : Int)))).length ≤ 10 := by decide +kernel
  rcases Int.natAbs_eq n with e | e
  · rw [e]; exact (this _ h).1
  · rw [e]; exact (this _ h).2
section
variable {G : Glb} {C RC fI : Addr} {fd : FuncData} {mc : Value}
theorem init_ok (n : NpC G.K G.mg C RC fI fd mc) (hs : G.mg "str" = none) : FnOk G.P G.w G.K G.mg G.base CX0 1 fI fd ["self", "word", "at"] (spI C) := by
  refine FunD.ok n.fn S_np (fun vs H Q E h => ?_) (fun cdv A outer s H vs Q E hr h => ?_)
  · obtain ⟨_, _, _, _, _, rfl, _⟩ := h; rfl
  · obtain ⟨T, B, a, w, i, rfl, ha, sm, tp, hw, hi, k⟩ := h
    have kg := kg_np
    rw [Bool.and_eq_true] at kg
    have ok := (xok_fn (CX := CX0) (P := G.P) (w := G.w) (K := G.K) (mg := G.mg) (base := G.base) (qual := "NoPaper.__init__") (f := fI) (cd := cdv) (A := A) (outer := outer) (s := s) (H := H) (E := E) S_np kg.1 kg.2 hr).nox
    have pv : ∀ {p : Pos}, PE _ (.Name "self" p) (tVar 0) := ok.var 0
    refine ⟨_, PSs.nox pss_wss, ?_⟩
    have hv : Vr T B [.str w, .int i] [.val (.str w), .val (.int i)] := .val (.str w) (.val (.int i) .nil)
    have sl : Sl T (B, H) [some (V.ref a), some (.str w), some (.int i)] B H [DL.S.emp, .val (.str w), .val (.int i)] := by
      refine ⟨rfl, sm, tp, fun j x hj => ?_, fun j j' p ds es _ hj => ?_, fun j p ds hj => ?_, Step.refl sm tp⟩
      · match j, hj with
        | 0, hj => cases hj; trivial
        | 1, hj => cases hj; exact ⟨_, rfl, .str w⟩
        | 2, hj => cases hj; exact ⟨_, rfl, .int i⟩
      · match j, hj with
        | 0, hj => cases hj
        | 1, hj => cases hj
        | 2, hj => cases hj
      · match j, hj with
        | 0, hj => cases hj
        | 1, hj => cases hj
        | 2, hj => cases hj
    refine wss_of (pss_cons (ps_expr (pe_rinit (ok.gl (j := 0) rfl) n.gR n.rg n.rr n.rf (pa_cons pv (pa_cons pe_we pa_nil rfl) rfl)) rfl) (pss_cons (ps_ost pv (ok.var 1)) (pss_one (ps_ost pv (ok.var 2))))) ?_
    refine ⟨_, rfl, ?_⟩
    have e10 : (("no paper: " : Str)).length ≤ 100 := by decide +kernel
    have e1 : ((" " : Str)).length ≤ 100 := by decide +kernel
    have i1 := int_text hi
    refine (?_ : Ev _ T [DL.S.emp, .val (.str w), .val (.int i)] _ (fun _ => True)) (B, H) _ B H _ sl fun v d B' H' st r _ => ?_
    · refine ev_bin ?_; refine ev_bin ?_; refine ev_bin ?_; refine ev_str ?_
      refine ev_callT ok 1 hs bb_str ?_; refine ea_val ?_; refine ev_name ok 1 rfl ?_; refine ea_nil ?_; refine cd_strS ?_
      refine od_addS (by omega) ?_; refine ev_str ?_; refine od_addS (by rw [str_app_len]; omega) ?_
      refine ev_callT ok 1 hs bb_str ?_; refine ea_val ?_; refine ev_name ok 2 rfl ?_; refine ea_nil ?_; refine cd_strI (log_small (by omega)) ?_
      exact od_addS (by rw [str_app_len, str_app_len]; omega) trivial
    · have nt : Tn T a := fun c q => by
        obtain ⟨_, ns, x, y, z, e, _⟩ := tp a c q
        rw [ha] at e; cases e
      have ha' := st.k a _ nt ha
      refine ⟨a, C, [v], rfl, by simp, n.T, ha', ?_⟩
      refine ⟨.str w, rfl, .ref a, rfl, a, C, rfl, n.T, n.nW, .inl ⟨ha', fun dx hn ne => ?_⟩⟩
      refine ⟨.int i, rfl, .ref a, rfl, a, C, rfl, n.T, n.nA, .inr ⟨dx, [("word", .str w)], upd_same, ?_, by simp, ?_⟩⟩
      · rw [upd_ne ne, upd_same]
      · exact k B' H' dx st hn ne
/-- what is wished of such a refusal -/
def exW (T : Tape) (B H : Hp) (C : Addr) (Ψ : Str → Int → Prop) : XK := fun cls d H' => ∃ (B' : Hp) (dd : Addr) (w : Str) (n : Int), Step T B H B' H' ∧ cls = .ref C ∧ d = some dd ∧ H' dd = some (.xd [("at", .int n), ("word", .str w)]) ∧ Ψ w n
theorem exW.step {T : Tape} {B H B1 H1 : Hp} {Ψ : Str → Int → Prop} {cls : Value} {d : Option Addr} {H' : Hp} (s : Step T B H B1 H1) (h : exW T B1 H1 C Ψ cls d H') : exW T B H C Ψ cls d H' := by
  obtain ⟨B', dd, w, n, st, e1, e2, e3, e4⟩ := h
  exact ⟨B', dd, w, n, s.trans st, e1, e2, e3, e4⟩
/-- raise NoPaper(w, n) -/
theorem ws_raise {N : List Str} {sc : Scope} {ks : List (Option NameKind)} {gs : List Str} {fc : Bool} {lv : Nat} {X : Cx} {T : Tape} {ρ : List DL.S} {p pos pos2 : Pos} {ea eb : Expr} {E : XK} {D : Ends} {A : Hp × Hp} {σ : L2.St} {B H : Hp} {Ψ : Str → Int → Prop}
    (h : XOk G N sc ks gs fc (lv + 2) X) (n : NpC G.K G.mg C RC fI fd mc) (hs : G.mg "str" = none) (j : Nat) (tk : Takes X (fun cls d _ H => E cls d H)) (hE : ∀ cls d H', exW T A.1 A.2 C Ψ cls d H' → E cls d H') (s : Sl T A σ B H ρ)
    (he : Ev X T ρ ea fun x => Ev X T ρ eb fun y => ∃ (w : Str) (i : Int), x = .str w ∧ y = .int i ∧ w.length ≤ 1000 ∧ i.natAbs ≤ 10 ∧ Ψ w i) (hg : gs[j]? = some ("NoPaper" : Str) := by rfl)
    (h1 : starEach [ea, eb] X.env = (false, eval ea X.env) :: starEach [eb] X.env := by rfl) (h2 : starEach [eb] X.env = (false, eval eb X.env) :: starEach [] X.env := by rfl) (hpl : (backTo pos (starEach [eb] X.env)).any (·.1) = false := by rfl) : WS X (.Raise (some (.Call (.Name "NoPaper" p) [ea, eb] [] pos)) none pos2) D σ H := by
  have F1 : FnOk X.prog X.w X.K X.mg X.base CX0 1 fI fd ["self", "word", "at"] (spI C) := by rw [h.eP, h.ew, h.eK, h.eg, h.eb]; exact init_ok n hs
  have hb : Binds X.K fd ["self", "word", "at"] [] := by rw [h.eK]; exact n.fn.bindsN bd_np
  have T' : OexC X.K C := by rw [h.eK]; exact n.T
  refine ws_of (ps_raise h.calm tk (pmk_oex (ta := tCons (WE X ea) (tCons (WE X eb) tNil)) T' (by rw [h.eK]; exact n.iC) (by rw [h.eK]; exact n.tI) F1 (h.room.mono (by omega)) hb .nil pass0 (h.gl hg) (by rw [h.eg]; exact n.gC) (pa_cons pe_we (pa_cons pe_we pa_nil h2) h1) (by decide) h1 hpl)) ?_
  refine he A σ B H _ s fun v x B1 H1 s1 r1 q1 => ?_
  refine q1 A σ B1 H1 _ (s.step s1) fun u y B2 H2 s2 r2 q2 => ?_
  obtain ⟨w, i, rfl, rfl, hw, hi, q2⟩ := q2
  cases r1
  cases r2
  refine ⟨by simp, fun a ha => ?_⟩
  have sx := (s.step s1).step s2
  have nb : B2 a = none := s2.e.free ha
  have sa : Same B2 (upd H2 a (exo a C none)) := fun b o q => by rw [upd_ne (ne_of_none q nb)]; exact s2.e _ _ q
  have ta : Tp T B2 (upd H2 a (exo a C none)) := fun pp c q => by
    obtain ⟨h1, ns, x, y, z, e1, e2, e3⟩ := s2.t pp c q
    exact ⟨h1, ns, x, y, z, by rw [upd_ne (ne_of_none e1 ha)]; exact e1, e2, e3⟩
  refine ⟨T, B2, a, w, i, rfl, upd_same, sa, ta, hw, hi, fun B3 H3 dx st hn ne => ⟨rfl, dx, _, ?_, upd_same, ?_, hE _ _ _ ?_⟩⟩
  · rw [upd_ne (Ne.symm ne), upd_same]
  · cases e : H2 dx with
    | none => rfl
    | some o =>
      have nt : Tn T dx := fun c q => by
        obtain ⟨_, ns, x, y, z, e1, _⟩ := st.t dx c q
        rw [hn] at e1; cases e1
      have := st.k dx o nt (by rw [upd_ne ne]; exact e)
      rw [hn] at this; cases this
  · have ea : H3 a = some (exo a C none) := st.k a _ (fun c q => by
      obtain ⟨_, ns, x, y, z, e1, _⟩ := ta a c q
      rw [upd_same] at e1; cases e1) upd_same
    have ba : B3 a = none := st.u a _ upd_same nb
    have at_ : ∀ b, b ≠ dx → b ≠ a → (upd (del (upd (upd (upd H3 dx (exd dx [("word", .str w)])) a (exo a C (some dx))) dx (exd dx [("at", .int i), ("word", .str w)])) a) dx (.xd [("at", .int i), ("word", .str w)])) b = H3 b := fun b n1 n2 => by
      rw [upd_ne n1, del_ne n2, upd_ne n1, upd_ne n2, upd_ne n1]
    refine ⟨B3, dx, w, i, sx.anc.trans ⟨st.b, fun b o q => ?_, fun b o nt q => ?_, fun b o q qb => ?_, fun pp c q => ?_⟩, rfl, rfl, upd_same, q2⟩
    · have q3 := st.e b o q
      rw [at_ b (ne_of_none q3 hn) (ne_of_none q ba)]; exact q3
    · have na := ne_of_none q ha
      have q3 := st.k b o nt (by rw [upd_ne na]; exact q)
      rw [at_ b (ne_of_none q3 hn) na]; exact q3
    · exact st.u b o (by rw [upd_ne (ne_of_none q ha)]; exact q) qb
    · obtain ⟨h1, ns, x, y, z, e1, e2, e3⟩ := st.t pp c q
      refine ⟨h1, ns, x, y, z, ?_, e2, e3⟩
      rw [at_ pp (ne_of_none e1 hn) (fun z => by rw [z, ea] at e1; cases e1)]; exact e1
end
end RW
namespace DL
open PySem PySem.Spec PyProof.Rows L2
section
variable {X : Cx} {T : Tape} {ρ : List S}
/-- a statement, then the rest, in sight of the frame's beginning -/
theorem ws_seq {st : Stmt} {rest : List Stmt} {P : List S → Prop} {R : PyData → Prop} {A : Hp × Hp} {σ : L2.St} {B H : Hp} {D : Ends} (s : Sl T A σ B H ρ) (h : S1 X T ρ st ⟨P, R, fun _ => False, fun _ => False⟩) (hr : ∀ v d B H, Step T A.1 A.2 B H → Dt B v d → R d → D.rt v H)
    (hn : ∀ σ' B' H' ρ', Sl T A σ' B' H' ρ' → P ρ' → WSs X rest D σ' H') : WSs X (st :: rest) D σ H := by
  refine wss_of (pss_cons ps_ws pss_wss) ?_
  exact h A σ B H _ s ⟨hn, hr, fun _ _ _ _ _ q => q.elim, fun _ _ _ _ _ q => q.elim⟩
end
/-- contracts of defs that may refuse -/
abbrev ConX := List S → (PyData → Prop) → (Str → Int → Prop) → Prop
end DL
namespace RW
open PySem PySem.Spec PyProof.Rows L2 DL
def spX (C : Addr) (Cn : ConX) : Sp := fun vs H Q E => ∃ T B ss Φ Ψ, Same B H ∧ Tp T B H ∧ Vr T B vs ss ∧ Cn ss Φ Ψ ∧ Kv T B H Φ Q ∧ ∀ cls d H', exW T B H C Ψ cls d H' → E cls d H'
structure CalX (G : Glb) (x : Str) (k : Nat) (C : Addr) (Cn : ConX) : Prop where
  ex : ∃ f fd ps, G.mg x = some (.ref f) ∧ PySem.W.keepIn G.K (.ref f) = true ∧ Binds G.K fd ps [] ∧ FnOk G.P G.w G.K G.mg G.base (L2.CX G.P G.w) k f fd ps (spX C Cn)
def C_lets : ConX := fun ss Φ Ψ => ∃ (S : List L) (k : Nat) (ws : List (List L)) (rows : List (List St2)) (hw : Wok S ws), Sok S k ∧ DrOk k ws rows ∧ ss = [.val (dT S), .val (dWs ws), .val (.tuple [dRows rows, .tuple ((allLk hw.w).map encLk)])] ∧
  ((allLk hw.w).length = (crl S ws rows).length → Φ (.bool true)) ∧ ((allLk hw.w).length ≠ (crl S ws rows).length → Ψ "many" 0)
theorem lo_lt6 : ∀ c : L, (lo c).val < 6 := by decide
theorem allLk_len {S : List L} {ws : List (List L)} (hw : Wok S ws) : (allLk hw.w).length ≤ 36864 := by
  rw [← crl_tight hw.w (n := 6) (fun c _ => lo_lt6 c) (allLk_nodup _) fun a => mem_allLk _]
  exact crl_len hw
section
variable {G : Glb} {C RC fI : Addr} {fd0 : FuncData} {mc : Value}
theorem cal_lets (F : Facts G) (np : NpC G.K G.mg C RC fI fd0 mc) : CalX G "lets_crossing" 7 C C_lets := by
  obtain ⟨f, fd, FD, hg⟩ := F.a_lets_crossing
  refine ⟨f, fd, ["surface", "ways", "thing"], hg, FD.kp, FD.bindsN bd_lets_crossing, ?_⟩
  refine FD.ok S_lets_crossing (fun vs H Q E h => ?_) (fun cdv A outer s H vs Q E hr hsp => ?_)
  · obtain ⟨T, B, ss, Φ, Ψ, _, _, r, hC, _, _⟩ := h
    obtain ⟨_, _, _, _, _, _, _, rfl, _, _⟩ := hC
    rw [r.length]; rfl
  · obtain ⟨T, B, ss, Φ, Ψ, sm, tp, r, hC, kv, hE⟩ := hsp
    obtain ⟨S, k, ws, rows, hw, hS, hD, rfl, q1, q2⟩ := hC
    have kg := kg_lets_crossing
    rw [Bool.and_eq_true] at kg
    have h := xok_fn (CX := L2.CX G.P G.w) (P := G.P) (w := G.w) (K := G.K) (mg := G.mg) (base := G.base) (qual := "lets_crossing") (f := f) (cd := cdv) (A := A) (outer := outer) (s := s) (H := H) (E := E) S_lets_crossing kg.1 kg.2 hr
    refine ⟨_, pss_wss, ?_⟩
    generalize hX : cxOf (L2.CX G.P G.w) G.P G.w G.K G.mg G.base N_lets_crossing "lets_crossing" (defScope (top 30)) f cdv A outer s H E = X at h
    have hp : PassesOwn (model X.prog X.w) X.A X.env X.xe := by rw [← hX]; exact passes_of rfl
    have tk : Takes X (fun cls d _ H => E cls d H) := by rw [← hX]; exact takes_of rfl rfl rfl rfl
    have s0 : Sl T (B, H) (L2.start N_lets_crossing vs) B H _ := sl_start sm tp r (by rw [r.length]; exact Nat.le_of_ble_eq_true rfl)
    have fin : ∀ v d B' H', Step T B H B' H' → Dt B' v d → Φ d → Q v H' := kv
    have hl := allLk_len hw
    have hu := un_ok h
    have hr0 := hD.len
    refine ws_seq s0 (R := Φ) (P := fun ρ => ρ = [.val (dT S), .val (dWs ws), .val (.tuple [dRows rows, .tuple ((allLk hw.w).map encLk)]), .emp, .emp, .emp, .emp]) ?_ fin fun σ1 B1 H1 ρ1 s1 e1 => ?_
    · refine s1_if ?_; refine et_w ?_; refine ew_or ?_; refine et_not ?_; refine et_val ?_; refine ev_isi h 0 1 F.b_isinstance F.b_tuple bb_tuple ?_; refine ev_name h 2 rfl ?_; refine ⟨_, kb_tt, _, rfl, ?_⟩; refine ifF ?_
      refine ew_or ?_; refine et_cmp ?_; refine ev_len h 2 F.b_len ?_; refine ev_name h 2 rfl ?_; refine ⟨2, rfl, ?_⟩; refine ev_int ?_; refine od_neI ⟨false, rfl, ?_⟩; refine ifF ?_
      refine ew_or1 ?_; refine et_not ?_; refine et_val ?_; refine ev_isi h 0 1 F.b_isinstance F.b_tuple bb_tuple ?_; refine ev_ix ?_; refine ev_name h 2 rfl ?_; refine ev_int ?_; refine ix_T (d := .tuple ((allLk hw.w).map encLk)) rfl ?_; refine ⟨_, kb_tt, _, rfl, ?_⟩; refine ifF ?_; refine sx_nil ?_
      rfl
    subst e1
    refine ws_seq s1 (R := Φ) (P := fun ρ => ρ = [.val (dT S), .val (dWs ws), .val (.tuple [dRows rows, .tuple ((allLk hw.w).map encLk)]), .val (dRows rows), .val (.tuple ((allLk hw.w).map encLk)), .emp, .emp]) ?_ fin fun σ2 B2 H2 ρ2 s2 e2 => ?_
    · refine s1_asg (is := [3, 4]) ?_; refine ev_name h 2 rfl ?_; refine tg_pair h 3 4 ?_
      rfl
    subst e2
    refine ws_seq s2 (R := Φ) (P := fun ρ => ρ = [.val (dT S), .val (dWs ws), .val (.tuple [dRows rows, .tuple ((allLk hw.w).map encLk)]), .val (dRows rows), .val (.tuple ((allLk hw.w).map encLk)), .emp, .emp]) ?_ fin fun σ3 B3 H3 ρ3 s3 e3 => ?_
    · refine s1_if ?_; refine et_not ?_; refine et_val ?_; refine ev_call h (cal_is_drawing F) 4 ?_; refine ea_val ?_; refine ev_name h 0 rfl ?_; refine ea_val ?_; refine ev_name h 1 rfl ?_; refine ea_val ?_; refine ev_name h 3 rfl ?_; refine ea_nil ?_
      refine ⟨S, k, ws, rows, hS, hw, hD, rfl, _, rfl, ?_⟩; refine ifF ?_; refine sx_nil ?_
      rfl
    subst e3
    refine ws_seq s3 (R := Φ) (P := fun ρ => ∃ a b, ρ = [.val (dT S), .val (dWs ws), .val (.tuple [dRows rows, .tuple ((allLk hw.w).map encLk)]), .val (dRows rows), .val (.tuple ((allLk hw.w).map encLk)), a, b]) ?_ fin fun σ4 B4 H4 ρ4 s4 e4 => ?_
    · refine s1_for (is := [5, 6]) hp h ?_; refine ei_enumT h 5 F.b_enumerate ?_; refine ev_name h 4 rfl ?_; refine ⟨_, rfl, ?_⟩
      refine ⟨fun i ρ => ∃ a b, ρ = [.val (dT S), .val (dWs ws), .val (.tuple [dRows rows, .tuple ((allLk hw.w).map encLk)]), .val (dRows rows), .val (.tuple ((allLk hw.w).map encLk)), a, b], ⟨_, _, rfl⟩, fun i d ρ hd hI => ?_, fun ρ hI => hI⟩
      obtain ⟨a, b, rfl⟩ := hI
      have hi : i < (allLk hw.w).length := by have := (List.getElem?_eq_some_iff.mp hd).1; simpa [enumD_length] using this
      have lt := allLk_lt hw.w
      have ml : (allLk hw.w)[i] ∈ allLk hw.w := List.getElem_mem _
      rw [enumD_get (d := encLk (allLk hw.w)[i]) (by rw [List.getElem?_map, List.getElem?_eq_getElem hi]; rfl)] at hd
      cases hd
      have il := (mem_allLk hw.w).mp ml
      obtain ⟨m1, m2, _⟩ := isLk_ss il
      refine tg_pair h 5 6 ?_
      refine sx_one ?_; refine s1_if ?_; refine et_w ?_; refine ew_or ?_; refine et_not ?_; refine et_val ?_; refine ev_call h (cal_is_link F) 6 ?_; refine ea_val ?_; refine ev_name h 0 rfl ?_; refine ea_val ?_; refine ev_name h 1 rfl ?_; refine ea_val ?_; refine ev_name h 6 rfl ?_; refine ea_nil ?_
      refine ⟨S, k, ws, (allLk hw.w)[i], hw, hS, m1, m2, rfl, fun c hc => ⟨c, rfl, ?_⟩⟩
      rw [hc.mpr il]; refine ifF ?_
      refine ew_or1 ?_; refine et_w ?_; refine ew_and ?_; refine et_cmp ?_; refine ev_name h 5 rfl ?_; refine ev_int ?_; refine od_gt ⟨_, rfl, ?_⟩
      by_cases h0 : 0 < i
      · rw [decide_eq_true (by omega)]; refine ifT ?_
        obtain ⟨j, rfl⟩ : ∃ j, i = j + 1 := ⟨i - 1, by omega⟩
        refine ew_and1 ?_; refine et_not ?_; refine et_cmp ?_; refine ev_ix ?_; refine ev_name h 4 rfl ?_; refine ev_bin ?_; refine ev_name h 5 rfl ?_; refine ev_int ?_; refine od_sub ?_
        rw [show (((j + 1 : Nat) : Int) - 1) = (j : Int) by omega]
        refine ixD_T (by rw [List.length_map]; omega) ?_
        rw [List.getElem_map]
        refine ev_name h 6 rfl ?_
        refine od_ltD (by omega) (encLk_alike _ _) (by cases (allLk hw.w)[j] <;> exact fun z => by cases z) (encLk_depth _) ⟨_, rfl, ?_⟩
        rw [List.pairwise_iff_getElem.mp lt j (j + 1) (by omega) hi (by omega)]
        refine ifF ?_; refine sx_nil ?_
        exact ⟨_, _, rfl⟩
      · rw [decide_eq_false (by omega)]; refine ifF ?_; refine ifF ?_; refine sx_nil ?_
        exact ⟨_, _, rfl⟩
    obtain ⟨a, b, rfl⟩ := e4
    refine wss_of (pss_cons (ps_if pt_wt pss_wss pss_wss) pss_wss) ?_
    refine (?cond : Et X T [.val (dT S), .val (dWs ws), .val (.tuple [dRows rows, .tuple ((allLk hw.w).map encLk)]), .val (dRows rows), .val (.tuple ((allLk hw.w).map encLk)), a, b] _ (fun z => z = !decide ((allLk hw.w).length = (crl S ws rows).length))) (B, H) σ4 B4 H4 _ s4 fun z B5 H5 st5 ez => ?_
    case cond =>
      refine et_cmp ?_; refine ev_len h 2 F.b_len ?_; refine ev_name h 4 rfl ?_; refine ⟨(allLk hw.w).length, by simp [lenD], ?_⟩; refine ev_len h 2 F.b_len ?_; refine ev_call h (cal_crossings F) 7 ?_; refine ea_val ?_; refine ev_name h 0 rfl ?_; refine ea_val ?_; refine ev_name h 1 rfl ?_; refine ea_val ?_; refine ev_name h 3 rfl ?_; refine ea_nil ?_
      refine ⟨S, k, ws, rows, hS, hw, hD, rfl, (crl S ws rows).length, by simp [lenD], ?_⟩
      refine od_neI ⟨_, rfl, ?_⟩
      congr 1
      exact decide_eq_decide.mpr (by omega)
    have s5 := s4.step st5
    subst ez
    by_cases e : (allLk hw.w).length = (crl S ws rows).length
    · rw [decide_eq_true e]
      refine ifF ?_
      refine wss_of pss_nil ?_
      refine (sx_one (s1_ret (ev_bl (q1 e))) : Sx X T _ _ ⟨fun _ => Φ .none, Φ, fun _ => False, fun _ => False⟩) (B, H) σ4 B5 H5 _ s5 ⟨fun σ' B' H' ρ' z q => kv .non .none B' H' z.anc .non q, fin, fun _ _ _ _ _ q => q.elim, fun _ _ _ _ _ q => q.elim⟩
    · rw [decide_eq_false e]
      refine ifT ?_
      refine wss_of (pss_one ps_ws) ?_
      refine ws_raise h np F.b_str 3 tk hE s5 ?_
      refine ev_str ?_; refine ev_int ?_
      exact ⟨_, _, rfl, rfl, by decide +kernel, by decide, q2 e⟩
end
end RW
namespace DL
open PySem PySem.Spec PyProof.Rows L2
theorem XOk.tr {G : Glb} {N : List Str} {sc : Scope} {ks : List (Option NameKind)} {gs : List Str} {fc : Bool} {lv : Nat} {X : Cx} (h : XOk G N sc ks gs fc lv X) (pn : List (Addr × Obj)) (xe : Value → Shared → Prop) : XOk G N sc ks gs fc lv (X.tr pn xe) :=
  ⟨h.eP, h.ew, h.eK, h.eg, h.eb, h.eN, h.nd, h.calm, h.es, h.kind, h.hk, h.hg, h.hf, h.room⟩
end DL
namespace RW
open PySem PySem.Spec PyProof.Rows L2 DL
def C_asked : Con := fun ss Φ => ∃ (S : List L) (k : Nat) (ws : List (List L)) (rows : List (List St2)) (hw : Wok S ws), Sok S k ∧ DrOk k ws rows ∧ ss = [.val (dT S), .val (dWs ws), .val (.tuple [dRows rows, .tuple ((allLk hw.w).map encLk)])] ∧
  ((allLk hw.w).length = (crl S ws rows).length → Φ (.bool true)) ∧ ((allLk hw.w).length ≠ (crl S ws rows).length → Φ (.tuple [.str "many", .int 0]))
def tsA (C : Addr) : Addr → Value → Option Addr → TS := fun a cls d => tAsg (tTup (tCons (tXf a cls d C "word" (tVar 4)) (tCons (tXf a cls d C "at" (tVar 4)) tNil))) (gName 3)
section
variable {G : Glb} {C RC fI : Addr} {fd0 : FuncData} {mc : Value}
theorem ps_asked {X : Cx} (h : XOk G N_l_asked (defScope (top 75)) K_l_asked G_l_asked true 7 X) (np : NpC G.K G.mg C RC fI fd0 mc) (L0 : CalX G "lets_crossing" 7 C C_lets) (hs : X.stack = X.env :: X.outer) (hf : X.env.frame = some X.env.locals) {p1 p2 p3 p4 p5 p6 p7 p8 q1 q2 q3 q4 q5 q6 q7 q8 q9 : Pos} {kk : Nat}
    (hsw : ∀ env, swapsWith (.Call (.Name "lets_crossing" p1) [.Name "_law_surface" p2, .Name "_law_ways" p3, .Name "_law_paper" p4] [] p5) (some (.Name "_law_found" p6)) p7.line env = pure false) (hsw2 : ∀ env, swapsWith (.Tuple [.Attribute (.Name "e" q1) "word" q2, .Attribute (.Name "e" q3) "at" q4] kk q5) (some (.Name "_law_found" q6)) q7.line env = pure false) :
    PS X (.Try [.Assign [.Name "_law_found" p6] (.Call (.Name "lets_crossing" p1) [.Name "_law_surface" p2, .Name "_law_ways" p3, .Name "_law_paper" p4] [] p5) p7]
      [.ExceptHandler (some (.Name "NoPaper" q8)) (some "e") [.Assign [.Name "_law_found" q6] (.Tuple [.Attribute (.Name "e" q1) "word" q2, .Attribute (.Name "e" q3) "at" q4] kk q5) q7] q9] [] [] p8)
      (fun D σ H => tAsg (tCallS (spX C C_lets) (L2.WE (wAs X.K (.ref C) 4 (tsA C) (fun _ _ _ _ => False) D)) (tCons (tVar 0) (tCons (tVar 1) (tCons (tVar 2) tNil)))) (gName 3) D σ H) := by
  obtain ⟨f, fd, ps, hm, hkp, hb, F⟩ := L0.ex
  have F' : FnOk X.prog X.w X.K X.mg X.base (L2.CX X.prog X.w) 7 f fd ps (spX C C_lets) := by rw [h.eP, h.ew, h.eK, h.eg, h.eb]; exact F
  have nd : X.N.Nodup := by rw [h.eN]; exact h.nd
  have n3 : X.N[3]? = some ("_law_found" : Str) := by rw [h.eN]; rfl
  have n4 : X.N[4]? = some ("e" : Str) := by rw [h.eN]; rfl
  have l3 := h.loc (i := 3) rfl rfl rfl
  have k4 : X.env.kindOf "e" = some .local := by
    show X.env.scope.names.lookup ("e" : Str) = _
    rw [h.es]; exact (h.hk 4 "e" .local rfl rfl).1
  refine ps_try_as (i := 4) (tb := fun W => tAsg (tCallS (spX C C_lets) (L2.WE W) (tCons (tVar 0) (tCons (tVar 1) (tCons (tVar 2) tNil)))) (gName 3)) (ts := tsA C) (Wout := fun _ _ _ _ => False) hs hf nd n4 k4 ⟨h.gl (j := 1) rfl, by decide, .inl (by rw [h.eg]; exact np.gC)⟩ takes0 (fun W pn xe tk _ => ?_) (fun a oe cls d pn hz hd => ?_)
  · have h' := h.tr pn xe
    exact pss_one (ps_set (pos := p7) (i := 3) nd n3 l3.1 (pe_callS (X := X.tr pn xe) F' h.room (h'.gl (j := 0) rfl) (by show X.mg _ = _; rw [h.eg]; exact hm) (by show PySem.W.keepIn X.K _ = _; rw [h.eK]; exact hkp) (by show Binds X.K _ _ _; rw [h.eK]; exact hb) (fun σ => passAt tk σ) (pa_cons (h'.var 0) (pa_cons (h'.var 1) (pa_cons (h'.var 2) pa_nil rfl) rfl) rfl) (by decide) rfl rfl) (hsw _) l3.2)
  · have v4 : ∀ {p : Pos}, PE (X.suite a ((a, oe) :: pn)) (.Name "e" p) (tVar 4) := pe_var n4 (h.vis (i := 4) rfl rfl rfl) (h.hk 4 "e" .local rfl rfl).2.1 (h.hk 4 "e" .local rfl rfl).2.2
    have xf : XfC X.K C := by rw [h.eK]; exact np.xf
    have nW : PySem.W.findIn X.K (.ref C) "word" = some none := by rw [h.eK]; exact np.nW
    have nA : PySem.W.findIn X.K (.ref C) "at" = some none := by rw [h.eK]; exact np.nA
    exact pss_one (ps_set (pos := q7) (i := 3) nd n3 l3.1 (pe_tup (pa_cons (pe_xf xf nW hz hd v4) (pa_cons (pe_xf xf nA hz hd v4) pa_nil rfl) rfl)) (hsw2 _) l3.2)
theorem cal_asked (F : Facts G) (np : NpC G.K G.mg C RC fI fd0 mc) : Cal G "_law_asked" 8 C_asked := by
  obtain ⟨f, fd, FD, hg⟩ := F.a_l_asked
  have L0 := cal_lets F np
  refine ⟨f, fd, ["_law_surface", "_law_ways", "_law_paper"], hg, FD.kp, FD.bindsN bd_l_asked, ?_⟩
  refine FD.ok S_l_asked (fun vs H Q E h => ?_) (fun cdv A outer s H vs Q E hr hsp => ?_)
  · obtain ⟨T, B, ss, Φ, _, _, r, hC, _⟩ := h
    obtain ⟨_, _, _, _, _, _, _, rfl, _, _⟩ := hC
    rw [r.length]; rfl
  · obtain ⟨T, B, ss, Φ, sm, tp, r, hC, kv⟩ := hsp
    obtain ⟨S, k, ws, rows, hw, hS, hD, rfl, k1, k2⟩ := hC
    have kg := kg_l_asked
    rw [Bool.and_eq_true] at kg
    have h := (xok_fn (CX := CX0) (P := G.P) (w := G.w) (K := G.K) (mg := G.mg) (base := G.base) (qual := "_law_asked") (f := f) (cd := cdv) (A := A) (outer := outer) (s := s) (H := H) (E := E) S_l_asked kg.1 kg.2 hr).nox
    refine ⟨_, PSs.nox pss_wss, ?_⟩
    have hs : (cxOf CX0 G.P G.w G.K G.mg G.base N_l_asked "_law_asked" (defScope (top 75)) f cdv A outer s H E).nox.stack = (cxOf CX0 G.P G.w G.K G.mg G.base N_l_asked "_law_asked" (defScope (top 75)) f cdv A outer s H E).nox.env :: (cxOf CX0 G.P G.w G.K G.mg G.base N_l_asked "_law_asked" (defScope (top 75)) f cdv A outer s H E).nox.outer := rfl
    have hf : (cxOf CX0 G.P G.w G.K G.mg G.base N_l_asked "_law_asked" (defScope (top 75)) f cdv A outer s H E).nox.env.frame = some (cxOf CX0 G.P G.w G.K G.mg G.base N_l_asked "_law_asked" (defScope (top 75)) f cdv A outer s H E).nox.env.locals := rfl
    generalize (cxOf CX0 G.P G.w G.K G.mg G.base N_l_asked "_law_asked" (defScope (top 75)) f cdv A outer s H E).nox = X at h hs hf
    have s0 : Sl T (B, H) (L2.start N_l_asked vs) B H _ := sl_start sm tp r (by rw [r.length]; exact Nat.le_of_ble_eq_true rfl)
    have fin : ∀ v d B' H', Step T B H B' H' → Dt B' v d → Φ d → Q v H' := kv
    refine ws_seq s0 (R := Φ) (P := fun ρ => ρ = [.val (dT S), .val (dWs ws), .val (.tuple [dRows rows, .tuple ((allLk hw.w).map encLk)]), .val .none, .emp]) ?_ fin fun σ1 B1 H1 ρ1 s1 e1 => ?_
    · refine s1_set h 3 ?_; refine ev_non ?_
      rfl
    subst e1
    refine wss_of (pss_cons (ps_asked h np L0 hs hf (fun _ => rfl) (fun _ => rfl)) pss_wss) ?_
    obtain ⟨v0, g0, r0⟩ := s1.val (i := 0) rfl
    obtain ⟨v1, g1, r1⟩ := s1.val (i := 1) rfl
    obtain ⟨v2, g2, r2⟩ := s1.val (i := 2) rfl
    have ret : ∀ (p q : Pos) (σ' : L2.St) (B' H' : Hp) (d : PyData), Sl T (B, H) σ' B' H' [.val (dT S), .val (dWs ws), .val (.tuple [dRows rows, .tuple ((allLk hw.w).map encLk)]), .val d, .emp] → Φ d → DL.WSs X [.Return (some (.Name "_law_found" p)) q] { nx := fun _ H' => Q .non H', rt := Q } σ' H' := fun p q σ' B' H' d sl hd =>
      (sx_one (s1_ret (ev_name h 3 rfl hd)) : Sx X T _ _ ⟨fun _ => Φ .none, Φ, fun _ => False, fun _ => False⟩) (B, H) σ' B' H' _ sl ⟨fun σ' B' H' ρ' z q => kv .non .none B' H' z.anc .non q, fin, fun _ _ _ _ _ q => q.elim, fun _ _ _ _ _ q => q.elim⟩
    refine ⟨v0, g0, v1, g1, v2, g2, T, B1, _, Φ, (fun w n => Φ (.tuple [.str w, .int n])), s1.e, s1.t, .val r0 (.val r1 (.val r2 .nil)), ⟨S, k, ws, rows, hw, hS, hD, rfl, k1, k2⟩, fun v d B' H' st r hd => ?_, fun cls d H' hx => ?_⟩
    · exact ret _ _ _ B' H' d ((s1.step st).set r) hd
    · obtain ⟨B', dd, w, n, st, rfl, rfl, hx, hd⟩ := hx
      have s2 := s1.step st
      refine ⟨true, by rw [h.eK]; exact np.ex, fun _ a ha => ?_, fun z => by cases z⟩
      have g4 : (σ1.set 4 (some (V.ref a)))[4]? = some (some (V.ref a)) := List.getElem?_set_self (by rw [s1.len]; exact Nat.le_of_ble_eq_true rfl)
      refine ⟨.ref a, g4, rfl, rfl, dd, _, .str w, rfl, hx, rfl, .ref a, g4, rfl, rfl, dd, _, .int n, rfl, hx, rfl, (by show 2 ≤ sizeLine; decide), fun p hp => ?_⟩
      have st3 := Step.new (o := .tup [.str w, .int n]) s2.e s2.t hp
      have s3 := (((s2.step st3).forget (i := 4) (o := some (.ref a))).set (i := 3) (v := .ref p) (d := .tuple [.str w, .int n]) (.tup upd_same (.cons (.str w) (.cons (.int n) .nil)))).forget (i := 4) (o := none)
      exact ret _ _ _ _ _ _ s3 hd
end
end RW
/-! The law's tape: a list of cells and three numbers, of which nothing is told. -/
namespace DL
open PySem PySem.Spec PyProof.Rows L2
theorem tape_set {T : Tape} {A : Hp × Hp} {σ : L2.St} {B H : Hp} {ρ : List S} {p c : Addr} {a b n : Int} (s : Sl T A σ B H ρ) (eT : T = some (p, c)) : Sl T A σ B (upd H p (.lst [.ref c, .int a, .int b, .int n])) ρ := by
  obtain ⟨nb, ns, x, y, z, hp, hc, hl⟩ := s.t p c eT
  have uniq : ∀ {p' c' : Addr}, T = some (p', c') → p' = p ∧ c' = c := fun {p' c'} e => by
    rw [eT] at e; cases e; exact ⟨rfl, rfl⟩
  have tn : ∀ {q : Addr}, Tn T q → q ≠ p := fun {q} h e => by subst e; exact h c eT
  have eB : Same B (upd H p (.lst [.ref c, .int a, .int b, .int n])) := fun q o h => by rw [upd_ne (ne_of_none h nb)]; exact s.e q o h
  have tp : Tp T B (upd H p (.lst [.ref c, .int a, .int b, .int n])) := fun p' c' e => by
    obtain ⟨rfl, rfl⟩ := uniq e
    exact ⟨nb, ns, a, b, n, upd_same, hc, hl⟩
  refine ⟨s.len, eB, tp, fun i x h => ?_, s.ne, s.fr, ⟨s.anc.b, eB, fun q o nt h => ?_, s.anc.u, tp⟩⟩
  · have z := s.sl i x h
    cases x with
    | emp => trivial
    | val d => exact z
    | own ds =>
      obtain ⟨q, vs, e, nt, nb', hq, r⟩ := z
      exact ⟨q, vs, e, nt, nb', by rw [upd_ne (tn nt)]; exact hq, r⟩
    | tape => exact z
    | obj P => exact z
  · rw [upd_ne (tn nt)]; exact s.anc.k q o nt h
section
variable {G : Glb} {N : List Str} {sc : Scope} {ks : List (Option NameKind)} {gs : List Str} {fc : Bool} {lv : Nat} {X : Cx} {T : Tape} {ρ : List S} {Φ : PyData → Prop} {O : Out} {p q pos : Pos} {e : Expr}
/-- one of the tape's numbers -/
theorem ev_tapeI (h : XOk G N sc ks gs fc lv X) (i : Nat) {x : Str} {k : NameKind} {j : Int} {kk} (hr : ρ[i]? = some .tape) (hj : j = 1 ∨ j = 2 ∨ j = 3) (hq : ∀ z : Int, Φ (.int z)) (hN : N[i]? = some x := by rfl) (hk : ks[i]? = some (some k) := by rfl) (hv : visK k = true := by rfl) : Ev X T ρ (.Subscript (.Name x p) (.Constant (.int j) kk q) pos) Φ := by
  intro A σ B H Q s kQ
  have hd := h.hk i x k hN hk
  obtain ⟨t, c, eT, ev⟩ := s.sl i _ hr
  obtain ⟨nb, ns, a, b, n, hp, hc, hl⟩ := s.t t c eT
  refine we_of (pe_ix ix_list (pe_var (by rw [h.eN]; exact hN) (h.vis hN hk hv) hd.2.1 hd.2.2) pe_int (fun _ _ => rfl)) ⟨_, ev, ?_⟩
  rcases hj with rfl | rfl | rfl
  · exact ⟨t, _, 1, .int a, rfl, rfl, SqL.of hp, rfl, kQ.now s.e s.t (.int a) (hq a)⟩
  · exact ⟨t, _, 2, .int b, rfl, rfl, SqL.of hp, rfl, kQ.now s.e s.t (.int b) (hq b)⟩
  · exact ⟨t, _, 3, .int n, rfl, rfl, SqL.of hp, rfl, kQ.now s.e s.t (.int n) (hq n)⟩
/-- the tape's cells -/
theorem ev_tape0 (h : XOk G N sc ks gs fc lv X) (i : Nat) {x : Str} {k : NameKind} {kk} (hr : ρ[i]? = some .tape) (hq : ∀ ns : List Int, ns.length ≤ 63 → Φ (.list (ns.map .int))) (hN : N[i]? = some x := by rfl) (hk : ks[i]? = some (some k) := by rfl) (hv : visK k = true := by rfl) : Ev X T ρ (.Subscript (.Name x p) (.Constant (.int 0) kk q) pos) Φ := by
  intro A σ B H Q s kQ
  have hd := h.hk i x k hN hk
  obtain ⟨t, c, eT, ev⟩ := s.sl i _ hr
  obtain ⟨nb, ns, a, b, n, hp, hc, hl⟩ := s.t t c eT
  refine we_of (pe_ix ix_list (pe_var (by rw [h.eN]; exact hN) (h.vis hN hk hv) hd.2.1 hd.2.2) pe_int (fun _ _ => rfl)) ⟨_, ev, ?_⟩
  exact ⟨t, _, 0, .ref c, rfl, rfl, SqL.of hp, rfl, kQ.now s.e s.t (.lst hc of_ints) (hq ns hl)⟩
/-- tape[j] = a number -/
theorem s1_tapeSet (h : XOk G N sc ks gs fc lv X) (i : Nat) {x : Str} {k : NameKind} {j : Int} {kk} {px pt pj : Pos} (hr : ρ[i]? = some .tape) (hj : j = 1 ∨ j = 2 ∨ j = 3) (he : Ev X T ρ e fun d => ∃ z : Int, d = .int z ∧ O.nx ρ) (hN : N[i]? = some x := by rfl) (hk : ks[i]? = some (some k) := by rfl) (hv : visK k = true := by rfl)
    (hs : swapsWithSole [.Subscript (.Name x px) (.Constant (.int j) kk pj) pt] e pos.line X.env = pure false := by rfl) (hw : swappedStores [.Subscript (.Name x px) (.Constant (.int j) kk pj) pt] e X.env = pure none := by rfl) (h1 : (assignEach [.Subscript (.Name x px) (.Constant (.int j) kk pj) pt] X.env).map (·.2) = [assign (.Subscript (.Name x px) (.Constant (.int j) kk pj) pt) X.env] := by rfl)
    (ha : ∀ v, assign (.Subscript (.Name x px) (.Constant (.int j) kk pj) pt) X.env v = (do
      let ov ← holding [v] (eval (.Name x px) X.env)
      let iv ← holding [v, ov] (eval (.Constant (.int j) kk pj) X.env)
      standAt pt
      holding [v, ov, iv] (setItem ov iv v)
      release [v, ov, iv] []) := by intro _; rfl) : S1 X T ρ (.Assign [.Subscript (.Name x px) (.Constant (.int j) kk pj) pt] e pos) O := by
  intro A σ B H D s kD
  have hd := h.hk i x k hN hk
  have hn : PE X (.Name x px) (tVar i) := pe_var (by rw [h.eN]; exact hN) (h.vis hN hk hv) hd.2.1 hd.2.2
  refine ws_of (ps_asg pe_we (pg_sub hn pe_int set_list ha) hs hw h1) (he A σ B H _ s fun v d B1 H1 s1 r q => ?_)
  obtain ⟨z, rfl, q⟩ := q
  cases r
  have s2 := s.step s1
  obtain ⟨t, c, eT, ev⟩ := s2.sl i _ hr
  obtain ⟨nb, ns, a, b, n, hp, hc, hl⟩ := s2.t t c eT
  refine ⟨_, ev, ?_⟩
  rcases hj with rfl | rfl | rfl
  · exact ⟨t, _, 1, 1, rfl, rfl, hp, rfl, kD.nx σ B1 _ ρ (tape_set (a := z) (b := b) (n := n) s2 eT) q⟩
  · exact ⟨t, _, 2, 2, rfl, rfl, hp, rfl, kD.nx σ B1 _ ρ (tape_set (a := a) (b := z) (n := n) s2 eT) q⟩
  · exact ⟨t, _, 3, 3, rfl, rfl, hp, rfl, kD.nx σ B1 _ ρ (tape_set (a := a) (b := b) (n := z) s2 eT) q⟩
end
end DL
namespace RW
open PySem PySem.Spec PyProof.Rows L2 DL
section
variable {G : Glb}
/-- a draw gives any number below many -/
def C_draw : Con := fun ss Φ => ∃ m : Int, 0 < m ∧ m < 1073741824 ∧ ss = [.tape, .val (.int m)] ∧ ∀ r : Nat, (r : Int) < m → Φ (.int r)
theorem s1_cell {X : Cx} {T : Tape} {ρ : List DL.S} {O : Out} {lv : Nat} (h : XOk G N_l_draw (defScope (top 48)) K_l_draw G_l_draw true lv X) (hm : G.mg "len" = none) {z0 : Int} (ht : ρ[0]? = some .tape) (hz : ρ[2]? = some (.val (.int z0))) {z3 : Int} (hz3 : ρ[3]? = some (.val (.int z3))) (h1 : ∀ z : Int, O.nx (ρ.set 3 (.val (.int z))))
    {p1 p2 p3 p4 p5 p6 p7 p8 q1 q2 q3 q4 q5 q6 q7 q8 q9 q10 q11 q12 q13 : Pos} {k1 k2 k3 k4 : Nat}
    (hsw : ∀ env, swapsWith (.Subscript (.Subscript (.Name "_law_tape_here" q1) (.Constant (.int 0) k3 q2) q3) (.BinOp (.Name "_law_spot" q4) .Mod (.Call (.Name "len" q5) [.Subscript (.Name "_law_tape_here" q6) (.Constant (.int 0) k4 q7) q8] [] q9) q10) q11) (some (.Name "_law_cell" q12)) q13.line env = pure false) :
    S1 X T ρ (.If (.Compare (.Call (.Name "len" p1) [.Subscript (.Name "_law_tape_here" p2) (.Constant (.int 0) k1 p3) p4] [] p5) [.Gt] [.Constant (.int 0) k2 p6] p7)
      [.Assign [.Name "_law_cell" q12] (.Subscript (.Subscript (.Name "_law_tape_here" q1) (.Constant (.int 0) k3 q2) q3) (.BinOp (.Name "_law_spot" q4) .Mod (.Call (.Name "len" q5) [.Subscript (.Name "_law_tape_here" q6) (.Constant (.int 0) k4 q7) q8] [] q9) q10) q11) q13] [] p8) O := by
  intro A σ B H D s kD
  obtain ⟨t, c, eT, ev⟩ := s.sl 0 _ ht
  obtain ⟨nb, ns, a, b, n, hp, hc, hl63⟩ := s.t t c eT
  obtain ⟨v, ez, rz⟩ := s.val hz
  cases rz
  have hC := s.e _ _ hc
  have cells : ∀ {qa qb qc : Pos} {kx : Nat}, PE X (.Subscript (.Name "_law_tape_here" qa) (.Constant (.int 0) kx qb) qc) (tOp (rIxL X.K) (tVar 0) (tC (.int 0))) := pe_ix ix_list (h.var 0) pe_int (fun _ _ => rfl)
  have lenP : ∀ {qa qb qc qd qe : Pos} {kx : Nat}, PE X (.Call (.Name "len" qd) [.Subscript (.Name "_law_tape_here" qa) (.Constant (.int 0) kx qb) qc] [] qe) _ := pe_callB call_len_seq (h.gl (j := 0) rfl) (by rw [h.eg]; exact hm) bb_len (pa_cons cells pa_nil rfl) (by decide) (by decide) rfl rfl
  have l3 := h.loc (i := 3) rfl rfl rfl
  have nd : X.N.Nodup := by rw [h.eN]; exact h.nd
  refine ws_of (ps_if (pt_cmpR op_gt lenP pe_int (nomark _)) (pss_one (ps_set (i := 3) nd (by rw [h.eN]; rfl) l3.1 (pe_ix ix_list cells (pe_op op_mod (h.var 2) lenP) (fun _ _ => rfl)) (hsw _) l3.2)) pss_nil) ?_
  have atC : atI [V.ref c, .int a, .int b, .int n] 0 = some (.ref c) := rfl
  refine ⟨_, ev, t, _, 0, .ref c, rfl, rfl, SqL.of hp, atC, c, _, rfl, .inl (SqL.of hC), _, _, rfl, rfl, _, rfl, ?_⟩
  by_cases e : 0 < ns.length
  · rw [decide_eq_true (by simpa using e)]
    refine ifT ?_
    have hpos : (0 : Int) < ((ns.map V.int).length : Int) := by simpa using e
    refine ⟨_, ev, t, _, 0, .ref c, rfl, rfl, SqL.of hp, atC, _, ez, _, ev, t, _, 0, .ref c, rfl, rfl, SqL.of hp, atC, c, _, rfl, .inl (SqL.of hC), _, _, rfl, rfl, hpos, ?_⟩
    have e0 := Int.emod_nonneg z0 (show ((ns.map V.int).length : Int) ≠ 0 by omega)
    have e1 := Int.emod_lt_of_pos z0 hpos
    obtain ⟨i, hi⟩ : ∃ i : Nat, z0 % ((ns.map V.int).length : Int) = i := ⟨(z0 % ((ns.map V.int).length : Int)).toNat, by omega⟩
    have hin : i < ns.length := by rw [hi] at e1; simpa using e1
    refine ⟨c, _, z0 % ((ns.map V.int).length : Int), .int ns[i], rfl, rfl, SqL.of hC, ?_, ?_⟩
    · rw [hi, atI_nat (by simpa using hin)]
      simp
    · exact kD.nx _ B H _ (s.set (.int _)) (h1 ns[i])
  · rw [decide_eq_false (by simpa using e)]
    refine ifF ?_
    have same : ρ.set 3 (.val (.int z3)) = ρ := by
      apply List.ext_getElem?
      intro i
      by_cases e : 3 = i
      · subst e
        rw [List.getElem?_set_self (List.getElem?_eq_some_iff.mp hz3).1, hz3]
      · rw [List.getElem?_set_ne e]
    have := h1 z3
    rw [same] at this
    exact kD.nx σ B H ρ s this
theorem cal_draw (F : Facts G) : Cal G "_law_draw" 1 C_draw := by
  obtain ⟨f, fd, FD, hg⟩ := F.a_l_draw
  refine cal_of (lv := 0) FD hg S_l_draw bd_l_draw kg_l_draw (fun ss Φ h => ?_) (fun X T ss Φ h hp hc => ?_)
  · obtain ⟨_, _, _, rfl, _⟩ := h; rfl
  · obtain ⟨m, m0, m1, rfl, q⟩ := hc
    have fin : ∀ z : Int, Φ (.int (z % m)) := fun z => by
      have e0 := Int.emod_nonneg z (show m ≠ 0 by omega)
      have e1 := Int.emod_lt_of_pos z m0
      have := q (z % m).toNat (by omega)
      rw [Int.toNat_of_nonneg e0] at this
      exact this
    refine sx_cons ?_; refine s1_tapeSet h 0 rfl (.inr (.inr rfl)) ?_; refine ev_bin ?_; refine ev_tapeI h 0 rfl (.inr (.inr rfl)) fun n0 => ?_; refine ev_int ?_; refine od_add ?_; refine ⟨_, rfl, ?_⟩
    refine sx_cons ?_; refine s1_if ?_; refine et_cmp ?_; refine ev_tapeI h 0 rfl (.inr (.inl rfl)) fun b0 => ?_; refine ev_int ?_; refine od_eqI ⟨_, rfl, ?_⟩
    have rest : ∀ (a b c d : DL.S), Sx X T [.tape, .val (.int m), a, b, c, d] ((defBody (top 48)).drop 2) ⟨fun _ => Φ .none, Φ, fun _ => False, fun _ => False⟩ := fun a b c d => by
      refine sx_cons ?_; refine s1_set h 5 ?_; refine ev_bin ?_; refine ev_tapeI h 0 rfl (.inr (.inl rfl)) fun b1 => ?_; refine ev_name h 1 rfl ?_; refine od_mod m0 ?_
      refine sx_cons ?_; refine s1_tapeSet h 0 rfl (.inr (.inl rfl)) ?_; refine ev_bin ?_; refine ev_tapeI h 0 rfl (.inr (.inl rfl)) fun b2 => ?_; refine ev_name h 1 rfl ?_; refine od_div ⟨m0, m1⟩ ?_; refine ⟨_, rfl, ?_⟩
      refine sx_one ?_; refine s1_ret ?_; refine ev_name h 5 rfl ?_
      exact fin b1
    cases hb : decide (b0 = 0) with
    | false => refine ifF ?_; refine sx_nil ?_; exact rest _ _ _ _
    | true =>
      refine ifT ?_
      refine sx_cons ?_; refine s1_set h 2 ?_; refine ev_tapeI h 0 rfl (.inl rfl) fun a0 => ?_
      refine sx_cons ?_; refine s1_tapeSet h 0 rfl (.inl rfl) ?_; refine ev_bin ?_; refine ev_name h 2 rfl ?_; refine ev_int ?_; refine od_add ?_; refine ⟨_, rfl, ?_⟩
      refine sx_cons ?_; refine s1_set h 3 ?_; refine ev_int ?_
      refine sx_cons ?_; refine s1_cell h F.b_len rfl rfl rfl (fun cell => ?_) (fun _ => rfl)
      refine sx_cons ?_; refine s1_if ?_; refine et_w ?_; refine ew_or ?_; refine et_cmp ?_; refine ev_name h 3 rfl ?_; refine ev_bin ?_; refine ev_int ?_; refine ev_int ?_; refine od_pow ⟨by decide, by decide, by decide⟩ ?_; refine od_lt ⟨_, rfl, ?_⟩
      have cm : ∀ {x y : Int}, -(2 ^ 64) < x → x < 2 ^ 64 → CMul x y := fun a b => .inl ⟨a, b⟩
      have cr : ∀ {x y : Int}, -(2 ^ 64) < y → y < 2 ^ 64 → CMul x y := fun a b => .inr ⟨a, b⟩
      have cond : ∀ {P Q : Prop}, P → Q → ∀ b : Bool, if b = true then P else Q := fun p q b => by cases b; exact ifF q; exact ifT p
      cases hc : decide (cell < 10 ^ (18 : Int).toNat) with
      | true =>
        refine ifT ?_; refine ifT ?_
        refine sx_cons ?_; refine s1_set h 4 ?_; refine ev_bin ?_; refine ev_bin ?_; refine ev_bin ?_; refine ev_bin ?_; refine ev_name h 3 rfl ?_; refine ev_int ?_; refine od_mod (by decide) ?_; refine ev_bin ?_; refine ev_int ?_; refine ev_tapeI h 0 rfl (.inr (.inr rfl)) fun n1 => ?_; refine od_mul (cm (by decide) (by decide)) ?_; refine od_add ?_; refine ev_int ?_; refine od_mul (cr (by decide) (by decide)) ?_; refine ev_int ?_; refine od_mod (by decide) ?_
        refine sx_cons ?_; refine s1_set h 4 ?_; refine ev_bin ?_; refine ev_bin ?_; refine ev_bin ?_; refine ev_bin ?_; refine ev_name h 4 rfl ?_; refine ev_int ?_; refine od_div ⟨by decide, by decide⟩ ?_; refine ev_bin ?_; refine ev_int ?_; refine ev_tapeI h 0 rfl (.inr (.inr rfl)) fun n2 => ?_; refine od_mul (cm (by decide) (by decide)) ?_; refine od_add ?_; refine ev_int ?_; refine od_mul (cr (by decide) (by decide)) ?_; refine ev_int ?_; refine od_mod (by decide) ?_
        refine sx_one ?_; refine s1_ret ?_; refine ev_bin ?_; refine ev_bin ?_; refine ev_name h 4 rfl ?_; refine ev_int ?_; refine od_div ⟨by decide, by decide⟩ ?_; refine ev_name h 1 rfl ?_; refine od_mod m0 ?_
        exact fin _
      | false =>
        refine ifF ?_; refine ew_or1 ?_; refine et_cmp ?_; refine ev_name h 2 rfl ?_; refine ev_len h 0 F.b_len ?_; refine ev_tape0 h 0 rfl fun ns hns => ?_; refine ⟨ns.length, by simp [lenD], ?_⟩; refine od_ge ⟨_, rfl, ?_⟩
        refine cond ?_ ?_ _
        · refine sx_cons ?_; refine s1_set h 4 ?_; refine ev_bin ?_; refine ev_bin ?_; refine ev_bin ?_; refine ev_bin ?_; refine ev_name h 3 rfl ?_; refine ev_int ?_; refine od_mod (by decide) ?_; refine ev_bin ?_; refine ev_int ?_; refine ev_tapeI h 0 rfl (.inr (.inr rfl)) fun n1 => ?_; refine od_mul (cm (by decide) (by decide)) ?_; refine od_add ?_; refine ev_int ?_; refine od_mul (cr (by decide) (by decide)) ?_; refine ev_int ?_; refine od_mod (by decide) ?_
          refine sx_cons ?_; refine s1_set h 4 ?_; refine ev_bin ?_; refine ev_bin ?_; refine ev_bin ?_; refine ev_bin ?_; refine ev_name h 4 rfl ?_; refine ev_int ?_; refine od_div ⟨by decide, by decide⟩ ?_; refine ev_bin ?_; refine ev_int ?_; refine ev_tapeI h 0 rfl (.inr (.inr rfl)) fun n2 => ?_; refine od_mul (cm (by decide) (by decide)) ?_; refine od_add ?_; refine ev_int ?_; refine od_mul (cr (by decide) (by decide)) ?_; refine ev_int ?_; refine od_mod (by decide) ?_
          refine sx_one ?_; refine s1_ret ?_; refine ev_bin ?_; refine ev_bin ?_; refine ev_name h 4 rfl ?_; refine ev_int ?_; refine od_div ⟨by decide, by decide⟩ ?_; refine ev_name h 1 rfl ?_; refine od_mod m0 ?_
          exact fin _
        · refine sx_nil ?_
          refine sx_one ?_; refine s1_tapeSet h 0 rfl (.inr (.inl rfl)) ?_; refine ev_name h 3 rfl ?_; refine ⟨_, rfl, ?_⟩
          exact rest _ _ _ _
end
end RW
namespace RW
open PySem PySem.Spec PyProof.Rows L2 DL
theorem big_lo : ∀ c : L, small c = false → lo c = bk c := by decide
theorem big_up : ∀ c : L, small c = true → up c = bk c := by decide
theorem chars_tx (w : List L) : ((tx w).cps.toList.map fun c => PyData.str ⟨#[c]⟩) = w.map fun c => dT [c] := by
  rw [tx_list, List.map_map]; rfl
theorem sum_ones {α : Type} (w : List α) (f : α → Str) (h : ∀ a ∈ w, (f a).length = 1) : ((w.map f).map (·.length)).sum = w.length := by
  induction w with
  | nil => rfl
  | cons a w ih =>
    simp only [List.map_cons, List.sum_cons, List.length_cons]
    rw [h a (List.mem_cons_self ..), ih fun b hb => h b (List.mem_cons_of_mem _ hb)]; omega
theorem flat_ones (w : List L) : (w.map fun c => [c]).flatten = w := by
  induction w with
  | nil => rfl
  | cons a w ih => rw [List.map_cons, List.flatten_cons, ih]; rfl
theorem join_ones (w : List L) : Txt.join "" (w.map fun c => tx [c]) = tx w := by
  have := join_tx (w.map fun c => [c])
  rw [List.map_map, flat_ones] at this
  exact this
theorem tx_rev (w : List L) : (⟨(tx w).cps.reverse⟩ : Str) = tx w.reverse := by simp [tx]
section
variable {X : Cx} {T : Tape} {ρ : List DL.S} {Φ : PyData → Prop} {e o : Expr} {pos apos : Pos}
/-- letters put together -/
theorem ev_joinW {jk : Nat} {jp : Pos} (h : Ev X T ρ e fun x => ∃ w : List L, (x = .list (w.map fun c => dT [c])) ∧ w.length ≤ 10000 ∧ Φ (dT w))
    (hs : starEach [e] X.env = [(false, eval e X.env)] := by rfl) (hline : (apos.endLine == pos.line) = true := by rfl) : Ev X T ρ (.Call (.Attribute (.Constant (.str "") jk jp) "join" apos) [e] [] pos) Φ := by
  refine ev_join (ev_str ⟨_, rfl, h.mono fun x ⟨w, e, l, q⟩ => ⟨w.map fun c => tx [c], .inl (by rw [e, List.map_map]; rfl), ?_, ?_⟩⟩) hs rfl hline
  · rw [sum_ones w _ fun a _ => by rw [tx_len]; rfl]
    show w.length + _ * 0 ≤ _
    omega
  · rw [join_ones]; exact q
end
section
variable {G : Glb}
def C_lback : Con := fun ss Φ => ∃ w : List L, w.length ≤ 1000 ∧ ss = [.val (dT w)] ∧ Φ (dT (bkw w))
theorem cal_lback (F : Facts G) : Cal G "_law_back" 1 C_lback := by
  obtain ⟨f, fd, FD, hg⟩ := F.a_l_back
  refine cal_of (lv := 0) FD hg S_l_back bd_l_back kg_l_back (fun ss Φ h => ?_) (fun X T ss Φ h hp hc => ?_)
  · obtain ⟨_, _, rfl, _⟩ := h; rfl
  · obtain ⟨w, hl, rfl, q⟩ := hc
    refine sx_one ?_; refine s1_ret ?_; refine ev_joinW ?_
    refine ev_lc h o_l_back0 [1] k_l_back0 g_l_back0 ?_; refine ei_str ?_; refine ev_revS ?_; refine ev_name h 0 rfl ?_
    refine ⟨_, rfl, by rw [tx_len]; omega, _, rfl, ?_⟩
    rw [tx_rev, chars_tx]
    refine LcQ.on (fun c : L => dT [c]) w.reverse (fun _ => true) (fun c => dT [bk c]) (by rw [List.length_reverse]; omega) (fun c hc => ?_) ?_
    · refine ⟨_, fun X' h' => tg_name h' 1 rfl, fun X' h' => ets_nil rfl, fun _ X' h' => ?_⟩
      refine ev_ifExp ?_; refine et_cmp ?_; refine ev_name h' 1 rfl ?_; refine ev_str ?_; refine od_big ⟨_, rfl, ?_⟩
      cases hs : small c with
      | false =>
        refine ifT ?_; refine ev_lower ?_; refine ev_name h' 1 rfl ?_; refine ⟨_, rfl, by rw [tx_len]; exact Nat.le_of_ble_eq_true rfl, ?_⟩
        rw [lo_tx, big_lo c hs]
      | true =>
        refine ifF ?_; refine ev_upper ?_; refine ev_name h' 1 rfl ?_; refine ⟨_, rfl, by rw [tx_len]; exact Nat.le_of_ble_eq_true rfl, ?_⟩
        rw [up_tx, big_up c hs]
    · refine ⟨bkw w, ?_, by simp [bkw]; omega, q⟩
      rw [List.filter_eq_self.mpr fun _ _ => rfl]
      show _ = PyData.list (((w.map bk).reverse).map fun c => dT [c])
      rw [List.map_reverse, List.map_reverse, List.map_map]; rfl
/-! ### the ends in a row -/
def bgL (i : Nat) : L := ⟨i % 6 + 6, by omega⟩
def smL (i : Nat) : L := ⟨i % 6, by omega⟩
theorem bg_of_lo : ∀ c : L, (lo c = c ∧ c = smL c.val) ∨ (c = bgL (lo c).val ∧ lo c = smL (lo c).val) := by decide
theorem lo_smL : ∀ i, i < 6 → (lo (smL i)).val = i ∧ (lo (bgL i)).val = i ∧ smL i ≠ bgL i := by decide
theorem lo_is_smL (c : L) : c = smL (lo c).val ∨ c = bgL (lo c).val := by revert c; decide
theorem small_ix {i : Nat} (h : i < 6) {X : Cx} {Φ : PyData → Prop} (q : Φ (dT [smL i])) : Ixd X (.str "abcdef") (.int (i : Nat)) Φ := by
  refine ix_S (Nat.le_of_ble_eq_true rfl) (small_at h) ?_
  have e : (⟨#[97 + i]⟩ : Str) = tx [smL i] := by
    match i, h with
    | 0, _ | 1, _ | 2, _ | 3, _ | 4, _ | 5, _ => rfl
  rw [e]; exact q
theorem big_ix {i : Nat} (h : i < 6) {X : Cx} {Φ : PyData → Prop} (q : Φ (dT [bgL i])) : Ixd X (.str "ABCDEF") (.int (i : Nat)) Φ := by
  have e : (⟨#[65 + i]⟩ : Str) = tx [bgL i] := by
    match i, h with
    | 0, _ | 1, _ | 2, _ | 3, _ | 4, _ | 5, _ => rfl
  refine ix_S (c := 65 + i) (Nat.le_of_ble_eq_true rfl) ?_ (by rw [e]; exact q)
  match i, h with
  | 0, _ | 1, _ | 2, _ | 3, _ | 4, _ | 5, _ => decide +kernel
def insW (w : List L) (n : Nat) (c : L) : List L := w.take n ++ [c] ++ w.drop n
theorem insW_perm (w : List L) (n : Nat) (c : L) : (insW w n c).Perm (c :: w) := by
  unfold insW
  rw [List.append_assoc]
  refine List.perm_middle.trans ?_
  show (c :: (w.take n ++ w.drop n)).Perm _
  rw [List.take_append_drop]
theorem ins_map {β : Type} (f : L → β) (w : List L) (n : Nat) (c : L) : (w.map f).take n ++ [f c] ++ (w.map f).drop n = (insW w n c).map f := by
  unfold insW
  rw [List.map_append, List.map_append, List.map_take, List.map_drop]; rfl
structure RowI (w : List L) (i : Nat) : Prop where
  nd : w.Nodup
  ln : w.length = 2 * i
  mem : ∀ c, c ∈ w ↔ (lo c).val < i
theorem RowI.next {w : List L} {i n m : Nat} (r : RowI w i) (hi : i < 6) : RowI (insW (insW w n (smL i)) m (bgL i)) (i + 1) := by
  have p : (insW (insW w n (smL i)) m (bgL i)).Perm (bgL i :: smL i :: w) := (insW_perm _ _ _).trans ((insW_perm _ _ _).cons _)
  obtain ⟨h1, h2, h3⟩ := lo_smL i hi
  refine ⟨p.nodup_iff.mpr ?_, by rw [p.length_eq]; simp [r.ln]; omega, fun c => ?_⟩
  · refine List.nodup_cons.mpr ⟨fun z => ?_, List.nodup_cons.mpr ⟨fun z => ?_, r.nd⟩⟩
    · rcases List.mem_cons.mp z with q | q
      · exact h3 q.symm
      · have := (r.mem _).mp q; omega
    · have := (r.mem _).mp z; omega
  · rw [p.mem_iff, List.mem_cons, List.mem_cons, r.mem]
    constructor
    · rintro (rfl | rfl | q)
      · omega
      · omega
      · omega
    · intro q
      by_cases e : (lo c).val = i
      · rcases lo_is_smL c with q | q
        · rw [e] at q; exact .inr (.inl q)
        · rw [e] at q; exact .inl q
      · exact .inr (.inr (by omega))
def C_any_row : Con := fun ss Φ => ss = [.tape, .val (.int 6)] ∧ ∀ S k, Sok S k → Φ (dT S)
theorem cal_any_row (F : Facts G) : Cal G "_law_any_row" 2 C_any_row := by
  obtain ⟨f, fd, FD, hg⟩ := F.a_l_any_row
  refine cal_of (lv := 1) FD hg S_l_any_row bd_l_any_row kg_l_any_row (fun ss Φ h => ?_) (fun X T ss Φ h hp hc => ?_)
  · obtain ⟨rfl, _⟩ := h; rfl
  · obtain ⟨rfl, q⟩ := hc
    refine sx_cons ?_; refine s1_setO h 2 ?_; refine ea_nil ?_; refine ⟨[], rfl, Nat.zero_le _, ?_⟩
    refine sx_cons ?_; refine s1_for (is := [3]) hp h ?_; refine ei_range1 h 0 F.b_range ?_
    refine ev_bin ?_; refine ev_int ?_; refine ev_call h (cal_draw F) 1 ?_; refine ea_tape h 0 rfl ?_; refine ea_val ?_; refine ev_name h 1 rfl ?_; refine ea_nil ?_
    refine ⟨6, by decide, by decide, rfl, fun r hr => ?_⟩
    refine od_add ⟨_, rfl, by omega, by omega, ?_⟩
    have nr : ((1 : Int) + (r : Nat)).toNat = r + 1 := by omega
    rw [nr]
    have hr6 : r < 6 := by omega
    refine ⟨fun i ρ => i ≤ r + 1 ∧ ∃ w a b, ρ = [.tape, .val (.int 6), .own (List.map (fun c => dT [c]) w), a, b] ∧ RowI w i, ⟨Nat.zero_le _, [], _, _, rfl, List.nodup_nil, rfl, fun c => ⟨fun z => (List.not_mem_nil z).elim, fun z => (Nat.not_lt_zero _ z).elim⟩⟩, fun i d ρ hd hI => ?_, fun ρ hI => ?_⟩
    · obtain ⟨hi, w, a, b, rfl, hw⟩ := hI
      have hi' : i < r + 1 := by have := (List.getElem?_eq_some_iff.mp hd).1; simpa [len_rng] using this
      have ed : d = .int (i : Nat) := by
        simp [rng, hi'] at hd
        exact hd.symm
      subst ed
      have i6 : i < 6 := by omega
      refine tg_name h 3 ?_
      refine sx_one ?_; refine s1_for (is := [4]) hp h ?_; refine ei_tup ?_; refine ev_tup ?_
      refine ea_val ?_; refine ev_ix ?_; refine ev_str ?_; refine ev_name h 3 rfl ?_; refine small_ix i6 ?_
      refine ea_val ?_; refine ev_ix ?_; refine ev_str ?_; refine ev_name h 3 rfl ?_; refine big_ix i6 ?_
      refine ea_nil ?_; refine ⟨_, rfl, Nat.le_of_ble_eq_true rfl, _, rfl, ?_⟩
      refine ⟨fun j ρ => ∃ v a b, ρ = [.tape, .val (.int 6), .own (List.map (fun c => dT [c]) v), a, b] ∧ ((j = 0 ∧ v = w) ∨ (j = 1 ∧ ∃ n, v = insW w n (smL i)) ∨ (j = 2 ∧ ∃ n m, v = insW (insW w n (smL i)) m (bgL i))), ⟨w, _, _, rfl, .inl ⟨rfl, rfl⟩⟩, fun j d ρ hd hJ => ?_, fun ρ hJ => ?_⟩
      · obtain ⟨v, a, b, rfl, hv⟩ := hJ
        refine tg_name h 4 ?_
        have lv : v.length ≤ 100 := by
          have h1 := hw.ln
          rcases hv with ⟨_, rfl⟩ | ⟨_, n, rfl⟩ | ⟨_, n, m, rfl⟩
          · omega
          · rw [(insW_perm _ _ _).length_eq, List.length_cons]; omega
          · rw [(insW_perm _ _ _).length_eq, List.length_cons, (insW_perm _ _ _).length_eq, List.length_cons]; omega
        refine sx_one ?_; refine s1_insert h 2 rfl ?_
        refine ev_view 2 rfl ?_; refine ev_call h (cal_draw F) 1 ?_; refine ea_tape h 0 rfl ?_; refine ea_val ?_; refine ev_bin ?_; refine ev_len h 2 F.b_len ?_; refine ev_name h 2 rfl ?_; refine ⟨v.length, by simp [lenD], ?_⟩; refine ev_int ?_; refine od_add ?_; refine ea_nil ?_
        refine ⟨_, by omega, by omega, rfl, fun n hn => ⟨rfl, ?_⟩⟩
        refine ev_name h 4 rfl ?_
        refine ⟨n, rfl, by omega, by rw [List.length_map]; omega, ?_⟩
        rcases hv with ⟨rfl, rfl⟩ | ⟨rfl, n1, rfl⟩ | ⟨rfl, n1, m1, rfl⟩
        · cases hd
          exact ⟨insW v n (smL i), _, _, by rw [ins_map (fun c => dT [c])]; rfl, .inr (.inl ⟨rfl, n, rfl⟩)⟩
        · cases hd
          exact ⟨insW (insW w n1 (smL i)) n (bgL i), _, _, by rw [ins_map (fun c => dT [c])]; rfl, .inr (.inr ⟨rfl, n1, n, rfl⟩)⟩
        · cases hd
      · obtain ⟨v, a, b, rfl, hv⟩ := hJ
        rcases hv with ⟨e, _⟩ | ⟨e, _⟩ | ⟨_, n, m, rfl⟩
        · cases e
        · cases e
        · exact ⟨hi', _, _, _, rfl, hw.next i6⟩
    · obtain ⟨_, w, a, b, rfl, hw⟩ := hI
      rw [len_rng] at hw
      refine sx_freeze 2 rfl ?_; refine sx_one ?_; refine s1_ret ?_; refine ev_joinW ?_; refine ev_name h 2 rfl ?_
      have := hw.ln
      exact ⟨w, rfl, by omega, q w (r + 1) ⟨hw.nd, hw.ln, by omega, by omega, hw.mem⟩⟩
end
end RW
namespace RW
open PySem PySem.Spec PyProof.Rows L2 DL
theorem atI_last {α : Type} {xs : List α} (h : 0 < xs.length) : atI xs (-1) = some xs[xs.length - 1] := by
  unfold atI
  have e : ixN xs.length (-1) = some (xs.length - 1) := by
    unfold ixN
    simp
    omega
  rw [e]
  exact List.getElem?_eq_getElem (by omega)
theorem cut_in {α : Type} (xs : List α) (h : 2 ≤ xs.length) : cutL xs (some 1) (some (-1)) = (xs.drop 1).take (xs.length - 2) := by
  unfold cutL
  have e1 : HT.sIx xs.length 0 (some 1) = 1 := by
    have := HT.sIx_nat xs.length 0 1
    rw [show ((1 : Nat) : Int) = 1 from rfl] at this
    rw [this]; omega
  have e2 : HT.sIx xs.length xs.length (some (-1)) = xs.length - 1 := by
    unfold HT.sIx
    simp
    omega
  rw [e1, e2]
  congr 1
theorem red_take {w : List L} (h : Red w) (n : Nat) : Red (w.take n) := fun i hi => by
  rw [List.length_take] at hi
  rw [List.getElem_take, List.getElem_take]
  exact h i (by omega)
theorem red_drop {w : List L} (h : Red w) (n : Nat) : Red (w.drop n) := fun i hi => by
  rw [List.length_drop] at hi
  rw [List.getElem_drop, List.getElem_drop]
  exact h (n + i) (by omega)
theorem red_app {w : List L} {c : L} (h : Red w) (hc : ∀ h1 : 0 < w.length, w[w.length - 1] ≠ bk c) : Red (w ++ [c]) := fun i hi => by
  rw [List.length_append, List.length_singleton] at hi
  by_cases e : i + 1 < w.length
  · rw [List.getElem_append_left e, List.getElem_append_left (by omega)]
    exact h i e
  · rw [List.getElem_append_right (by omega), List.getElem_append_left (by omega)]
    have ei : i = w.length - 1 := by omega
    subst ei
    simp only [List.getElem_singleton]
    exact fun z => hc (by omega) (by rw [z, bk_bk])
section
variable {G : Glb}
theorem ev_letters {X : Cx} {T : Tape} {ρ : List DL.S} {Φ : PyData → Prop} {xs : List PyData} {v : List L} (e : xs = v.map fun c => dT [c]) (q : Φ (.list (v.map fun c => dT [c]))) : Φ (.list xs) := by rw [e]; exact q
theorem ix_lt {X : Cx} {Φ : PyData → Prop} {v : List L} {i : Nat} (h : i < v.length) (q : Φ (dT [v[i]])) : Ixd X (.list (v.map fun c => dT [c])) (.int (i : Nat)) Φ := by
  refine ixD_L (by rw [List.length_map]; exact h) ?_
  rw [List.getElem_map]; exact q
theorem ix_lst {X : Cx} {Φ : PyData → Prop} {v : List L} (h : 0 < v.length) (q : Φ (dT [v[v.length - 1]])) : Ixd X (.list (v.map fun c => dT [c])) (.int (-1)) Φ := by
  refine ix_L (d := dT [v[v.length - 1]]) ?_ q
  rw [atI_last (by rw [List.length_map]; exact h), List.getElem_map]
  simp only [List.length_map]
def C_inner : Con := fun ss Φ => ∃ w : List L, w.length ≤ 100 ∧ ss = [.val (dT w)] ∧ ∀ v : List L, v.length ≤ w.length → (∀ c ∈ v, c ∈ w) → (0 < v.length → Round v) → Φ (dT v)
theorem cal_inner (F : Facts G) : Cal G "_law_inner" 2 C_inner := by
  obtain ⟨f, fd, FD, hg⟩ := F.a_l_inner
  refine cal_of (lv := 1) FD hg S_l_inner bd_l_inner kg_l_inner (fun ss Φ h => ?_) (fun X T ss Φ h hp hc => ?_)
  · obtain ⟨_, _, rfl, _⟩ := h; rfl
  · obtain ⟨w, hl, rfl, q⟩ := hc
    refine sx_cons ?_; refine s1_setO h 1 ?_; refine ea_nil ?_; refine ⟨[], rfl, Nat.zero_le _, ?_⟩
    refine sx_cons ?_; refine s1_for (is := [2]) hp h ?_; refine ei_str ?_; refine ev_name h 0 rfl ?_; refine ⟨_, rfl, ?_⟩
    rw [chars_tx]
    refine ⟨fun i ρ => i ≤ w.length ∧ ∃ v a, ρ = [.val (dT w), .own (List.map (fun c => dT [c]) v), a] ∧ v.length ≤ i ∧ (∀ c ∈ v, c ∈ w) ∧ Red v, ⟨Nat.zero_le _, [], _, rfl, Nat.zero_le _, fun c hc => (List.not_mem_nil hc).elim, fun i hi => (Nat.not_lt_zero _ hi).elim⟩, fun i d ρ hd hI => ?_, fun ρ hI => ?_⟩
    · obtain ⟨hi, v, a, rfl, hv, hm, hr⟩ := hI
      have hi' : i < w.length := by have := (List.getElem?_eq_some_iff.mp hd).1; simpa using this
      rw [List.getElem?_map, List.getElem?_eq_getElem hi'] at hd
      cases hd
      refine tg_name h 2 ?_
      refine sx_one ?_; refine s1_if ?_; refine et_view 1 rfl ?_
      refine et_w ?_; refine ew_and ?_; refine et_cmp ?_; refine ev_len h 0 F.b_len ?_; refine ev_name h 1 rfl ?_; refine ⟨v.length, by simp [lenD], ?_⟩; refine ev_int ?_; refine od_gt ⟨_, rfl, ?_⟩
      have app : (∀ h1 : 0 < v.length, v[v.length - 1] ≠ bk w[i]) → ∃ v' a', [DL.S.val (dT w), .own (List.map (fun c => dT [c]) v ++ [dT [w[i]]]), .val (dT [w[i]])] = [.val (dT w), .own (List.map (fun c => dT [c]) v'), a'] ∧ v'.length ≤ i + 1 ∧ (∀ c ∈ v', c ∈ w) ∧ Red v' := fun hn => by
        refine ⟨v ++ [w[i]], .val (dT [w[i]]), by rw [List.map_append]; rfl, by simp; omega, fun c hc => ?_, red_app hr hn⟩
        rcases List.mem_append.mp hc with q | q
        · exact hm c q
        · rw [List.mem_singleton.mp q]; exact List.getElem_mem _
      by_cases h0 : 0 < v.length
      · rw [decide_eq_true (by omega)]; refine ifT ?_
        refine ew_and1 ?_; refine et_cmp ?_; refine ev_ix ?_; refine ev_name h 1 rfl ?_; refine ev_un ?_; refine ev_int ?_; refine ud_neg ?_; refine ix_lst h0 ?_
        refine ev_call h (cal_lback F) 1 ?_; refine ea_val ?_; refine ev_name h 2 rfl ?_; refine ea_nil ?_; refine ⟨[w[i]], Nat.le_of_ble_eq_true rfl, rfl, ?_⟩
        refine od_eqL (b := bk w[i]) ⟨_, rfl, ?_⟩
        by_cases h1 : v[v.length - 1] = bk w[i]
        · rw [decide_eq_true h1]; refine ifT ?_
          refine sx_one ?_; refine s1_pop h 1 rfl (by rw [List.length_map]; exact h0) ?_
          refine ⟨hi', v.dropLast, _, by rw [← List.map_dropLast]; rfl, by simp; omega, fun c hc => hm c (List.mem_of_mem_take (by rw [List.dropLast_eq_take] at hc; exact hc)), ?_⟩
          rw [List.dropLast_eq_take]
          exact red_take hr _
        · rw [decide_eq_false h1]; refine ifF ?_
          refine sx_one ?_; refine s1_append h 1 rfl ?_; refine ev_name h 2 rfl ?_
          exact ⟨by rw [List.length_map]; omega, hi', app fun _ => h1⟩
      · rw [decide_eq_false (by omega)]; refine ifF ?_; refine ifF ?_
        refine sx_one ?_; refine s1_append h 1 rfl ?_; refine ev_name h 2 rfl ?_
        exact ⟨by rw [List.length_map]; omega, hi', app fun z => absurd z h0⟩
    · obtain ⟨_, v, a, rfl, hv, hm, hr⟩ := hI
      rw [List.length_map] at hv
      refine sx_freeze 1 rfl ?_
      refine sx_cons ?_
      refine s1_whileP hp (fun mm ρ => ∃ v : List L, mm = v.length ∧ ρ = [.val (dT w), .val (.list (List.map (fun c => dT [c]) v)), a] ∧ v.length ≤ w.length ∧ (∀ c ∈ v, c ∈ w) ∧ Red v)
        (fun ρ => ∃ v : List L, ρ = [.val (dT w), .val (.list (List.map (fun c => dT [c]) v)), a] ∧ v.length ≤ w.length ∧ (∀ c ∈ v, c ∈ w) ∧ (0 < v.length → Round v)) v.length ⟨v, rfl, rfl, hv, hm, hr⟩ ?_ ?_
      · rintro mm ρ' ⟨v, rfl, rfl, hv, hm, hr⟩
        refine et_w ?_; refine ew_and ?_; refine et_cmp ?_; refine ev_len h 0 F.b_len ?_; refine ev_name h 1 rfl ?_; refine ⟨v.length, by simp [lenD], ?_⟩; refine ev_int ?_; refine od_gt ⟨_, rfl, ?_⟩
        by_cases h1 : 1 < v.length
        · rw [decide_eq_true (by omega)]; refine ifT ?_
          refine ew_and1 ?_; refine et_cmp ?_; refine ev_ix ?_; refine ev_name h 1 rfl ?_; refine ev_int ?_; refine ix_lt (i := 0) (by omega) ?_
          refine ev_call h (cal_lback F) 1 ?_; refine ea_val ?_; refine ev_ix ?_; refine ev_name h 1 rfl ?_; refine ev_un ?_; refine ev_int ?_; refine ud_neg ?_; refine ix_lst (by omega) ?_; refine ea_nil ?_; refine ⟨[v[v.length - 1]], Nat.le_of_ble_eq_true rfl, rfl, ?_⟩
          refine od_eqL (b := bk v[v.length - 1]) ⟨_, rfl, ?_⟩
          by_cases h2 : v[0] = bk v[v.length - 1]
          · rw [decide_eq_true h2]; refine ifT ?_
            refine sx_one ?_; refine s1_set h 1 ?_; refine ev_slice ?_; refine ev_name h 1 rfl ?_; refine eo_some ?_; refine ev_int ?_; refine ⟨_, rfl, ?_⟩; refine eo_some ?_; refine ev_un ?_; refine ev_int ?_; refine ud_neg ?_; refine ⟨_, rfl, ?_⟩
            refine sl_LD (fun c => dT [c]) ?_
            rw [cut_in v (by omega)]
            refine ⟨((v.drop 1).take (v.length - 2)).length, ?_, _, rfl, rfl, ?_, fun c hc => hm c (List.mem_of_mem_drop (List.mem_of_mem_take hc)), red_take (red_drop hr _) _⟩
            · rw [List.length_take, List.length_drop]; omega
            · rw [List.length_take, List.length_drop]; omega
          · rw [decide_eq_false h2]; refine ifF ?_
            exact ⟨v, rfl, hv, hm, fun hn => round_of hn hr fun _ => h2⟩
        · rw [decide_eq_false (by omega)]; refine ifF ?_; refine ifF ?_
          exact ⟨v, rfl, hv, hm, fun hn => round_of hn hr fun z => absurd z h1⟩
      · rintro ρ' ⟨v, rfl, hv, hm, hr⟩
        refine sx_one ?_; refine s1_ret ?_; refine ev_joinW ?_; refine ev_name h 1 rfl ?_
        exact ⟨v, rfl, by omega, q v hv hm hr⟩
theorem rep_tx (p : List L) (q : Nat) : (⟨(List.replicate q (tx p).cps.toList).flatten.toArray⟩ : Str) = tx (rep p q) := by
  rw [tx_list]
  unfold tx rep
  rw [List.map_flatten, List.map_replicate]
def C_rooted : Con := fun ss Φ => ∃ w : List L, w.length ≤ 100 ∧ (0 < w.length → Round w) ∧ ss = [.val (dT w)] ∧ (w.length = 0 → Φ (dT [])) ∧ ∀ v : List L, 0 < v.length → v.length ≤ w.length → (∀ c ∈ v, c ∈ w) → Round v → Prim v → Φ (dT v)
theorem cal_rooted (F : Facts G) : Cal G "_law_rooted" 1 C_rooted := by
  obtain ⟨f, fd, FD, hg⟩ := F.a_l_rooted
  refine cal_of (lv := 0) FD hg S_l_rooted bd_l_rooted kg_l_rooted (fun ss Φ h => ?_) (fun X T ss Φ h hp hc => ?_)
  · obtain ⟨_, _, _, rfl, _⟩ := h; rfl
  · obtain ⟨w, hl, hr, rfl, q0, q⟩ := hc
    refine sx_cons ?_; refine s1_for (is := [1]) hp h ?_; refine ei_range2 h 0 F.b_range ?_; refine ev_int ?_; refine ev_len h 1 F.b_len ?_; refine ev_name h 0 rfl ?_
    refine ⟨w.length, by simp [lenD, tx_len]; omega, _, _, rfl, rfl, ⟨by decide, by decide, by omega, by omega⟩, ?_⟩
    have en : ((w.length : Int) - 1).toNat = w.length - 1 := by omega
    rw [en]
    refine ⟨fun i ρ => i ≤ w.length - 1 ∧ ∃ a, ρ = [.val (dT w), a] ∧ ∀ m, 1 ≤ m → m < i + 1 → rep (w.take m) (w.length / m) ≠ w, ⟨Nat.zero_le _, _, rfl, fun m a b => by omega⟩, fun i d ρ hd hI => ?_, fun ρ hI => ?_⟩
    · obtain ⟨hi, a, rfl, hm⟩ := hI
      have hi' : i < w.length - 1 := by have := (List.getElem?_eq_some_iff.mp hd).1; simpa [len_rng] using this
      have ed : d = .int ((i + 1 : Nat) : Int) := by
        simp [rng, hi'] at hd
        rw [← hd]; congr 1; omega
      subst ed
      refine tg_name h 1 ?_
      refine sx_one ?_; refine s1_if ?_; refine et_cmp ?_; refine ev_bin ?_
      refine ev_slice ?_; refine ev_name h 0 rfl ?_; refine eo_none ?_; refine eo_some ?_; refine ev_name h 1 rfl ?_; refine ⟨_, rfl, ?_⟩; refine sl_W (by omega) ?_
      rw [cut_to]
      refine ev_bin ?_; refine ev_len h 1 F.b_len ?_; refine ev_name h 0 rfl ?_; refine ⟨w.length, by simp [lenD, tx_len]; omega, ?_⟩; refine ev_name h 1 rfl ?_; refine od_div ⟨by omega, by omega⟩ ?_
      have ediv : ((w.length : Int) / ((i + 1 : Nat) : Int)) = ((w.length / (i + 1) : Nat) : Int) := (Int.natCast_ediv _ _).symm
      rw [ediv]
      have dl : w.length / (i + 1) ≤ w.length := Nat.div_le_self _ _
      refine od_mulS (by rw [tx_len, List.length_take]; omega) (by omega) ?_
      refine ev_name h 0 rfl ?_; refine od_eqS ⟨_, rfl, ?_⟩
      rw [rep_tx, show decide (tx (rep (w.take (i + 1)) (w.length / (i + 1))) = tx w) = decide (rep (w.take (i + 1)) (w.length / (i + 1)) = w) from decide_eq_decide.mpr tx_inj]
      by_cases e : rep (w.take (i + 1)) (w.length / (i + 1)) = w
      · rw [decide_eq_true e]; refine ifT ?_
        refine sx_one ?_; refine s1_ret ?_; refine ev_slice ?_; refine ev_name h 0 rfl ?_; refine eo_none ?_; refine eo_some ?_; refine ev_name h 1 rfl ?_; refine ⟨_, rfl, ?_⟩; refine sl_W (by omega) ?_
        rw [cut_to]
        have R := root_way (w := w) (by omega) (hr (by omega)) (n := i + 1) (by omega) (by omega) e hm
        exact q _ (by rw [List.length_take]; omega) (by rw [List.length_take]; omega) (fun c hc => List.mem_of_mem_take hc) R.1 R.2
      · rw [decide_eq_false e]; refine ifF ?_; refine sx_nil ?_
        refine ⟨hi', _, rfl, fun m a b => ?_⟩
        by_cases em : m = i + 1
        · rw [em]; exact e
        · exact hm m a (by omega)
    · obtain ⟨_, a, rfl, hm⟩ := hI
      have lr : (rng 1 (w.length - 1)).length = w.length - 1 := len_rng
      rw [lr] at hm
      refine sx_one ?_; refine s1_ret ?_; refine ev_name h 0 rfl ?_
      by_cases hn : 0 < w.length
      · have e1 : rep (w.take w.length) (w.length / w.length) = w := by
          rw [List.take_length, Nat.div_self hn]
          simp [rep]
        have R := root_way hn (hr hn) (n := w.length) hn (Nat.le_refl _) e1 (fun m a b => hm m a (by omega))
        rw [List.take_length] at R
        exact q w hn (Nat.le_refl _) (fun c hc => hc) R.1 R.2
      · have e0 : w = [] := List.eq_nil_of_length_eq_zero (by omega)
        have := q0 (by omega)
        rw [e0]; exact this
end
end RW
namespace RW
open PySem PySem.Spec PyProof.Rows L2 DL
def sgs (k : Nat) : List L := ([0, 1, 2, 3, 4, 5] : List L).take k ++ ([6, 7, 8, 9, 10, 11] : List L).take k
theorem sgs_mem : ∀ k, k < 7 → ∀ c : L, c ∈ sgs k ↔ (lo c).val < k := by decide
theorem sgs_len : ∀ k, k < 7 → (sgs k).length = 2 * k := by decide
section
variable {G : Glb}
theorem sgs_cat {k : Nat} {X : Cx} {T : Tape} {ρ : List DL.S} {Φ : PyData → Prop} {e1 e2 : Expr} {p1 p2 p3 p4 p5 p6 pos : Pos} {k1 k2 : Nat} (hk : k < 7)
    (h1 : Ev X T ρ e1 (· = .int (k : Nat))) (h2 : Ev X T ρ e2 (· = .int (k : Nat))) (q : Φ (dT (sgs k))) :
    Ev X T ρ (.BinOp (.Subscript (.Constant (.str "abcdef") k1 p1) (.Slice none (some e1) none p2) p3) .Add (.Subscript (.Constant (.str "ABCDEF") k2 p4) (.Slice none (some e2) none p5) p6) pos) Φ := by
  refine ev_bin ?_; refine ev_slice ?_; refine ev_str ?_; refine eo_none ?_; refine eo_some ?_
  refine h1.mono ?_
  rintro d rfl
  refine ⟨_, rfl, ?_⟩; refine sl_W (w := [0, 1, 2, 3, 4, 5]) (by decide) ?_
  rw [cut_to]
  refine ev_slice ?_; refine ev_str ?_; refine eo_none ?_; refine eo_some ?_
  refine h2.mono ?_
  rintro d rfl
  refine ⟨_, rfl, ?_⟩; refine sl_W (w := [6, 7, 8, 9, 10, 11]) (by decide) ?_
  rw [cut_to]
  exact od_addW (by simp; omega) q
def C_any_way : Con := fun ss Φ => ∃ (S : List L) (k long : Nat), Sok S k ∧ 1 ≤ long ∧ long ≤ 9 ∧ ss = [.tape, .val (.int (k : Nat)), .val (.int (long : Nat))] ∧ ∀ w : List L, Way S w → w.length ≤ long → Φ (dT w)
theorem cal_any_way (F : Facts G) : Cal G "_law_any_way" 3 C_any_way := by
  obtain ⟨f, fd, FD, hg⟩ := F.a_l_any_way
  refine cal_of (lv := 2) FD hg S_l_any_way bd_l_any_way kg_l_any_way (fun ss Φ h => ?_) (fun X T ss Φ h hp hc => ?_)
  · obtain ⟨_, _, _, _, _, _, rfl, _⟩ := h; rfl
  · obtain ⟨S, k, long, hS, l1, l9, rfl, q⟩ := hc
    have hk6 := hS.k6
    have hk1 := hS.k1
    have sl := sgs_len k (by omega)
    have sm := sgs_mem k (by omega)
    have inS : ∀ c, c ∈ sgs k → c ∈ S := fun c hc => (hS.mem c).mpr ((sm c).mp hc)
    refine sx_cons ?_; refine s1_set h 3 ?_; refine sgs_cat (k := k) (by omega) (ev_name h 1 rfl rfl) (ev_name h 1 rfl rfl) ?_
    refine sx_cons ?_; refine s1_set h 4 ?_; refine ev_joinW ?_; refine ev_lc h o_l_any_way0 [6] k_l_any_way0 g_l_any_way0 ?_
    refine ei_range1 h 0 F.b_range ?_; refine ev_bin ?_; refine ev_int ?_; refine ev_call h (cal_draw F) 1 ?_; refine ea_tape h 0 rfl ?_; refine ea_val ?_; refine ev_name h 2 rfl ?_; refine ea_nil ?_
    refine ⟨long, by omega, by omega, rfl, fun r hr => ?_⟩
    refine od_add ⟨_, rfl, by omega, by omega, ?_⟩
    rw [show ((1 : Int) + (r : Nat)).toNat = r + 1 by omega]
    refine ⟨fun i acc => ∃ v : List L, acc = v.map (fun c => dT [c]) ∧ v.length = i ∧ ∀ c ∈ v, c ∈ sgs k, ⟨[], rfl, rfl, fun c hc => (List.not_mem_nil hc).elim⟩, by rw [len_rng]; omega, fun i d acc hd hI => ?_, fun acc hI => ?_⟩
    · obtain ⟨v, rfl, rfl, hv⟩ := hI
      refine ⟨_, true, fun X' h' => tg_name h' 6 rfl, fun X' h' => ets_nil rfl, ?_⟩
      refine ifT fun X' h' => ?_
      refine ev_ix ?_; refine ev_name h' 3 rfl ?_; refine ev_call h' (cal_draw F) 0 ?_; refine ea_tape h' 0 rfl ?_; refine ea_val ?_; refine ev_bin ?_; refine ev_int ?_; refine ev_name h' 1 rfl ?_; refine od_mul (.inl ⟨by decide, by decide⟩) ?_; refine ea_nil ?_
      refine ⟨_, by omega, by omega, rfl, fun j hj => ?_⟩
      have hj' : j < (sgs k).length := by omega
      refine ixC (by omega) (by omega) (by omega) ?_
      rw [wa_nat hj']
      refine ⟨v ++ [(sgs k)[j]], by rw [List.map_append]; rfl, by simp, fun c hc => ?_⟩
      rcases List.mem_append.mp hc with z | z
      · exact hv c z
      · rw [List.mem_singleton.mp z]; exact List.getElem_mem _
    · obtain ⟨v, rfl, hl, hv⟩ := hI
      rw [len_rng] at hl
      refine ⟨v, rfl, by omega, ?_⟩
      have fin : ∀ (u : List L) (a b : DL.S), 0 < u.length → u.length ≤ 100 → (∀ c ∈ u, c ∈ sgs k) → Sx X T [.tape, .val (.int (k : Nat)), .val (.int (long : Nat)), .val (dT (sgs k)), .val (dT u), a, b] ((defBody (top 53)).drop 3) ⟨fun _ => Φ .none, Φ, fun _ => False, fun _ => False⟩ := fun u a b u0 u1 hu => by
        refine sx_one ?_; refine s1_ret ?_; refine ev_orS ?_; refine ev_call h (cal_rooted F) 2 ?_; refine ea_val ?_; refine ev_call h (cal_inner F) 3 ?_; refine ea_val ?_; refine ev_slice ?_; refine ev_name h 4 rfl ?_; refine eo_none ?_; refine eo_some ?_; refine ev_name h 2 rfl ?_; refine ⟨_, rfl, ?_⟩; refine sl_W (by omega) ?_
        rw [cut_to]; refine ea_nil ?_
        have ul : (u.take long).length ≤ long := by rw [List.length_take]; omega
        refine ⟨u.take long, by omega, rfl, fun v hv hm hr => ?_⟩
        refine ea_nil ?_
        refine ⟨v, by omega, hr, rfl, fun z => ?_, fun y y0 y1 ym yr yp => ?_⟩
        · refine ⟨_, rfl, Nat.zero_le _, ?_⟩
          rw [if_pos (by rfl)]
          refine ev_one ?_; refine ev_ix ?_; refine ev_name h 3 rfl ?_; refine ev_int ?_; refine ixC (k := 0) (by omega) (by omega) (by omega) ?_
          rw [show (0 : Int) = ((0 : Nat) : Int) from rfl, wa_nat (k := 0) (by omega)]
          refine q _ ?_ (by simpa using l1)
          exact way_one (inS _ (List.getElem_mem _))
        · refine ⟨_, rfl, by rw [tx_len]; omega, ?_⟩
          rw [if_neg (by rw [tx_len]; omega)]
          exact q y ⟨y0, fun c hc => inS _ (hu _ (List.mem_of_mem_take (hm _ (ym _ hc)))), yr, yp⟩ (by omega)
      refine sx_cons ?_; refine s1_if ?_; refine et_cmp ?_; refine ev_call h (cal_draw F) 1 ?_; refine ea_tape h 0 rfl ?_; refine ea_val ?_; refine ev_int ?_; refine ea_nil ?_
      refine ⟨3, by omega, by omega, rfl, fun b hb => ?_⟩; refine ev_int ?_; refine od_eqI ⟨_, rfl, ?_⟩
      cases hbb : decide ((b : Int) = 0) with
      | false => refine ifF ?_; refine sx_nil ?_; exact fin v _ _ (by omega) (by omega) hv
      | true =>
        refine ifT ?_
        refine sx_cons ?_; refine s1_set h 5 ?_; refine ev_bin ?_; refine ev_int ?_; refine ev_call h (cal_draw F) 1 ?_; refine ea_tape h 0 rfl ?_; refine ea_val ?_; refine ev_int ?_; refine ea_nil ?_
        refine ⟨3, by omega, by omega, rfl, fun b2 hb2 => ?_⟩; refine od_add ?_
        rw [show (1 : Int) + (b2 : Nat) = ((1 + b2 : Nat) : Int) by omega]
        refine sx_one ?_; refine s1_set h 4 ?_; refine ev_bin ?_; refine ev_bin ?_
        refine ev_slice ?_; refine ev_name h 4 rfl ?_; refine eo_none ?_; refine eo_some ?_; refine ev_name h 5 rfl ?_; refine ⟨_, rfl, ?_⟩; refine sl_W (by omega) ?_; rw [cut_to]
        refine ev_bin ?_; refine ev_int ?_; refine ev_call h (cal_draw F) 1 ?_; refine ea_tape h 0 rfl ?_; refine ea_val ?_; refine ev_int ?_; refine ea_nil ?_
        refine ⟨3, by omega, by omega, rfl, fun b3 hb3 => ?_⟩; refine od_add ?_
        rw [show (2 : Int) + (b3 : Nat) = ((2 + b3 : Nat) : Int) by omega]
        have tl : (v.take (1 + b2)).length ≤ 3 := by rw [List.length_take]; omega
        refine od_mulS (by rw [tx_len]; omega) (by omega) ?_
        rw [rep_tx]
        refine ev_slice ?_; refine ev_name h 4 rfl ?_; refine eo_some ?_; refine ev_name h 5 rfl ?_; refine ⟨_, rfl, ?_⟩; refine eo_none ?_; refine sl_W (by omega) ?_; rw [cut_from]
        have rl : (rep (v.take (1 + b2)) (2 + b3)).length ≤ 12 := by
          rw [rep_len]
          exact Nat.le_trans (Nat.mul_le_mul (show 2 + b3 ≤ 4 by omega) tl) (by decide)
        have rp : 0 < (rep (v.take (1 + b2)) (2 + b3)).length := by
          rw [rep_len]
          exact Nat.mul_pos (by omega) (by rw [List.length_take]; omega)
        refine od_addW (by rw [List.length_drop]; omega) ?_
        refine fin _ _ _ (by rw [List.length_append]; omega) (by rw [List.length_append, List.length_drop]; omega) fun c hc => ?_
        rcases List.mem_append.mp hc with z | z
        · unfold rep at z
          obtain ⟨t, ht, hz⟩ := List.mem_flatten.mp z
          rw [List.eq_of_mem_replicate ht] at hz
          exact hv c (List.mem_of_mem_take hz)
        · exact hv c (List.mem_of_mem_drop z)
theorem lback_any {X : Cx} {Φ : PyData → Prop} {w : List L} (q1 : Φ (dT w)) (q2 : Φ (dT (bkw w))) {b : Nat} (hb : b < 2) : Ixd X (.list [dT w, dT (bkw w)]) (.int (b : Nat)) Φ := by
  refine ixD_L (i := b) hb ?_
  match b, hb with
  | 0, _ => exact q1
  | 1, _ => exact q2
def C_some_ways : Con := fun ss Φ => ∃ (S : List L) (k long : Nat), Sok S k ∧ 1 ≤ long ∧ long ≤ 9 ∧ ss = [.tape, .val (.int (k : Nat)), .val (.int 3), .val (.int (long : Nat))] ∧ ∀ ws : List (List L), 0 < ws.length → ws.length ≤ 3 → (∀ w ∈ ws, Way S w ∧ w.length ≤ long) → Φ (dWs ws)
theorem sok_bk {S : List L} {k : Nat} (h : Sok S k) : ∀ c ∈ S, bk c ∈ S := fun c hc => (h.mem _).mpr (by rw [lo_bk]; exact (h.mem c).mp hc)
theorem cal_some_ways (F : Facts G) : Cal G "_law_some_ways" 4 C_some_ways := by
  obtain ⟨f, fd, FD, hg⟩ := F.a_l_some_ways
  refine cal_of (lv := 3) FD hg S_l_some_ways bd_l_some_ways kg_l_some_ways (fun ss Φ h => ?_) (fun X T ss Φ h hp hc => ?_)
  · obtain ⟨_, _, _, _, _, _, rfl, _⟩ := h; rfl
  · obtain ⟨S, k, long, hS, l1, l9, rfl, q⟩ := hc
    have bS := sok_bk hS
    refine sx_cons ?_; refine s1_setO h 4 ?_; refine ea_val ?_; refine ev_call h (cal_any_way F) 0 ?_; refine ea_tape h 0 rfl ?_; refine ea_val ?_; refine ev_name h 1 rfl ?_; refine ea_val ?_; refine ev_name h 3 rfl ?_; refine ea_nil ?_
    refine ⟨S, k, long, hS, l1, l9, rfl, fun w0 hw0 hl0 => ?_⟩
    refine ea_nil ?_; refine ⟨_, rfl, Nat.le_of_ble_eq_true rfl, ?_⟩
    refine sx_cons ?_; refine s1_for (is := [5]) hp h ?_; refine ei_range1 h 1 F.b_range ?_; refine ev_call h (cal_draw F) 2 ?_; refine ea_tape h 0 rfl ?_; refine ea_val ?_; refine ev_name h 2 rfl ?_; refine ea_nil ?_
    refine ⟨3, by omega, by omega, rfl, fun r hr => ⟨_, rfl, by omega, by omega, ?_⟩⟩
    rw [Int.toNat_natCast]
    refine ⟨fun i ρ => i ≤ r ∧ ∃ ws a b c, ρ = [.tape, .val (.int (k : Nat)), .val (.int 3), .val (.int (long : Nat)), .own (List.map dT ws), a, b, c] ∧ ws.length = i + 1 ∧ ∀ w ∈ ws, Way S w ∧ w.length ≤ long, ⟨Nat.zero_le _, [w0], _, _, _, rfl, rfl, fun w hw => by rw [List.mem_singleton.mp hw]; exact ⟨hw0, hl0⟩⟩, fun i d ρ hd hI => ?_, fun ρ hI => ?_⟩
    · obtain ⟨hi, ws, a, b, c, rfl, hl, hw⟩ := hI
      have hi' : i < r := by have := (List.getElem?_eq_some_iff.mp hd).1; simpa [len_rng] using this
      have app : ∀ (w : List L), Way S w → w.length ≤ long → (∀ v ∈ ws ++ [w], Way S v ∧ v.length ≤ long) := fun w h1 h2 v hv => by
        rcases List.mem_append.mp hv with z | z
        · exact hw v z
        · rw [List.mem_singleton.mp z]; exact ⟨h1, h2⟩
      refine tg_name h 5 ?_
      refine sx_cons ?_; refine s1_set h 6 ?_; refine ev_call h (cal_any_way F) 0 ?_; refine ea_tape h 0 rfl ?_; refine ea_val ?_; refine ev_name h 1 rfl ?_; refine ea_val ?_; refine ev_name h 3 rfl ?_; refine ea_nil ?_
      refine ⟨S, k, long, hS, l1, l9, rfl, fun w1 hw1 hl1 => ?_⟩
      refine sx_cons ?_; refine s1_if ?_; refine et_cmp ?_; refine ev_call h (cal_draw F) 2 ?_; refine ea_tape h 0 rfl ?_; refine ea_val ?_; refine ev_int ?_; refine ea_nil ?_
      refine ⟨5, by omega, by omega, rfl, fun b1 hb1 => ?_⟩; refine ev_int ?_; refine od_eqI ⟨_, rfl, ?_⟩
      cases hbb : decide ((b1 : Int) = 0) with
      | false =>
        refine ifF ?_; refine sx_nil ?_
        refine sx_one ?_; refine s1_append h 4 rfl ?_; refine ev_name h 6 rfl ?_
        exact ⟨by rw [List.length_map]; omega, hi', ws ++ [w1], _, _, _, by rw [List.map_append]; rfl, by simp; omega, app w1 hw1 hl1⟩
      | true =>
        refine ifT ?_
        refine sx_cons ?_; refine s1_set h 6 ?_; refine ev_view 4 rfl ?_; refine ev_ix ?_; refine ev_name h 4 rfl ?_
        refine ev_call h (cal_draw F) 2 ?_; refine ea_tape h 0 rfl ?_; refine ea_val ?_; refine ev_len h 3 F.b_len ?_; refine ev_name h 4 rfl ?_; refine ⟨ws.length, by simp [lenD], ?_⟩; refine ea_nil ?_
        refine ⟨_, by omega, by omega, rfl, fun j hj => ?_⟩
        have hj' : j < ws.length := by omega
        refine ixD_L (by rw [List.length_map]; exact hj') ?_
        rw [List.getElem_map]
        refine ⟨rfl, ?_⟩
        obtain ⟨hwj, hlj⟩ := hw _ (List.getElem_mem hj')
        have nej := hwj.ne
        refine sx_cons ?_; refine s1_set h 7 ?_; refine ev_call h (cal_draw F) 2 ?_; refine ea_tape h 0 rfl ?_; refine ea_val ?_; refine ev_len h 3 F.b_len ?_; refine ev_name h 6 rfl ?_; refine ⟨_, lenW (w := ws[j]) (by omega), ?_⟩; refine ea_nil ?_
        refine ⟨_, by omega, by omega, rfl, fun t ht => ?_⟩
        refine sx_cons ?_; refine s1_set h 6 ?_; refine ev_ix ?_; refine ev_lst ?_; refine ea_val ?_; refine ev_name h 6 rfl ?_; refine ea_val ?_; refine ev_call h (cal_lback F) 4 ?_; refine ea_val ?_; refine ev_name h 6 rfl ?_; refine ea_nil ?_; refine ⟨ws[j], by omega, rfl, ?_⟩; refine ea_nil ?_
        refine ⟨_, rfl, Nat.le_of_ble_eq_true rfl, ?_⟩
        refine ev_call h (cal_draw F) 2 ?_; refine ea_tape h 0 rfl ?_; refine ea_val ?_; refine ev_int ?_; refine ea_nil ?_
        refine ⟨2, by omega, by omega, rfl, fun b2 hb2 => ?_⟩
        refine lback_any ?_ ?_ (b := b2) (by omega)
        · refine sx_one ?_; refine s1_set h 6 ?_; refine ev_bin ?_
          refine ev_slice ?_; refine ev_name h 6 rfl ?_; refine eo_some ?_; refine ev_name h 7 rfl ?_; refine ⟨_, rfl, ?_⟩; refine eo_none ?_; refine sl_W (by omega) ?_; rw [cut_from]
          refine ev_slice ?_; refine ev_name h 6 rfl ?_; refine eo_none ?_; refine eo_some ?_; refine ev_name h 7 rfl ?_; refine ⟨_, rfl, ?_⟩; refine sl_W (by omega) ?_; rw [cut_to]
          refine od_addW (by rw [List.length_drop, List.length_take]; omega) ?_
          refine sx_one ?_; refine s1_append h 4 rfl ?_; refine ev_name h 6 rfl ?_
          exact ⟨by rw [List.length_map]; omega, hi', ws ++ [ws[j].drop t ++ ws[j].take t], _, _, _, by rw [List.map_append]; rfl, by simp; omega, app _ (way_turn hwj (by omega)) (by rw [List.length_append, List.length_drop, List.length_take]; omega)⟩
        · have bl : (bkw ws[j]).length = ws[j].length := by simp [bkw]
          refine sx_one ?_; refine s1_set h 6 ?_; refine ev_bin ?_
          refine ev_slice ?_; refine ev_name h 6 rfl ?_; refine eo_some ?_; refine ev_name h 7 rfl ?_; refine ⟨_, rfl, ?_⟩; refine eo_none ?_; refine sl_W (by omega) ?_; rw [cut_from]
          refine ev_slice ?_; refine ev_name h 6 rfl ?_; refine eo_none ?_; refine eo_some ?_; refine ev_name h 7 rfl ?_; refine ⟨_, rfl, ?_⟩; refine sl_W (by omega) ?_; rw [cut_to]
          refine od_addW (by rw [List.length_drop, List.length_take]; omega) ?_
          refine sx_one ?_; refine s1_append h 4 rfl ?_; refine ev_name h 6 rfl ?_
          exact ⟨by rw [List.length_map]; omega, hi', ws ++ [(bkw ws[j]).drop t ++ (bkw ws[j]).take t], _, _, _, by rw [List.map_append]; rfl, by simp; omega, app _ (way_turn (way_back bS hwj) (by omega)) (by rw [List.length_append, List.length_drop, List.length_take]; omega)⟩
    · obtain ⟨_, ws, a, b, c, rfl, hl, hw⟩ := hI
      rw [len_rng] at hl
      refine sx_freeze 4 rfl ?_; refine sx_one ?_; refine s1_ret ?_; refine ev_callT h 5 F.b_tuple bb_tuple ?_; refine ea_val ?_; refine ev_name h 4 rfl ?_; refine ea_nil ?_
      refine cd_tupL ?_
      exact q ws (by omega) (by omega) hw
end
end RW
namespace RW
open PySem PySem.Spec PyProof.Rows L2 DL
theorem lo_en : ∀ c : L, PyProof.Rows.lo1 (en c) = en (lo c) := by decide
theorem en_low : ∀ c : L, decide (en c < 128) = true := by decide
theorem lower_tx (w : List L) : Txt.lower (tx w) = tx (w.map lo) := by
  have h : (w.map en).all (· < 128) = true := by
    rw [List.all_eq_true]
    intro x hx
    obtain ⟨c, _, rfl⟩ := List.mem_map.mp hx
    exact en_low c
  have := SX.lower_S h
  rw [List.map_map] at this
  show Txt.lower (⟨(w.map en).toArray⟩ : Str) = (⟨((w.map lo).map en).toArray⟩ : Str)
  rw [List.map_map, show en ∘ lo = PyProof.Rows.lo1 ∘ en from funext fun c => (lo_en c).symm]
  exact this
theorem range_get {α : Type} (w : List α) (d : α) : (List.range w.length).map (fun p => w.getD p d) = w := by
  apply List.ext_getElem
  · simp
  · intro i h1 h2
    rw [List.getElem_map, List.getElem_range, List.getD_eq_getElem?_getD, List.getElem?_eq_getElem h2]; rfl
theorem sds_letters (ws : List (List L)) : (sds ws).map (fun x => lat ws x 0) = ws.flatten := by
  unfold sds
  rw [List.map_flatMap]
  have e : ∀ i, ((List.range (wy ws i).length).map fun p => (i, p)).map (fun x => lat ws x 0) = wy ws i := fun i => by
    rw [List.map_map]
    conv => rhs; rw [← range_get (wy ws i) 0]
    refine List.map_congr_left fun p hp => ?_
    have hp' := List.mem_range.mp hp
    show wa (wy ws i) ((p : Int) + 0) = _
    rw [Int.add_zero, wa_nat hp', List.getD_eq_getElem?_getD, List.getElem?_eq_getElem hp']; rfl
  simp only [e]
  unfold wy
  rw [List.flatMap_def, range_get]
theorem thr_cnt (ws : List (List L)) (n : Nat) : (thr ws n).length = ((ws.flatten.map lo).filter fun c => c.val == n).length := by
  rw [← sds_letters, List.map_map, List.filter_map, List.length_map]; rfl
def fac : Nat → Nat
  | 0 => 1
  | n + 1 => fac n * (n + 1)
def hmn (ws : List (List L)) : Nat → Nat
  | 0 => 1
  | n + 1 => hmn ws n * fac (thr ws n).length
theorem six_get : ∀ k, k < 7 → ∀ i, i < k → (([0, 1, 2, 3, 4, 5] : List L).take k)[i]? = some (smL i) := by decide
theorem six_len : ∀ k, k < 7 → (([0, 1, 2, 3, 4, 5] : List L).take k).length = k := by decide
theorem lo_smL' : ∀ (c : L) (i : Nat), i < 6 → (decide (lo c = smL i)) = ((lo c).val == i) := by
  intro c i hi
  match i, hi with
  | 0, _ | 1, _ | 2, _ | 3, _ | 4, _ | 5, _ => revert c; decide
section
variable {G : Glb}
def C_how_many : Con := fun ss Φ => ∃ (S : List L) (k : Nat) (ws : List (List L)), Sok S k ∧ ws.length ≤ 3 ∧ (∀ w ∈ ws, w.length ≤ 64) ∧ ss = [.val (dT S), .val (dWs ws)] ∧ Φ (.int (hmn ws k : Nat))
theorem flat_len {ws : List (List L)} {n : Nat} (h : ∀ w ∈ ws, w.length ≤ n) : ws.flatten.length ≤ ws.length * n := by
  induction ws with
  | nil => simp
  | cons w ws ih =>
    rw [List.flatten_cons, List.length_append, List.length_cons, Nat.add_mul]
    have := h w (List.mem_cons_self ..)
    have := ih fun v hv => h v (List.mem_cons_of_mem _ hv)
    omega
theorem cal_how_many (F : Facts G) : Cal G "_law_how_many" 1 C_how_many := by
  obtain ⟨f, fd, FD, hg⟩ := F.a_l_how_many
  refine cal_of (lv := 0) FD hg S_l_how_many bd_l_how_many kg_l_how_many (fun ss Φ h => ?_) (fun X T ss Φ h hp hc => ?_)
  · obtain ⟨_, _, _, _, _, _, rfl, _⟩ := h; rfl
  · obtain ⟨S, k, ws, hS, hn, hl, rfl, q⟩ := hc
    have hk6 := hS.k6
    have fl := flat_len hl
    have fl2 : ws.flatten.length ≤ 192 := Nat.le_trans fl (Nat.mul_le_mul_right 64 hn)
    refine sx_cons ?_; refine s1_set h 2 ?_; refine ev_int ?_
    refine sx_cons ?_; refine s1_for (is := [3]) hp h ?_; refine ei_str ?_; refine ev_slice ?_; refine ev_str ?_; refine eo_none ?_; refine eo_some ?_
    refine ev_bin ?_; refine ev_len h 0 F.b_len ?_; refine ev_name h 0 rfl ?_; refine ⟨S.length, lenW (by have := hS.ln; omega), ?_⟩; refine ev_int ?_; refine od_div ⟨by decide, by decide⟩ ?_
    rw [show ((S.length : Nat) : Int) / 2 = ((k : Nat) : Int) by have := hS.ln; omega]
    refine ⟨_, rfl, ?_⟩; refine sl_W (w := [0, 1, 2, 3, 4, 5]) (by decide) ?_
    rw [cut_to]
    refine ⟨_, rfl, ?_⟩
    rw [chars_tx]
    refine ⟨fun i ρ => i ≤ k ∧ ∃ a b, ρ = [.val (dT S), .val (dWs ws), .val (.int (hmn ws i : Nat)), a, b, .emp], ⟨Nat.zero_le _, _, _, rfl⟩, fun i d ρ hd hI => ?_, fun ρ hI => ?_⟩
    · obtain ⟨hi, a, b, rfl⟩ := hI
      have hi' : i < k := by have := (List.getElem?_eq_some_iff.mp hd).1; rw [List.length_map, six_len k (by omega)] at this; exact this
      rw [List.getElem?_map, six_get k (by omega) i hi'] at hd
      cases hd
      refine tg_name h 3 ?_
      refine sx_one ?_; refine s1_for (is := [4]) hp h ?_; refine ei_range1 h 1 F.b_range ?_; refine ev_len h 0 F.b_len ?_
      refine ev_lc h o_l_how_many0 [5] k_l_how_many0 g_l_how_many0 ?_; refine ei_str ?_; refine ev_lower ?_; refine ev_join ?_; refine ev_str ?_; refine ⟨_, rfl, ?_⟩; refine ev_name h 1 rfl ?_
      refine ⟨ws.map tx, .inr (by rw [List.map_map]; rfl), ?_, ?_⟩
      · have : (List.map (fun x => x.length) (ws.map tx)).sum = ws.flatten.length := by
          rw [List.map_map, List.length_flatten]
          congr 1
          exact List.map_congr_left fun w _ => tx_len w
        rw [this]
        show _ + _ * 0 ≤ _
        omega
      · rw [join_tx]
        refine ⟨_, rfl, by rw [tx_len]; omega, ?_⟩
        rw [lower_tx]
        refine ⟨_, rfl, ?_⟩
        rw [chars_tx]
        refine LcQ.on (fun c : L => dT [c]) (ws.flatten.map lo) (fun c => decide (c = smL i)) (fun c => dT [c]) (by rw [List.length_map]; omega) (fun c hc => ?_) ?_
        · refine ⟨_, fun X' h' => tg_name h' 5 rfl, fun X' h' => ?_, fun _ X' h' => ?_⟩
          · refine ets_one ?_; refine et_cmp ?_; refine ev_name h' 5 rfl ?_; refine ev_name h' 3 rfl ?_; refine od_eqL ⟨_, rfl, rfl⟩
          · refine ev_name h' 5 rfl ?_
            rfl
        · have cnt : ((ws.flatten.map lo).filter fun c => decide (c = smL i)).length = (thr ws i).length := by
            rw [thr_cnt]
            congr 1
            refine List.filter_congr fun c hc => ?_
            obtain ⟨d, _, rfl⟩ := List.mem_map.mp hc
            exact lo_smL' d i (by omega)
          have cle : (thr ws i).length ≤ 192 := by
            rw [thr_cnt]
            exact Nat.le_trans (List.length_filter_le _ _) (by rw [List.length_map]; exact fl2)
          refine ⟨(thr ws i).length, by simp only [lenD, List.length_map]; rw [cnt], _, rfl, by omega, by omega, ?_⟩
          rw [Int.toNat_natCast]
          refine ⟨fun j ρ => j ≤ (thr ws i).length ∧ ∃ b, ρ = [.val (dT S), .val (dWs ws), .val (.int ((hmn ws i * fac j : Nat) : Int)), .val (dT [smL i]), b, .emp], ⟨Nat.zero_le _, _, by rw [show hmn ws i * fac 0 = hmn ws i from Nat.mul_one _]; rfl⟩, fun j d ρ hd hJ => ?_, fun ρ hJ => ?_⟩
          · obtain ⟨hj, b, rfl⟩ := hJ
            have hj' : j < (thr ws i).length := by have := (List.getElem?_eq_some_iff.mp hd).1; simpa [len_rng] using this
            have ed : d = .int (j : Nat) := by
              simp [rng, hj'] at hd
              exact hd.symm
            subst ed
            refine tg_name h 4 ?_
            refine sx_one ?_; refine s1_set h 2 ?_; refine ev_bin ?_; refine ev_name h 2 rfl ?_; refine ev_bin ?_; refine ev_name h 4 rfl ?_; refine ev_int ?_; refine od_add ?_; refine od_mul (.inr ⟨by omega, by omega⟩) ?_
            refine ⟨hj', .val (.int (j : Nat)), ?_⟩
            rw [show ((hmn ws i * fac j : Nat) : Int) * ((j : Nat) + 1) = ((hmn ws i * fac (j + 1) : Nat) : Int) by
              rw [show hmn ws i * fac (j + 1) = hmn ws i * fac j * (j + 1) from (Nat.mul_assoc _ _ _).symm, Int.natCast_mul]; rfl]
            rfl
          · obtain ⟨_, b, rfl⟩ := hJ
            rw [len_rng]
            exact ⟨hi', _, _, rfl⟩
    · obtain ⟨_, a, b, rfl⟩ := hI
      rw [List.length_map, six_len k (by omega)]
      refine sx_one ?_; refine s1_ret ?_; refine ev_name h 2 rfl ?_
      exact q
theorem cut_but {α : Type} (xs : List α) (h : 1 ≤ xs.length) : cutL xs none (some (-1)) = xs.take (xs.length - 1) := by
  unfold cutL
  have e2 : HT.sIx xs.length xs.length (some (-1)) = xs.length - 1 := by
    unfold HT.sIx
    simp
    omega
  rw [e2]
  rfl
theorem ab_small : ∀ k, k < 7 → hmn [([0, 1] : List L).take k] k ≤ 48 := by decide +kernel
theorem ab_way {S : List L} {k : Nat} (h : Sok S k) : Way S (([0, 1] : List L).take k) := by
  have h1 := h.k1
  by_cases e : k = 1
  · subst e
    exact way_one ((h.mem _).mpr (by decide))
  · rw [List.take_of_length_le (show ([0, 1] : List L).length ≤ k by simp; omega)]
    exact way_two (n := 1) ((h.mem _).mpr (Nat.lt_of_lt_of_le (by decide : (lo (0 : L)).val < 1) h1)) ((h.mem _).mpr (Nat.lt_of_lt_of_le (by decide : (lo (1 : L)).val < 2) (by omega))) (by decide)
def C_small : Con := fun ss Φ => ∃ (S : List L) (k : Nat), Sok S k ∧ ss = [.tape, .val (.int (k : Nat)), .val (dT S), .val (.int 48)] ∧ ∀ ws : List (List L), 0 < ws.length → ws.length ≤ 3 → (∀ w ∈ ws, Way S w ∧ w.length ≤ 6) → hmn ws k ≤ 48 → Φ (dWs ws)
theorem cal_small (F : Facts G) : Cal G "_law_small" 5 C_small := by
  obtain ⟨f, fd, FD, hg⟩ := F.a_l_small
  refine cal_of (lv := 4) FD hg S_l_small bd_l_small kg_l_small (fun ss Φ h => ?_) (fun X T ss Φ h hp hc => ?_)
  · obtain ⟨_, _, _, rfl, _⟩ := h; rfl
  · obtain ⟨S, k, hS, rfl, q⟩ := hc
    have hk6 := hS.k6
    have hk1 := hS.k1
    refine sx_cons ?_; refine s1_set h 4 ?_; refine ev_call h (cal_some_ways F) 0 ?_; refine ea_tape h 0 rfl ?_; refine ea_val ?_; refine ev_name h 1 rfl ?_; refine ea_val ?_; refine ev_int ?_; refine ea_val ?_; refine ev_int ?_; refine ea_nil ?_
    refine ⟨S, k, 6, hS, by omega, by omega, rfl, fun w1 n1 n3 hw1 => ?_⟩
    refine sx_cons ?_
    refine s1_whileP hp (fun mm ρ => ∃ ws : List (List L), mm = ws.length ∧ ρ = [.tape, .val (.int (k : Nat)), .val (dT S), .val (.int 48), .val (dWs ws)] ∧ 0 < ws.length ∧ ws.length ≤ 3 ∧ ∀ w ∈ ws, Way S w ∧ w.length ≤ 6)
      (fun ρ => ∃ ws : List (List L), ρ = [.tape, .val (.int (k : Nat)), .val (dT S), .val (.int 48), .val (dWs ws)] ∧ 0 < ws.length ∧ ws.length ≤ 3 ∧ ∀ w ∈ ws, Way S w ∧ w.length ≤ 6) w1.length ⟨w1, rfl, rfl, n1, n3, hw1⟩ ?_ ?_
    · rintro mm ρ' ⟨ws, rfl, rfl, m1, m3, hw⟩
      refine et_w ?_; refine ew_and ?_; refine et_cmp ?_; refine ev_len h 1 F.b_len ?_; refine ev_name h 4 rfl ?_; refine ⟨ws.length, by simp [lenD, dWs], ?_⟩; refine ev_int ?_; refine od_gt ⟨_, rfl, ?_⟩
      by_cases l1 : 1 < ws.length
      · rw [decide_eq_true (by omega)]; refine ifT ?_
        refine ew_and1 ?_; refine et_cmp ?_; refine ev_call h (cal_how_many F) 2 ?_; refine ea_val ?_; refine ev_name h 2 rfl ?_; refine ea_val ?_; refine ev_name h 4 rfl ?_; refine ea_nil ?_
        refine ⟨S, k, ws, hS, m3, fun w h => Nat.le_trans (hw w h).2 (by decide), rfl, ?_⟩
        refine ev_name h 3 rfl ?_; refine od_gt ⟨_, rfl, ?_⟩
        cases hb : decide ((48 : Int) < (hmn ws k : Nat)) with
        | true =>
          refine ifT ?_
          refine sx_one ?_; refine s1_set h 4 ?_; refine ev_slice ?_; refine ev_name h 4 rfl ?_; refine eo_none ?_; refine eo_some ?_; refine ev_un ?_; refine ev_int ?_; refine ud_neg ?_; refine ⟨_, rfl, ?_⟩
          refine sl_TD dT ?_
          rw [cut_but ws (by omega)]
          exact ⟨(ws.take (ws.length - 1)).length, by rw [List.length_take]; omega, _, rfl, rfl, by rw [List.length_take]; omega, by rw [List.length_take]; omega, fun w hw' => hw w (List.mem_of_mem_take hw')⟩
        | false => refine ifF ?_; exact ⟨ws, rfl, m1, m3, hw⟩
      · rw [decide_eq_false (by omega)]; refine ifF ?_; refine ifF ?_; exact ⟨ws, rfl, m1, m3, hw⟩
    · rintro ρ' ⟨ws, rfl, m1, m3, hw⟩
      refine sx_one ?_; refine s1_ret ?_; refine ev_ifExp ?_; refine et_cmp ?_; refine ev_call h (cal_how_many F) 2 ?_; refine ea_val ?_; refine ev_name h 2 rfl ?_; refine ea_val ?_; refine ev_name h 4 rfl ?_; refine ea_nil ?_
      refine ⟨S, k, ws, hS, m3, fun w h => Nat.le_trans (hw w h).2 (by decide), rfl, ?_⟩
      refine ev_name h 3 rfl ?_; refine od_le ⟨_, rfl, ?_⟩
      by_cases l : hmn ws k ≤ 48
      · rw [decide_eq_true (by omega)]; refine ifT ?_
        refine ev_name h 4 rfl ?_
        exact q ws m1 m3 hw l
      · rw [decide_eq_false (by omega)]; refine ifF ?_
        refine ev_tup ?_; refine ea_val ?_; refine ev_slice ?_; refine ev_str ?_; refine eo_none ?_; refine eo_some ?_; refine ev_name h 1 rfl ?_; refine ⟨_, rfl, ?_⟩; refine sl_W (w := [0, 1]) (by decide) ?_
        rw [cut_to]; refine ea_nil ?_; refine ⟨_, rfl, Nat.le_of_ble_eq_true rfl, ?_⟩
        exact q [([0, 1] : List L).take k] Nat.one_pos (Nat.le_of_ble_eq_true rfl) (fun w hw => by rw [List.mem_singleton.mp hw]; exact ⟨ab_way hS, by rw [List.length_take]; exact Nat.le_trans (Nat.min_le_right _ _) (by decide)⟩) (ab_small k (by omega))
theorem others_pos : ∀ k, k < 7 → 2 ≤ k → ∀ c : L, 0 < ((sgs k).filter fun d => !decide (lo d = lo c)).length := by decide +kernel
def C_long_pair : Con := fun ss Φ => ∃ (S : List L) (k : Nat), Sok S k ∧ 2 ≤ k ∧ ss = [.tape, .val (.int (k : Nat))] ∧ ∀ u v : List L, Way S u → u.length ≤ 17 → Way S v → v.length ≤ 17 → Φ (dWs [u, v])
theorem cal_long_pair (F : Facts G) : Cal G "_law_long_pair" 2 C_long_pair := by
  obtain ⟨f, fd, FD, hg⟩ := F.a_l_long_pair
  refine cal_of (lv := 1) FD hg S_l_long_pair bd_l_long_pair kg_l_long_pair (fun ss Φ h => ?_) (fun X T ss Φ h hp hc => ?_)
  · obtain ⟨_, _, _, _, rfl, _⟩ := h; rfl
  · obtain ⟨S, k, hS, k2, rfl, q⟩ := hc
    have hk6 := hS.k6
    have bS := sok_bk hS
    have sl := sgs_len k (by omega)
    have inS : ∀ c, c ∈ sgs k → c ∈ S := fun c hc => (hS.mem c).mpr ((sgs_mem k (by omega) c).mp hc)
    refine sx_cons ?_; refine s1_set h 2 ?_; refine sgs_cat (k := k) (by omega) (ev_name h 1 rfl rfl) (ev_name h 1 rfl rfl) ?_
    refine sx_cons ?_; refine s1_set h 3 ?_; refine ev_ix ?_; refine ev_name h 2 rfl ?_; refine ev_call h (cal_draw F) 0 ?_; refine ea_tape h 0 rfl ?_; refine ea_val ?_; refine ev_bin ?_; refine ev_int ?_; refine ev_name h 1 rfl ?_; refine od_mul (.inl ⟨by decide, by decide⟩) ?_; refine ea_nil ?_
    refine ⟨_, by omega, by omega, rfl, fun j hj => ?_⟩
    have hj' : j < (sgs k).length := by omega
    refine ixC (by omega) (by omega) (by omega) ?_
    rw [wa_nat hj']
    have hc := List.getElem_mem hj'
    generalize (sgs k)[j] = c at hc
    have op := others_pos k (by omega) k2 c
    refine sx_cons ?_; refine s1_setLc h 4 o_l_long_pair0 [10] k_l_long_pair0 g_l_long_pair0 ?_; refine ei_str ?_; refine ev_name h 2 rfl ?_; refine ⟨_, rfl, ?_⟩
    rw [chars_tx]
    refine LcQ.on (fun c : L => dT [c]) (sgs k) (fun d => !decide (lo d = lo c)) (fun c => dT [c]) (by omega) (fun d hd => ?_) ?_
    · refine ⟨_, fun X' h' => tg_name h' 10 rfl, fun X' h' => ?_, fun _ X' h' => ?_⟩
      · refine ets_one ?_; refine et_cmp ?_; refine ev_lower ?_; refine ev_name h' 10 rfl ?_; refine ⟨_, rfl, by rw [tx_len]; exact Nat.le_of_ble_eq_true rfl, ?_⟩
        refine ev_lower ?_; refine ev_name h' 3 rfl ?_; refine ⟨_, rfl, by rw [tx_len]; exact Nat.le_of_ble_eq_true rfl, ?_⟩
        rw [lo_tx, lo_tx]
        refine od_neS ⟨_, rfl, ?_⟩
        congr 1
        exact decide_eq_decide.mpr (tx_inj.trans (by simp))
      · refine ev_name h' 10 rfl ?_
        rfl
    refine sx_cons ?_; refine s1_set h 5 ?_; refine ev_ix ?_; refine ev_name h 4 rfl ?_; refine ev_call h (cal_draw F) 0 ?_; refine ea_tape h 0 rfl ?_; refine ea_val ?_; refine ev_len h 1 F.b_len ?_; refine ev_name h 4 rfl ?_; refine ⟨((sgs k).filter fun d => !decide (lo d = lo c)).length, by simp only [lenD, List.length_map], ?_⟩; refine ea_nil ?_
    have ol : ((sgs k).filter fun d => !decide (lo d = lo c)).length ≤ 12 := Nat.le_trans (List.length_filter_le _ _) (by omega)
    refine ⟨_, by omega, by omega, rfl, fun t ht => ?_⟩
    have ht' : t < ((sgs k).filter fun d => !decide (lo d = lo c)).length := by omega
    refine ix_lt ht' ?_
    have hd := List.getElem_mem ht'
    generalize ((sgs k).filter fun d => !decide (lo d = lo c))[t] = d at hd
    obtain ⟨hd1, hd2⟩ := List.mem_filter.mp hd
    have hd3 : lo d ≠ lo c := by simpa using hd2
    refine sx_cons ?_; refine s1_set h 6 ?_; refine ev_bin ?_; refine ev_int ?_; refine ev_call h (cal_draw F) 0 ?_; refine ea_tape h 0 rfl ?_; refine ea_val ?_; refine ev_int ?_; refine ea_nil ?_
    refine ⟨13, by omega, by omega, rfl, fun n hn => ?_⟩; refine od_add ?_
    rw [show (3 : Int) + (n : Nat) = ((3 + n : Nat) : Int) by omega]
    refine sx_cons ?_; refine s1_setO h 7 ?_; refine ea_nil ?_; refine ⟨[], rfl, Nat.zero_le _, ?_⟩
    have flat : ∀ m : Nat, rep [c] m = List.replicate m c := fun m => by
      induction m with
      | zero => rfl
      | succ m ih =>
        unfold rep at ih ⊢
        rw [List.replicate_succ, List.flatten_cons, ih]; rfl
    refine sx_cons ?_; refine s1_for (is := [8]) hp h ?_; refine ei_tup ?_; refine ev_tup ?_
    refine ea_val ?_; refine ev_bin ?_; refine ev_bin ?_; refine ev_name h 3 rfl ?_; refine ev_name h 6 rfl ?_; refine od_mulS (by rw [tx_len]; exact Nat.le_of_ble_eq_true rfl) (by omega) ?_
    rw [rep_tx, flat]
    refine ev_name h 5 rfl ?_; refine od_addW (by simp; omega) ?_
    refine ea_val ?_; refine ev_bin ?_; refine ev_bin ?_; refine ev_name h 3 rfl ?_; refine ev_bin ?_; refine ev_name h 6 rfl ?_; refine ev_int ?_; refine od_add ?_
    rw [show ((3 + n : Nat) : Int) + 1 = ((4 + n : Nat) : Int) by omega]
    refine od_mulS (by rw [tx_len]; exact Nat.le_of_ble_eq_true rfl) (by omega) ?_
    rw [rep_tx, flat]
    refine ev_name h 5 rfl ?_; refine od_addW (by simp; omega) ?_
    refine ea_nil ?_; refine ⟨_, rfl, Nat.le_of_ble_eq_true rfl, _, rfl, ?_⟩
    refine ⟨fun i ρ => i ≤ 2 ∧ ∃ ws a b, ρ = [.tape, .val (.int (k : Nat)), .val (dT (sgs k)), .val (dT [c]), .val (.list (((sgs k).filter fun d => !decide (lo d = lo c)).map fun c => dT [c])), .val (dT [d]), .val (.int ((3 + n : Nat) : Int)), .own (List.map dT ws), a, b, .emp] ∧ ws.length = i ∧ ∀ w ∈ ws, Way S w ∧ w.length ≤ 17, ⟨Nat.zero_le _, [], _, _, rfl, rfl, fun w hw => (List.not_mem_nil hw).elim⟩, fun i x ρ hx hI => ?_, fun ρ hI => ?_⟩
    · obtain ⟨hi, ws, a, b, rfl, hl, hw⟩ := hI
      obtain ⟨w, rfl, hww, hwl⟩ : ∃ w, x = dT w ∧ Way S w ∧ w.length ≤ 17 := by
        match i, hx with
        | 0, hx => cases hx; exact ⟨_, rfl, way_two (inS c hc) (inS d hd1) hd3 _, by simp; omega⟩
        | 1, hx => cases hx; exact ⟨_, rfl, way_two (inS c hc) (inS d hd1) hd3 _, by simp; omega⟩
        | i + 2, hx => cases hx
      have hi' : i < 2 := by have := (List.getElem?_eq_some_iff.mp hx).1; exact this
      have app : ∀ (w : List L), Way S w → w.length ≤ 17 → (∀ v ∈ ws ++ [w], Way S v ∧ v.length ≤ 17) := fun w h1 h2 v hv => by
        rcases List.mem_append.mp hv with z | z
        · exact hw v z
        · rw [List.mem_singleton.mp z]; exact ⟨h1, h2⟩
      have ne := hww.ne
      refine tg_name h 8 ?_
      refine sx_cons ?_; refine s1_set h 9 ?_; refine ev_call h (cal_draw F) 0 ?_; refine ea_tape h 0 rfl ?_; refine ea_val ?_; refine ev_len h 1 F.b_len ?_; refine ev_name h 8 rfl ?_; refine ⟨_, lenW (w := w) (by omega), ?_⟩; refine ea_nil ?_
      refine ⟨_, by omega, by omega, rfl, fun t ht => ?_⟩
      refine sx_cons ?_; refine s1_set h 8 ?_; refine ev_ix ?_; refine ev_lst ?_; refine ea_val ?_; refine ev_name h 8 rfl ?_; refine ea_val ?_; refine ev_call h (cal_lback F) 2 ?_; refine ea_val ?_; refine ev_name h 8 rfl ?_; refine ea_nil ?_; refine ⟨w, by omega, rfl, ?_⟩; refine ea_nil ?_
      refine ⟨_, rfl, Nat.le_of_ble_eq_true rfl, ?_⟩
      refine ev_call h (cal_draw F) 0 ?_; refine ea_tape h 0 rfl ?_; refine ea_val ?_; refine ev_int ?_; refine ea_nil ?_
      refine ⟨2, by omega, by omega, rfl, fun b2 hb2 => ?_⟩
      have bl : (bkw w).length = w.length := by simp [bkw]
      refine lback_any ?_ ?_ (b := b2) (by omega)
      · refine sx_one ?_; refine s1_append h 7 rfl ?_; refine ev_bin ?_
        refine ev_slice ?_; refine ev_name h 8 rfl ?_; refine eo_some ?_; refine ev_name h 9 rfl ?_; refine ⟨_, rfl, ?_⟩; refine eo_none ?_; refine sl_W (by omega) ?_; rw [cut_from]
        refine ev_slice ?_; refine ev_name h 8 rfl ?_; refine eo_none ?_; refine eo_some ?_; refine ev_name h 9 rfl ?_; refine ⟨_, rfl, ?_⟩; refine sl_W (by omega) ?_; rw [cut_to]
        refine od_addW (by rw [List.length_drop, List.length_take]; omega) ?_
        exact ⟨by rw [List.length_map]; omega, hi', ws ++ [w.drop t ++ w.take t], _, _, by rw [List.map_append]; rfl, by simp; omega, app _ (way_turn hww (by omega)) (by rw [List.length_append, List.length_drop, List.length_take]; omega)⟩
      · refine sx_one ?_; refine s1_append h 7 rfl ?_; refine ev_bin ?_
        refine ev_slice ?_; refine ev_name h 8 rfl ?_; refine eo_some ?_; refine ev_name h 9 rfl ?_; refine ⟨_, rfl, ?_⟩; refine eo_none ?_; refine sl_W (by omega) ?_; rw [cut_from]
        refine ev_slice ?_; refine ev_name h 8 rfl ?_; refine eo_none ?_; refine eo_some ?_; refine ev_name h 9 rfl ?_; refine ⟨_, rfl, ?_⟩; refine sl_W (by omega) ?_; rw [cut_to]
        refine od_addW (by rw [List.length_drop, List.length_take]; omega) ?_
        exact ⟨by rw [List.length_map]; omega, hi', ws ++ [(bkw w).drop t ++ (bkw w).take t], _, _, by rw [List.map_append]; rfl, by simp; omega, app _ (way_turn (way_back bS hww) (by omega)) (by rw [List.length_append, List.length_drop, List.length_take]; omega)⟩
    · obtain ⟨_, ws, a, b, rfl, hl, hw⟩ := hI
      refine sx_freeze 7 rfl ?_; refine sx_one ?_; refine s1_ret ?_; refine ev_callT h 3 F.b_tuple bb_tuple ?_; refine ea_val ?_; refine ev_name h 7 rfl ?_; refine ea_nil ?_
      refine cd_tupL ?_
      have hl2 : ws.length = 2 := hl
      match ws, hl2, hw with
      | [u, v], _, hw => exact q u v (hw u (by simp)).1 (hw u (by simp)).2 (hw v (by simp)).1 (hw v (by simp)).2
end
end RW
namespace RW
open PySem PySem.Spec PyProof.Rows L2 DL
def wd (d : Bool) : Int := if d then 1 else -1
def ld (ws : List (List L)) (d : Bool) (y : St2) (k : Int) : L := if d then lat ws y k else bk (lat ws y (-k))
theorem first_of {T : List L} {x y : L} (hx : x ∈ T) (ne : x ≠ y) : ∃ h : 0 < (T.filter fun z => decide (z = x) || decide (z = y)).length, decide ((T.filter fun z => decide (z = x) || decide (z = y))[0] = x) = decide (T.idxOf x < T.idxOf y) := by
  induction T with
  | nil => cases hx
  | cons z T ih =>
    by_cases e1 : z = x
    · subst e1
      have e2 : ¬ z = y := ne
      refine ⟨by simp, ?_⟩
      simp [List.idxOf_cons, beq_eq_false_iff_ne.mpr ne]
    · by_cases e2 : z = y
      · subst e2
        refine ⟨by simp, ?_⟩
        simp [List.idxOf_cons, e1]
      · have hx' : x ∈ T := by
          rcases List.mem_cons.mp hx with q | q
          · exact (e1 q.symm).elim
          · exact q
        obtain ⟨h, q⟩ := ih hx'
        have ef : ((z :: T).filter fun z => decide (z = x) || decide (z = y)) = T.filter fun z => decide (z = x) || decide (z = y) := by
          rw [List.filter_cons_of_neg (by simp [e1, e2])]
        refine ⟨by rw [ef]; exact h, ?_⟩
        simp only [ef]
        rw [q]
        refine decide_eq_decide.mpr ?_
        rw [List.idxOf_cons, List.idxOf_cons, beq_eq_false_iff_ne.mpr e1, beq_eq_false_iff_ne.mpr e2]
        simp
section
variable {G : Glb}
def C_sooner : Con := fun ss Φ => ∃ (S : List L) (k : Nat) (b x y : L), Sok S k ∧ b ∈ S ∧ x ∈ S ∧ y ∈ S ∧ x ≠ y ∧ ss = [.val (dT S), .val (dT [b]), .val (dT [x]), .val (dT [y])] ∧ Φ (.bool (decide (cf S b x y)))
theorem cal_sooner (F : Facts G) : Cal G "_law_sooner" 1 C_sooner := by
  obtain ⟨f, fd, FD, hg⟩ := F.a_l_sooner
  refine cal_of (lv := 0) FD hg S_l_sooner bd_l_sooner kg_l_sooner (fun ss Φ h => ?_) (fun X T ss Φ h hp hc => ?_)
  · obtain ⟨_, _, _, _, _, _, _, _, _, _, rfl, _⟩ := h; rfl
  · obtain ⟨S, k, b, x, y, hS, hb, hx, hy, ne, rfl, q⟩ := hc
    have hl := hS.ln
    have h6 := hS.k6
    refine sx_cons ?_; refine s1_set h 4 ?_; refine ev_bin ?_; refine ev_slice ?_; refine ev_name h 0 rfl ?_; refine eo_some ?_; refine ev_windex ?_; refine ev_name h 0 rfl ?_; refine ⟨S, rfl, ?_⟩; refine ev_name h 1 rfl ?_; refine ⟨b, rfl, hb, ?_⟩; refine ⟨_, rfl, ?_⟩; refine eo_none ?_; refine sl_W (by omega) ?_
    refine ev_slice ?_; refine ev_name h 0 rfl ?_; refine eo_none ?_; refine eo_some ?_; refine ev_windex ?_; refine ev_name h 0 rfl ?_; refine ⟨S, rfl, ?_⟩; refine ev_name h 1 rfl ?_; refine ⟨b, rfl, hb, ?_⟩; refine ⟨_, rfl, ?_⟩; refine sl_W (by omega) ?_
    rw [cut_from, cut_to]
    refine od_addW (by simp; omega) ?_
    have mm : ∀ z, z ∈ S → z ∈ S.drop (S.idxOf b) ++ S.take (S.idxOf b) := fun z hz => by
      rw [← List.take_append_drop (S.idxOf b) S, List.mem_append] at hz
      rw [List.mem_append]; exact hz.symm
    obtain ⟨f0, f1⟩ := first_of (mm x hx) ne
    rw [ri_turn hS.nd hb hx, ri_turn hS.nd hb hy] at f1
    have tl : (S.drop (S.idxOf b) ++ S.take (S.idxOf b)).length ≤ 100 := by simp; omega
    generalize S.drop (S.idxOf b) ++ S.take (S.idxOf b) = T at f0 f1 tl
    refine sx_one ?_; refine s1_ret ?_; refine ev_cmp ?_; refine ev_ix ?_; refine ev_lc h o_l_sooner0 [5] k_l_sooner0 g_l_sooner0 ?_; refine ei_str ?_; refine ev_name h 4 rfl ?_; refine ⟨_, rfl, ?_⟩
    rw [chars_tx]
    refine LcQ.on (fun c : L => dT [c]) T (fun z => decide (z = x) || decide (z = y)) (fun c => dT [c]) (by omega) (fun c hc => ?_) ?_
    · refine ⟨_, fun X' h' => tg_name h' 5 rfl, fun X' h' => ?_, fun _ X' h' => ?_⟩
      · refine ets_one ?_; refine et_cmp ?_; refine ev_name h' 5 rfl ?_; refine ev_tup ?_; refine ea_val ?_; refine ev_name h' 2 rfl ?_; refine ea_val ?_; refine ev_name h' 3 rfl ?_; refine ea_nil ?_; refine ⟨_, rfl, Nat.le_of_ble_eq_true rfl, ?_⟩
        refine od_inT (ys := [tx [x], tx [y]]) ⟨_, rfl, ?_⟩
        rw [← Bool.decide_or]
        refine decide_eq_decide.mpr ?_
        simp [tx_inj]
      · refine ev_name h' 5 rfl ?_
        rfl
    · refine ev_int ?_
      refine ix_lt (i := 0) f0 ?_
      refine ev_name h 2 rfl ?_
      refine od_eqL ?_
      rw [f1]
      exact q
def C_sign : Con := fun ss Φ => ∃ (S : List L) (ws : List (List L)) (x : St2) (d : Bool) (k : Int), Wok S ws ∧ x ∈ sds ws ∧ ss = [.val (dT (wy ws x.1)), .val (.int (x.2 : Nat)), .val (.int (wd d)), .val (.int k)] ∧ Φ (dT [ld ws d x k])
theorem cal_sign (F : Facts G) : Cal G "_law_sign" 2 C_sign := by
  obtain ⟨f, fd, FD, hg⟩ := F.a_l_sign
  refine cal_of (lv := 1) FD hg S_l_sign bd_l_sign kg_l_sign (fun ss Φ h => ?_) (fun X T ss Φ h hp hc => ?_)
  · obtain ⟨_, _, _, _, _, _, _, rfl, _⟩ := h; rfl
  · obtain ⟨S, ws, x, d, k, hw, hx, rfl, q⟩ := hc
    have hm := mem_sds.mp hx
    have hl := wy_len hw hx
    have n0 := Int.emod_nonneg ((x.2 : Int) + wd d * k) (show ((wy ws x.1).length : Int) ≠ 0 by omega)
    have n1 := Int.emod_lt_of_pos ((x.2 : Int) + wd d * k) (show (0 : Int) < ((wy ws x.1).length : Int) by omega)
    refine sx_cons ?_; refine s1_set h 4 ?_; refine ev_ix ?_; refine ev_name h 0 rfl ?_; refine ev_bin ?_; refine ev_bin ?_; refine ev_name h 1 rfl ?_; refine ev_bin ?_; refine ev_name h 2 rfl ?_; refine ev_name h 3 rfl ?_; refine od_mul (.inl (by cases d <;> decide)) ?_; refine od_add ?_
    refine ev_len h 0 F.b_len ?_; refine ev_name h 0 rfl ?_; refine ⟨_, lenW hl, ?_⟩; refine od_mod (by omega) ?_
    refine ixC (by omega) n0 n1 ?_
    have e : wa (wy ws x.1) (((x.2 : Int) + wd d * k) % ((wy ws x.1).length : Int)) = wa (wy ws x.1) ((x.2 : Int) + wd d * k) := by
      unfold wa
      rw [Int.emod_emod]
    rw [e]
    refine sx_one ?_; refine s1_ret ?_; refine ev_ifExp ?_; refine et_cmp ?_; refine ev_name h 2 rfl ?_; refine ev_int ?_; refine od_gt ⟨_, rfl, ?_⟩
    cases d with
    | true =>
      refine ifT ?_; refine ev_name h 4 rfl ?_
      have q : Φ (dT [lat ws x k]) := q
      show Φ (dT [wa (wy ws x.1) ((x.2 : Int) + 1 * k)])
      rw [Int.one_mul]; exact q
    | false =>
      refine ifF ?_; refine ev_call h (cal_lback F) 1 ?_; refine ea_val ?_; refine ev_name h 4 rfl ?_; refine ea_nil ?_
      refine ⟨[_], Nat.le_of_ble_eq_true rfl, rfl, ?_⟩
      have q : Φ (dT [bk (lat ws x (-k))]) := q
      show Φ (dT [bk (wa (wy ws x.1) ((x.2 : Int) + -1 * k))])
      rw [show (-1 : Int) * k = -k by omega]; exact q
end
end RW
namespace RW
open PySem PySem.Spec PyProof.Rows L2 DL
def feS (S : List L) (ws : List (List L)) (x y : St2) : Prop := (bk (lat ws x 0) ≠ bk (lat ws y 0) ∧ bk (lat ws x 0) ≠ lat ws y 1 ∧ lat ws x 1 ≠ bk (lat ws y 0) ∧ lat ws x 1 ≠ lat ws y 1) ∧
  ¬ (cf S (bk (lat ws x 0)) (bk (lat ws y 0)) (lat ws x 1) ↔ cf S (bk (lat ws x 0)) (lat ws y 1) (lat ws x 1))
def rd (d : Bool) (ws : List (List L)) (x y : St2) : Nat := rn (fun k => decide (lat ws x k = ld ws d y k)) (rmo ws x y)
section
variable {G : Glb} {S : List L} {ws : List (List L)} {X : Cx} {Φ : PyData → Prop}
theorem ixL0 {x : St2} (hw : Wok S ws) (hx : x ∈ sds ws) (q : Φ (dT [lat ws x 0])) : Ixd X (dT (wy ws x.1)) (.int (x.2 : Nat)) Φ := by
  have hm := mem_sds.mp hx
  have hl := wy_len hw hx
  refine ixC (by omega) (by omega) (by omega) ?_
  unfold lat at q
  rw [Int.add_zero] at q
  exact q
def C_four_ends : Con := fun ss Φ => ∃ (S : List L) (k : Nat) (ws : List (List L)) (x y : St2), Sok S k ∧ Wok S ws ∧ x ∈ sds ws ∧ y ∈ sds ws ∧ ss = [.val (dT S), .val (dWs ws), .val (dS x), .val (dS y)] ∧ ∀ c : Bool, (c = true ↔ feS S ws x y) → Φ (.bool c)
theorem cal_four_ends (F : Facts G) : Cal G "_law_four_ends" 3 C_four_ends := by
  obtain ⟨f, fd, FD, hg⟩ := F.a_l_four_ends
  refine cal_of (lv := 2) FD hg S_l_four_ends bd_l_four_ends kg_l_four_ends (fun ss Φ h => ?_) (fun X T ss Φ h hp hc => ?_)
  · obtain ⟨_, _, _, _, _, _, _, _, _, rfl, _⟩ := h; rfl
  · obtain ⟨S, kk, ws, x, y, hS, hw, hx, hy, rfl, q⟩ := hc
    have lS : ∀ {z : St2} {j : Int}, z ∈ sds ws → lat ws z j ∈ S := fun hz => lat_S hw.w hz _
    have bS : ∀ {c : L}, c ∈ S → bk c ∈ S := fun hc => hw.w.bkS _ hc
    have rx : lat ws x 1 ≠ bk (lat ws x 0) := lat_red hw.w hx 0
    have ry : lat ws y 1 ≠ bk (lat ws y 0) := lat_red hw.w hy 0
    refine sx_cons ?_; refine s1_par h 4 5 ?_
    refine ea_val ?_; refine ev_ix ?_; refine ev_name h 1 rfl ?_; refine ev_ix ?_; refine ev_name h 2 rfl ?_; refine ev_int ?_; refine ix_T (d := .int x.1) rfl ?_; refine ixW (mem_sds.mp hx).1 ?_
    refine ea_val ?_; refine ev_ix ?_; refine ev_name h 1 rfl ?_; refine ev_ix ?_; refine ev_name h 3 rfl ?_; refine ev_int ?_; refine ix_T (d := .int y.1) rfl ?_; refine ixW (mem_sds.mp hy).1 ?_
    refine ea_nil ?_; refine ⟨_, _, rfl, ?_⟩
    refine sx_cons ?_; refine s1_par h 6 7 ?_
    refine ea_val ?_; refine ev_call h (cal_lback F) 0 ?_; refine ea_val ?_; refine ev_ix ?_; refine ev_name h 4 rfl ?_; refine ev_ix ?_; refine ev_name h 2 rfl ?_; refine ev_int ?_; refine ix_T (d := .int x.2) rfl ?_; refine ixL0 hw hx ?_; refine ea_nil ?_; refine ⟨[lat ws x 0], Nat.le_of_ble_eq_true rfl, rfl, ?_⟩
    refine ea_val ?_; refine ev_call h (cal_sign F) 1 ?_; refine ea_val ?_; refine ev_name h 4 rfl ?_; refine ea_val ?_; refine ev_ix ?_; refine ev_name h 2 rfl ?_; refine ev_int ?_; refine ix_T (d := .int x.2) rfl ?_; refine ea_val ?_; refine ev_int ?_; refine ea_val ?_; refine ev_int ?_; refine ea_nil ?_; refine ⟨S, ws, x, true, 1, hw, hx, rfl, ?_⟩
    refine ea_nil ?_; refine ⟨_, _, rfl, ?_⟩
    refine sx_cons ?_; refine s1_set h 8 ?_; refine ev_lst ?_
    refine ea_val ?_; refine ev_call h (cal_lback F) 0 ?_; refine ea_val ?_; refine ev_ix ?_; refine ev_name h 5 rfl ?_; refine ev_ix ?_; refine ev_name h 3 rfl ?_; refine ev_int ?_; refine ix_T (d := .int y.2) rfl ?_; refine ixL0 hw hy ?_; refine ea_nil ?_; refine ⟨[lat ws y 0], Nat.le_of_ble_eq_true rfl, rfl, ?_⟩
    refine ea_val ?_; refine ev_call h (cal_sign F) 1 ?_; refine ea_val ?_; refine ev_name h 5 rfl ?_; refine ea_val ?_; refine ev_ix ?_; refine ev_name h 3 rfl ?_; refine ev_int ?_; refine ix_T (d := .int y.2) rfl ?_; refine ea_val ?_; refine ev_int ?_; refine ea_val ?_; refine ev_int ?_; refine ea_nil ?_; refine ⟨S, ws, y, true, 1, hw, hy, rfl, ?_⟩
    refine ea_nil ?_; refine ⟨_, rfl, Nat.le_of_ble_eq_true rfl, ?_⟩
    show Sx X T [.val (dT S), .val (dWs ws), .val (dS x), .val (dS y), .val (dT (wy ws x.1)), .val (dT (wy ws y.1)), .val (dT [bk (lat ws x 0)]), .val (dT [lat ws x 1]), .val (.list [dT [bk (lat ws y 0)], dT [lat ws y 1]]), .emp] _ _
    refine sx_cons ?_; refine s1_if ?_; refine et_cmp ?_; refine ev_lenSet h 2 3 F.b_len F.b_set ?_; refine ev_bin ?_; refine ev_lst ?_
    refine ea_val ?_; refine ev_name h 6 rfl ?_; refine ea_val ?_; refine ev_name h 7 rfl ?_; refine ea_nil ?_; refine ⟨_, rfl, Nat.le_of_ble_eq_true rfl, ?_⟩; refine ev_name h 8 rfl ?_; refine od_addL (Nat.le_of_ble_eq_true rfl) ?_
    refine ⟨[tx [bk (lat ws x 0)], tx [lat ws x 1], tx [bk (lat ws y 0)], tx [lat ws y 1]], rfl, Nat.le_of_ble_eq_true rfl, ?_⟩
    refine ev_int ?_; refine od_lt ⟨_, rfl, ?_⟩
    have e4 : ((((LS.unl [tx [bk (lat ws x 0)], tx [lat ws x 1], tx [bk (lat ws y 0)], tx [lat ws y 1]] [tx [bk (lat ws x 0)], tx [lat ws x 1], tx [bk (lat ws y 0)], tx [lat ws y 1]].length).length : Nat) : Int) < 4) ↔ ¬ (bk (lat ws x 0) ≠ bk (lat ws y 0) ∧ bk (lat ws x 0) ≠ lat ws y 1 ∧ lat ws x 1 ≠ bk (lat ws y 0) ∧ lat ws x 1 ≠ lat ws y 1) := by
      have := four_unl (a := bk (lat ws x 0)) (b := lat ws x 1) (c := bk (lat ws y 0)) (d := lat ws y 1)
      rw [show ∀ n : Nat, ((n : Int) < 4) ↔ n < 4 from fun n => by omega]
      refine Iff.trans this ?_
      have n1 := Ne.symm rx
      have n2 := Ne.symm ry
      constructor
      · exact fun z w => z ⟨n1, w.1, w.2.1, w.2.2.1, w.2.2.2, n2⟩
      · exact fun z w => z ⟨w.2.1, w.2.2.1, w.2.2.2.1, w.2.2.2.2.1⟩
    by_cases h2 : bk (lat ws x 0) ≠ bk (lat ws y 0) ∧ bk (lat ws x 0) ≠ lat ws y 1 ∧ lat ws x 1 ≠ bk (lat ws y 0) ∧ lat ws x 1 ≠ lat ws y 1
    case neg => rw [decide_eq_true (e4.mpr h2)]; refine ifT ?_; refine sx_one ?_; refine s1_ret ?_; refine ev_bl ?_; exact q false ⟨fun z => (by cases z), fun z => (h2 z.1).elim⟩
    rw [decide_eq_false (fun z => e4.mp z h2)]; refine ifF ?_; refine sx_nil ?_
    refine sx_cons ?_; refine s1_set h 9 ?_; refine ev_call h (cal_sooner F) 4 ?_; refine ea_val ?_; refine ev_name h 0 rfl ?_; refine ea_val ?_; refine ev_name h 6 rfl ?_; refine ea_val ?_; refine ev_ix ?_; refine ev_name h 8 rfl ?_; refine ev_int ?_; refine ix_L (d := dT [bk (lat ws y 0)]) rfl ?_; refine ea_val ?_; refine ev_name h 7 rfl ?_; refine ea_nil ?_
    refine ⟨S, kk, _, _, _, hS, bS (lS hx), bS (lS hy), lS hx, Ne.symm h2.2.2.1, rfl, ?_⟩
    refine sx_one ?_; refine s1_ret ?_; refine ev_cmp ?_; refine ev_name h 9 rfl ?_
    refine ev_call h (cal_sooner F) 4 ?_; refine ea_val ?_; refine ev_name h 0 rfl ?_; refine ea_val ?_; refine ev_name h 6 rfl ?_; refine ea_val ?_; refine ev_ix ?_; refine ev_name h 8 rfl ?_; refine ev_int ?_; refine ix_L (d := dT [lat ws y 1]) rfl ?_; refine ea_val ?_; refine ev_name h 7 rfl ?_; refine ea_nil ?_
    refine ⟨S, kk, _, _, _, hS, bS (lS hx), lS hy, lS hx, Ne.symm h2.2.2.2, rfl, ?_⟩
    refine od_neB (q _ ?_)
    unfold feS
    by_cases a : cf S (bk (lat ws x 0)) (bk (lat ws y 0)) (lat ws x 1) <;> by_cases b : cf S (bk (lat ws x 0)) (lat ws y 1) (lat ws x 1)
    · simp [a, b]
    · simp only [a, b, decide_true, decide_false]; simp; exact h2
    · simp only [a, b, decide_true, decide_false]; simp; exact h2
    · simp [a, b]
def C_run : Con := fun ss Φ => ∃ (S : List L) (ws : List (List L)) (x y : St2) (d : Bool), Wok S ws ∧ x ∈ sds ws ∧ y ∈ sds ws ∧ ss = [.val (dT (wy ws x.1)), .val (.int (x.2 : Nat)), .val (dT (wy ws y.1)), .val (.int (y.2 : Nat)), .val (.int (wd d))] ∧ Φ (.int (rd d ws x y : Nat))
theorem cal_run (F : Facts G) : Cal G "_law_run" 3 C_run := by
  obtain ⟨f, fd, FD, hg⟩ := F.a_l_run
  refine cal_of (lv := 2) FD hg S_l_run bd_l_run kg_l_run (fun ss Φ h => ?_) (fun X T ss Φ h hp hc => ?_)
  · obtain ⟨_, _, _, _, _, _, _, _, rfl, _⟩ := h; rfl
  · obtain ⟨S, ws, x, y, d, hw, hx, hy, rfl, q⟩ := hc
    have hm := mem_sds.mp hx
    have hl := wy_len hw hx
    have hl' := wy_len hw hy
    refine sx_cons ?_; refine s1_set h 5 ?_; refine ev_int ?_
    refine sx_cons ?_
    refine s1_whileP hp (fun mm ρ => ∃ k : Nat, k ≤ rmo ws x y ∧ mm = rmo ws x y - k ∧ ρ = [.val (dT (wy ws x.1)), .val (.int (x.2 : Nat)), .val (dT (wy ws y.1)), .val (.int (y.2 : Nat)), .val (.int (wd d)), .val (.int (k : Nat))] ∧ ∀ j : Nat, j < k → decide (lat ws x j = ld ws d y j) = true)
      (fun ρ => ρ = [.val (dT (wy ws x.1)), .val (.int (x.2 : Nat)), .val (dT (wy ws y.1)), .val (.int (y.2 : Nat)), .val (.int (wd d)), .val (.int (rd d ws x y : Nat))]) (rmo ws x y) ⟨0, Nat.zero_le _, rfl, rfl, fun j hj => absurd hj (Nat.not_lt_zero j)⟩ ?_ ?_
    · rintro mm ρ' ⟨k, hk, rfl, rfl, ha⟩
      refine et_cmp ?_; refine ev_name h 5 rfl ?_; refine ev_bin ?_; refine ev_len h 0 F.b_len ?_; refine ev_name h 0 rfl ?_; refine ⟨_, lenW hl, ?_⟩; refine ev_len h 0 F.b_len ?_; refine ev_name h 2 rfl ?_; refine ⟨_, lenW hl', ?_⟩; refine od_add ?_; refine od_lt ⟨_, rfl, ?_⟩
      by_cases h1 : k < rmo ws x y
      · rw [decide_eq_true (by unfold rmo at h1; omega)]; refine ifT ?_
        refine sx_cons ?_; refine s1_if ?_; refine et_cmp ?_; refine ev_ix ?_; refine ev_name h 0 rfl ?_; refine ev_bin ?_; refine ev_bin ?_; refine ev_name h 1 rfl ?_; refine ev_name h 5 rfl ?_; refine od_add ?_; refine ev_len h 0 F.b_len ?_; refine ev_name h 0 rfl ?_; refine ⟨_, lenW hl, ?_⟩; refine od_mod (by omega) ?_
        refine ixC (by omega) (Int.emod_nonneg _ (by omega)) (Int.emod_lt_of_pos _ (by omega)) ?_
        have e : wa (wy ws x.1) (((x.2 : Int) + (k : Nat)) % ((wy ws x.1).length : Int)) = lat ws x k := by
          unfold lat wa
          rw [Int.emod_emod]
        rw [e]
        refine ev_call h (cal_sign F) 1 ?_; refine ea_val ?_; refine ev_name h 2 rfl ?_; refine ea_val ?_; refine ev_name h 3 rfl ?_; refine ea_val ?_; refine ev_name h 4 rfl ?_; refine ea_val ?_; refine ev_name h 5 rfl ?_; refine ea_nil ?_; refine ⟨S, ws, y, d, k, hw, hy, rfl, ?_⟩
        refine od_neS ⟨_, rfl, ?_⟩
        by_cases h2 : lat ws x k = ld ws d y k
        · rw [h2, decide_eq_true rfl]; refine ifF ?_; refine sx_nil ?_
          refine sx_one ?_; refine s1_set h 5 ?_; refine ev_bin ?_; refine ev_name h 5 rfl ?_; refine ev_int ?_; refine od_add ?_
          refine ⟨rmo ws x y - (k + 1), by omega, k + 1, h1, rfl, by rw [Int.natCast_add]; rfl, fun j hj => ?_⟩
          by_cases e : j = k
          · subst e; exact decide_eq_true h2
          · exact ha j (by omega)
        · rw [decide_eq_false (fun z => h2 (by simpa using tx_inj.mp z))]; refine ifT ?_
          refine sx_one ?_; refine s1_ret ?_; refine ev_name h 5 rfl ?_
          have := rn_eq (f := fun k => decide (lat ws x k = ld ws d y k)) hk ha (fun _ => decide_eq_false h2)
          unfold rd at q
          rw [this] at q
          exact q
      · rw [decide_eq_false (by unfold rmo at h1; omega)]; refine ifF ?_
        have := rn_eq (f := fun k => decide (lat ws x k = ld ws d y k)) hk ha (fun z => absurd z h1)
        unfold rd
        rw [this]
    · rintro ρ' rfl
      refine sx_one ?_; refine s1_ret ?_; refine ev_name h 5 rfl ?_
      exact q
end
end RW
namespace RW
open PySem PySem.Spec PyProof.Rows L2 DL
def paS (S : List L) (ws : List (List L)) (x y : St2) (d : Bool) (m : Nat) : Prop := lat ws x (-1) ≠ ld ws d y (-1) ∧ lat ws x m ≠ ld ws d y m ∧
  (cf S (bk (lat ws x (m - 1))) (lat ws x m) (ld ws d y m) ↔ cf S (lat ws x 0) (bk (lat ws x (-1))) (bk (ld ws d y (-1))))
theorem lk_al {S : List L} {ws : List (List L)} (h : Ways S ws) {x y : St2} (hx : x ∈ sds ws) (hy : y ∈ sds ws) (d : Bool) :
    lkB h (.al d x y (rd d ws x y)) = true ↔ slt x (if d then y else mvs ws y (1 - (rd d ws x y : Nat))) ∧ 0 < rd d ws x y ∧ paS S ws x y d (rd d ws x y) := by
  rw [lkB_iff]
  obtain ⟨s1, s2, _⟩ := rn_spec (fun k => decide (lat ws x k = ld ws d y k)) (rmo ws x y)
  have s1' : ∀ k : Nat, k < rd d ws x y → lat ws x k = ld ws d y k := fun k hk => of_decide_eq_true (s1 k hk)
  have s2' : rd d ws x y ≤ rmo ws x y := s2
  generalize rd d ws x y = m at s1' s2' ⊢
  cases d with
  | true =>
    rw [alT_iff h hx hy]
    exact ⟨fun ⟨a, b, c, e, f, g, i⟩ => ⟨b, a, f, g, i⟩, fun ⟨b, a, f, g, i⟩ => ⟨a, b, s2', s1', f, g, i⟩⟩
  | false =>
    rw [alF_iff h hx hy]
    have e1 : ld ws false y (-1) = bk (lat ws y 1) := rfl
    have e2 : bk (ld ws false y (-1)) = lat ws y 1 := by rw [e1, bk_bk]
    unfold paS
    rw [e2, e1]
    exact ⟨fun ⟨a, c, b, e, f, g, i⟩ => ⟨b, a, f, g, i⟩, fun ⟨b, a, f, g, i⟩ => ⟨a, s2', b, s1', f, g, i⟩⟩
section
variable {G : Glb}
def C_parted : Con := fun ss Φ => ∃ (S : List L) (k : Nat) (ws : List (List L)) (x y : St2) (d : Bool) (m : Nat), Sok S k ∧ Wok S ws ∧ x ∈ sds ws ∧ y ∈ sds ws ∧ ss = [.val (dT S), .val (dT (wy ws x.1)), .val (.int (x.2 : Nat)), .val (dT (wy ws y.1)), .val (.int (y.2 : Nat)), .val (.int (wd d)), .val (.int (m : Nat))] ∧ ∀ c : Bool, (c = true ↔ paS S ws x y d m) → Φ (.bool c)
theorem cal_parted (F : Facts G) : Cal G "_law_parted" 3 C_parted := by
  obtain ⟨f, fd, FD, hg⟩ := F.a_l_parted
  refine cal_of (lv := 2) FD hg S_l_parted bd_l_parted kg_l_parted (fun ss Φ h => ?_) (fun X T ss Φ h hp hc => ?_)
  · obtain ⟨_, _, _, _, _, _, _, _, _, _, _, rfl, _⟩ := h; rfl
  · obtain ⟨S, kk, ws, x, y, d, m, hS, hw, hx, hy, rfl, q⟩ := hc
    have lS : ∀ {z : St2} {j : Int}, z ∈ sds ws → lat ws z j ∈ S := fun hz => lat_S hw.w hz _
    have bS : ∀ {c : L}, c ∈ S → bk c ∈ S := fun hc => hw.w.bkS _ hc
    have dS' : ∀ {j : Int}, ld ws d y j ∈ S := fun {j} => by
      cases d with
      | true => exact lS hy
      | false => exact bS (lS hy)
    refine sx_cons ?_; refine s1_set h 7 ?_; refine ev_lst ?_
    refine ea_val ?_; refine ev_call h (cal_sign F) 0 ?_; refine ea_val ?_; refine ev_name h 1 rfl ?_; refine ea_val ?_; refine ev_name h 2 rfl ?_; refine ea_val ?_; refine ev_int ?_; refine ea_val ?_; refine ev_un ?_; refine ev_int ?_; refine ud_neg ?_; refine ea_nil ?_; refine ⟨S, ws, x, true, -1, hw, hx, rfl, ?_⟩
    refine ea_val ?_; refine ev_call h (cal_sign F) 0 ?_; refine ea_val ?_; refine ev_name h 3 rfl ?_; refine ea_val ?_; refine ev_name h 4 rfl ?_; refine ea_val ?_; refine ev_name h 5 rfl ?_; refine ea_val ?_; refine ev_un ?_; refine ev_int ?_; refine ud_neg ?_; refine ea_nil ?_; refine ⟨S, ws, y, d, -1, hw, hy, rfl, ?_⟩
    refine ea_nil ?_; refine ⟨_, rfl, Nat.le_of_ble_eq_true rfl, ?_⟩
    refine sx_cons ?_; refine s1_set h 8 ?_; refine ev_lst ?_
    refine ea_val ?_; refine ev_call h (cal_sign F) 0 ?_; refine ea_val ?_; refine ev_name h 1 rfl ?_; refine ea_val ?_; refine ev_name h 2 rfl ?_; refine ea_val ?_; refine ev_int ?_; refine ea_val ?_; refine ev_name h 6 rfl ?_; refine ea_nil ?_; refine ⟨S, ws, x, true, (m : Nat), hw, hx, rfl, ?_⟩
    refine ea_val ?_; refine ev_call h (cal_sign F) 0 ?_; refine ea_val ?_; refine ev_name h 3 rfl ?_; refine ea_val ?_; refine ev_name h 4 rfl ?_; refine ea_val ?_; refine ev_name h 5 rfl ?_; refine ea_val ?_; refine ev_name h 6 rfl ?_; refine ea_nil ?_; refine ⟨S, ws, y, d, (m : Nat), hw, hy, rfl, ?_⟩
    refine ea_nil ?_; refine ⟨_, rfl, Nat.le_of_ble_eq_true rfl, ?_⟩
    show Sx X T [.val (dT S), .val (dT (wy ws x.1)), .val (.int (x.2 : Nat)), .val (dT (wy ws y.1)), .val (.int (y.2 : Nat)), .val (.int (wd d)), .val (.int (m : Nat)), .val (.list [dT [lat ws x (-1)], dT [ld ws d y (-1)]]), .val (.list [dT [lat ws x m], dT [ld ws d y m]]), .emp, .emp, .emp] _ _
    refine sx_cons ?_; refine s1_if ?_; refine et_w ?_; refine ew_or ?_; refine et_cmp ?_; refine ev_ix ?_; refine ev_name h 7 rfl ?_; refine ev_int ?_; refine ix_L (d := dT [lat ws x (-1)]) rfl ?_; refine ev_ix ?_; refine ev_name h 7 rfl ?_; refine ev_int ?_; refine ix_L (d := dT [ld ws d y (-1)]) rfl ?_
    refine od_eqL ⟨_, rfl, ?_⟩
    by_cases h1 : lat ws x (-1) = ld ws d y (-1)
    case pos => rw [decide_eq_true h1]; refine ifT ?_; refine ifT ?_; refine sx_one ?_; refine s1_ret ?_; refine ev_bl ?_; exact q false ⟨fun z => (by cases z), fun z => (z.1 h1).elim⟩
    rw [decide_eq_false h1]; refine ifF ?_; refine ew_or1 ?_; refine et_cmp ?_; refine ev_ix ?_; refine ev_name h 8 rfl ?_; refine ev_int ?_; refine ix_L (d := dT [lat ws x m]) rfl ?_; refine ev_ix ?_; refine ev_name h 8 rfl ?_; refine ev_int ?_; refine ix_L (d := dT [ld ws d y m]) rfl ?_
    refine od_eqL ⟨_, rfl, ?_⟩
    by_cases h2 : lat ws x m = ld ws d y m
    case pos => rw [decide_eq_true h2]; refine ifT ?_; refine sx_one ?_; refine s1_ret ?_; refine ev_bl ?_; exact q false ⟨fun z => (by cases z), fun z => (z.2.1 h2).elim⟩
    rw [decide_eq_false h2]; refine ifF ?_; refine sx_nil ?_
    refine sx_cons ?_; refine s1_set h 9 ?_; refine ev_call h (cal_lback F) 1 ?_; refine ea_val ?_; refine ev_call h (cal_sign F) 0 ?_; refine ea_val ?_; refine ev_name h 1 rfl ?_; refine ea_val ?_; refine ev_name h 2 rfl ?_; refine ea_val ?_; refine ev_int ?_; refine ea_val ?_; refine ev_bin ?_; refine ev_name h 6 rfl ?_; refine ev_int ?_; refine od_sub ?_; refine ea_nil ?_; refine ⟨S, ws, x, true, (m : Int) - 1, hw, hx, rfl, ?_⟩; refine ea_nil ?_; refine ⟨[lat ws x (m - 1)], Nat.le_of_ble_eq_true rfl, rfl, ?_⟩
    refine sx_cons ?_; refine s1_set h 10 ?_; refine ev_call h (cal_sooner F) 2 ?_; refine ea_val ?_; refine ev_name h 0 rfl ?_; refine ea_val ?_; refine ev_name h 9 rfl ?_
    refine ea_val ?_; refine ev_ix ?_; refine ev_name h 8 rfl ?_; refine ev_int ?_; refine ix_L (d := dT [lat ws x m]) rfl ?_; refine ea_val ?_; refine ev_ix ?_; refine ev_name h 8 rfl ?_; refine ev_int ?_; refine ix_L (d := dT [ld ws d y m]) rfl ?_; refine ea_nil ?_
    refine ⟨S, kk, bk (lat ws x (m - 1)), _, _, hS, bS (lS hx), lS hx, dS', h2, rfl, ?_⟩
    refine sx_cons ?_; refine s1_setLc h 7 o_l_parted0 [11] k_l_parted0 g_l_parted0 ?_; refine ei_list ?_; refine ev_name h 7 rfl ?_; refine ⟨_, rfl, ?_⟩
    refine LcQ.on (fun c : L => dT [c]) [lat ws x (-1), ld ws d y (-1)] (fun _ => true) (fun c => dT [bk c]) (Nat.le_of_ble_eq_true rfl) (fun c hc => ?_) ?_
    · refine ⟨_, fun X' h' => tg_name h' 11 rfl, fun X' h' => ets_nil rfl, fun _ X' h' => ?_⟩
      refine ev_call h' (cal_lback F) 0 ?_; refine ea_val ?_; refine ev_name h' 11 rfl ?_; refine ea_nil ?_
      exact ⟨[c], Nat.le_of_ble_eq_true rfl, rfl, rfl⟩
    refine sx_one ?_; refine s1_ret ?_; refine ev_cmp ?_; refine ev_name h 10 rfl ?_; refine ev_call h (cal_sooner F) 2 ?_; refine ea_val ?_; refine ev_name h 0 rfl ?_; refine ea_val ?_; refine ev_ix ?_; refine ev_name h 1 rfl ?_; refine ev_name h 2 rfl ?_; refine ixL0 hw hx ?_
    refine ea_val ?_; refine ev_ix ?_; refine ev_name h 7 rfl ?_; refine ev_int ?_; refine ix_L (d := dT [bk (lat ws x (-1))]) rfl ?_; refine ea_val ?_; refine ev_ix ?_; refine ev_name h 7 rfl ?_; refine ev_int ?_; refine ix_L (d := dT [bk (ld ws d y (-1))]) rfl ?_; refine ea_nil ?_
    refine ⟨S, kk, _, _, _, hS, lS hx, bS (lS hx), bS dS', fun z => h1 (bk_inj z), rfl, ?_⟩
    refine od_eqB (q _ ?_)
    rw [decide_eq_true_iff]
    unfold paS
    rw [decide_eq_decide]
    exact ⟨fun z => ⟨h1, h2, z⟩, fun z => z.2.2⟩
end
end RW
namespace RW
open PySem PySem.Spec PyProof.Rows L2 DL
theorem cand_next {S : List L} {ws : List (List L)} (h : Ways S ws) (x y : St2) (d : Bool) (n : Nat) (hn : n = if d then 1 else 2) : ((cand ws x y).take (n + 1)).filter (lkB h) = ((cand ws x y).take n).filter (lkB h) ++ if lkB h (.al d x y (rd d ws x y)) = true then [.al d x y (rd d ws x y)] else [] := by
  have e : (cand ws x y).take (n + 1) = (cand ws x y).take n ++ [.al d x y (rd d ws x y)] := by
    cases d with
    | true => subst hn; rfl
    | false => subst hn; rfl
  rw [e, List.filter_append]
  congr 1
  by_cases q : lkB h (.al d x y (rd d ws x y)) = true
  · rw [if_pos q, List.filter_cons_of_pos q]; rfl
  · rw [if_neg q, List.filter_cons_of_neg q]; rfl
section
variable {G : Glb}
def C_linked_at : Con := fun ss Φ => ∃ (S : List L) (k : Nat) (ws : List (List L)) (x y : St2) (hw : Wok S ws), Sok S k ∧ x ∈ sds ws ∧ y ∈ sds ws ∧ ss = [.val (dT S), .val (dWs ws), .val (dS x), .val (dS y)] ∧ Φ (.list ((lkAt hw.w x y).map encLk))
theorem cal_linked_at (F : Facts G) : Cal G "_law_linked_at" 4 C_linked_at := by
  obtain ⟨f, fd, FD, hg⟩ := F.a_l_linked_at
  refine cal_of (lv := 3) FD hg S_l_linked_at bd_l_linked_at kg_l_linked_at (fun ss Φ h => ?_) (fun X T ss Φ h hp hc => ?_)
  · obtain ⟨_, _, _, _, _, _, _, _, _, rfl, _⟩ := h; rfl
  · obtain ⟨S, kk, ws, x, y, hw, hS, hx, hy, rfl, q⟩ := hc
    have hu := un_ok h
    have mx := mem_sds.mp hx
    have my := mem_sds.mp hy
    have ly := wy_len hw hy
    refine sx_cons ?_; refine s1_par h 4 5 ?_
    refine ea_val ?_; refine ev_ix ?_; refine ev_name h 1 rfl ?_; refine ev_ix ?_; refine ev_name h 2 rfl ?_; refine ev_int ?_; refine ix_T (d := .int x.1) rfl ?_; refine ixW mx.1 ?_
    refine ea_val ?_; refine ev_ix ?_; refine ev_name h 1 rfl ?_; refine ev_ix ?_; refine ev_name h 3 rfl ?_; refine ev_int ?_; refine ix_T (d := .int y.1) rfl ?_; refine ixW my.1 ?_
    refine ea_nil ?_; refine ⟨_, _, rfl, ?_⟩
    refine sx_cons ?_; refine s1_par h 6 7 ?_
    refine ea_val ?_; refine ev_ix ?_; refine ev_name h 2 rfl ?_; refine ev_int ?_; refine ix_T (d := .int x.2) rfl ?_
    refine ea_val ?_; refine ev_ix ?_; refine ev_name h 3 rfl ?_; refine ev_int ?_; refine ix_T (d := .int y.2) rfl ?_
    refine ea_nil ?_; refine ⟨_, _, rfl, ?_⟩
    refine sx_cons ?_; refine s1_setO h 8 ?_; refine ea_nil ?_; refine ⟨[], rfl, Nat.zero_le _, ?_⟩
    have loop : ∀ ds : List PyData, ds = (((cand ws x y).take 1).filter (lkB hw.w)).map encLk → Sx X T [.val (dT S), .val (dWs ws), .val (dS x), .val (dS y), .val (dT (wy ws x.1)), .val (dT (wy ws y.1)), .val (.int (x.2 : Nat)), .val (.int (y.2 : Nat)), .own ds, .emp, .emp, .emp, .emp] ((defBody (top 60)).drop 4) ⟨fun _ => Φ .none, Φ, fun _ => False, fun _ => False⟩ := fun ds hds => by
      refine sx_cons ?_; refine s1_for (is := [9, 10]) hp h ?_; refine ei_tup ?_; refine ev_tup ?_
      refine ea_val ?_; refine ev_tup ?_; refine ea_val ?_; refine ev_str ?_; refine ea_val ?_; refine ev_int ?_; refine ea_nil ?_; refine ⟨_, rfl, Nat.le_of_ble_eq_true rfl, ?_⟩
      refine ea_val ?_; refine ev_tup ?_; refine ea_val ?_; refine ev_str ?_; refine ea_val ?_; refine ev_un ?_; refine ev_int ?_; refine ud_neg ?_; refine ea_nil ?_; refine ⟨_, rfl, Nat.le_of_ble_eq_true rfl, ?_⟩
      refine ea_nil ?_; refine ⟨_, rfl, Nat.le_of_ble_eq_true rfl, _, rfl, ?_⟩
      refine ⟨fun i ρ => ∃ ds a b c e, ρ = [.val (dT S), .val (dWs ws), .val (dS x), .val (dS y), .val (dT (wy ws x.1)), .val (dT (wy ws y.1)), .val (.int (x.2 : Nat)), .val (.int (y.2 : Nat)), .own ds, a, b, c, e] ∧ ds = (((cand ws x y).take (i + 1)).filter (lkB hw.w)).map encLk, ⟨_, _, _, _, _, rfl, hds⟩, fun i d ρ hd hI => ?_, fun ρ hI => ?_⟩
      · obtain ⟨ds, a, b, c, e, rfl, hds⟩ := hI
        obtain ⟨t, rfl, hi⟩ : ∃ t : Bool, d = .tuple [.str (if t then "along" else "against"), .int (wd t)] ∧ i + 1 = if t then 1 else 2 := by
          match i, hd with
          | 0, hd => cases hd; exact ⟨true, rfl, rfl⟩
          | 1, hd => cases hd; exact ⟨false, rfl, rfl⟩
          | i + 2, hd => cases hd
        have cn := cand_next hw.w x y t (i + 1) hi
        have lk := lk_al hw.w hx hy t
        have dl : ds.length ≤ 3 := by
          rw [hds, List.length_map]
          exact Nat.le_trans (List.length_filter_le _ _) (Nat.le_trans (List.length_take_le _ _) (by cases t <;> simp at hi <;> omega))
        refine tg_pair h 9 10 ?_
        refine sx_cons ?_; refine s1_set h 11 ?_; refine ev_call h (cal_run F) 1 ?_; refine ea_val ?_; refine ev_name h 4 rfl ?_; refine ea_val ?_; refine ev_name h 6 rfl ?_; refine ea_val ?_; refine ev_name h 5 rfl ?_; refine ea_val ?_; refine ev_name h 7 rfl ?_; refine ea_val ?_; refine ev_name h 10 rfl ?_; refine ea_nil ?_
        refine ⟨S, ws, x, y, t, hw, hx, hy, rfl, ?_⟩
        generalize rd t ws x y = m at cn lk ⊢
        have no : ¬ lkB hw.w (.al t x y m) = true → ds = (((cand ws x y).take (i + 1 + 1)).filter (lkB hw.w)).map encLk := fun z => by
          rw [cn, if_neg z, List.append_nil]; exact hds
        refine sx_cons ?_; refine s1_set h 12 ?_; refine Ev.mono (Φ := fun d => d = dS (if t then y else mvs ws y (1 - (m : Nat)))) ?_ fun d hd => ?_
        · refine ev_ifExp ?_; refine et_cmp ?_; refine ev_name h 10 rfl ?_; refine ev_int ?_; refine od_gt ⟨_, rfl, ?_⟩
          cases t with
          | true => refine ifT ?_; refine ev_name h 3 rfl ?_; rfl
          | false =>
            refine ifF ?_; refine ev_tup ?_; refine ea_val ?_; refine ev_ix ?_; refine ev_name h 3 rfl ?_; refine ev_int ?_; refine ix_T (d := .int y.1) rfl ?_
            refine ea_val ?_; refine ev_bin ?_; refine ev_bin ?_; refine ev_bin ?_; refine ev_name h 7 rfl ?_; refine ev_name h 11 rfl ?_; refine od_sub ?_; refine ev_int ?_; refine od_add ?_; refine ev_len h 2 F.b_len ?_; refine ev_name h 5 rfl ?_; refine ⟨_, lenW ly, ?_⟩; refine od_mod (by omega) ?_
            refine ea_nil ?_; refine ⟨_, rfl, Nat.le_of_ble_eq_true rfl, ?_⟩
            have n0 := Int.emod_nonneg ((y.2 : Int) + (1 - (m : Nat))) (show ((wy ws y.1).length : Int) ≠ 0 by omega)
            show _ = dS (mvs ws y (1 - (m : Nat)))
            unfold dS mvs
            rw [Int.toNat_of_nonneg n0, show (y.2 : Int) - (m : Nat) + 1 = (y.2 : Int) + (1 - (m : Nat)) by omega]
        subst hd
        refine sx_one ?_; refine s1_if ?_; refine et_w ?_; refine ew_and ?_; refine et_cmp ?_; refine ev_name h 2 rfl ?_; refine ev_name h 12 rfl ?_; refine od_ltS hu ⟨_, rfl, ?_⟩
        by_cases l1 : slt x (if t then y else mvs ws y (1 - (m : Nat)))
        case neg => rw [decide_eq_false l1]; refine ifF ?_; refine ifF ?_; refine sx_nil ?_; exact ⟨_, _, _, _, _, rfl, no fun z => l1 (lk.mp z).1⟩
        rw [decide_eq_true l1]; refine ifT ?_
        refine ew_and ?_; refine et_cmp ?_; refine ev_name h 11 rfl ?_; refine ev_int ?_; refine od_gt ⟨_, rfl, ?_⟩
        by_cases l2 : 0 < m
        case neg => rw [decide_eq_false (by omega)]; refine ifF ?_; refine ifF ?_; refine sx_nil ?_; exact ⟨_, _, _, _, _, rfl, no fun z => l2 (lk.mp z).2.1⟩
        rw [decide_eq_true (by omega)]; refine ifT ?_
        refine ew_and1 ?_; refine et_val ?_; refine ev_call h (cal_parted F) 3 ?_; refine ea_val ?_; refine ev_name h 0 rfl ?_; refine ea_val ?_; refine ev_name h 4 rfl ?_; refine ea_val ?_; refine ev_name h 6 rfl ?_; refine ea_val ?_; refine ev_name h 5 rfl ?_; refine ea_val ?_; refine ev_name h 7 rfl ?_; refine ea_val ?_; refine ev_name h 10 rfl ?_; refine ea_val ?_; refine ev_name h 11 rfl ?_; refine ea_nil ?_
        refine ⟨S, kk, ws, x, y, t, m, hS, hw, hx, hy, rfl, fun c hc => ⟨c, rfl, ?_⟩⟩
        cases c with
        | false => refine ifF ?_; refine sx_nil ?_; exact ⟨_, _, _, _, _, rfl, no fun z => Bool.false_ne_true (hc.mpr (lk.mp z).2.2)⟩
        | true =>
          refine ifT ?_
          refine sx_one ?_; refine s1_append h 8 rfl ?_; refine ev_tup ?_; refine ea_val ?_; refine ev_name h 9 rfl ?_; refine ea_val ?_; refine ev_name h 2 rfl ?_; refine ea_val ?_; refine ev_name h 3 rfl ?_; refine ea_val ?_; refine ev_name h 11 rfl ?_; refine ea_nil ?_; refine ⟨_, rfl, Nat.le_of_ble_eq_true rfl, by omega, ?_⟩
          refine ⟨_, _, _, _, _, rfl, ?_⟩
          rw [cn, if_pos (lk.mpr ⟨l1, l2, hc.mp rfl⟩), List.map_append, ← hds]; rfl
      · obtain ⟨ds, a, b, c, e, rfl, hds⟩ := hI
        refine sx_freeze 8 rfl ?_; refine sx_one ?_; refine s1_ret ?_; refine ev_name h 8 rfl ?_
        rw [hds]
        exact q
    refine sx_cons ?_; refine s1_if ?_; refine et_w ?_; refine ew_and ?_; refine et_cmp ?_; refine ev_name h 2 rfl ?_; refine ev_name h 3 rfl ?_; refine od_ltS hu ⟨_, rfl, ?_⟩
    have b0 : ¬ beS S ws x y → ([] : List PyData) = (((cand ws x y).take 1).filter (lkB hw.w)).map encLk := fun z => by
      have : lkB hw.w (.bes x y) = false := by
        cases e : lkB hw.w (.bes x y) with
        | false => rfl
        | true => exact (z ((beS_iff hw.w hx hy).mp (lkB_iff.mp e))).elim
      show [] = (([.bes x y] : List (Lk St2)).filter (lkB hw.w)).map encLk
      rw [List.filter_cons_of_neg (by rw [this]; exact Bool.false_ne_true)]; rfl
    by_cases h1 : slt x y
    case neg => rw [decide_eq_false h1]; refine ifF ?_; refine ifF ?_; refine sx_nil ?_; exact loop _ (b0 fun z => h1 z.1)
    rw [decide_eq_true h1]; refine ifT ?_
    refine ew_and1 ?_; refine et_val ?_; refine ev_call h (cal_four_ends F) 0 ?_; refine ea_val ?_; refine ev_name h 0 rfl ?_; refine ea_val ?_; refine ev_name h 1 rfl ?_; refine ea_val ?_; refine ev_name h 2 rfl ?_; refine ea_val ?_; refine ev_name h 3 rfl ?_; refine ea_nil ?_
    refine ⟨S, kk, ws, x, y, hS, hw, hx, hy, rfl, fun c hc => ⟨c, rfl, ?_⟩⟩
    cases c with
    | false => refine ifF ?_; refine sx_nil ?_; exact loop _ (b0 fun z => Bool.false_ne_true (hc.mpr z.2))
    | true =>
      refine ifT ?_
      refine sx_one ?_; refine s1_append h 8 rfl ?_; refine ev_tup ?_; refine ea_val ?_; refine ev_str ?_; refine ea_val ?_; refine ev_name h 2 rfl ?_; refine ea_val ?_; refine ev_name h 3 rfl ?_; refine ea_nil ?_; refine ⟨_, rfl, Nat.le_of_ble_eq_true rfl, by decide, ?_⟩
      refine loop _ ?_
      have : lkB hw.w (.bes x y) = true := lkB_iff.mpr ((beS_iff hw.w hx hy).mpr ⟨h1, hc.mp rfl⟩)
      show _ = (([.bes x y] : List (Lk St2)).filter (lkB hw.w)).map encLk
      rw [List.filter_cons_of_pos this]; rfl
end
end RW
namespace RW
open PySem PySem.Spec PyProof.Rows L2 DL
section
variable {G : Glb}
def C_linked : Con := fun ss Φ => ∃ (S : List L) (k : Nat) (ws : List (List L)) (i j : Nat) (hw : Wok S ws), Sok S k ∧ i < ws.length ∧ j < ws.length ∧ ss = [.val (dT S), .val (dWs ws), .val (.int i), .val (.int j)] ∧ Φ (.list ((lkIJ hw.w i j).map encLk))
theorem cal_linked (F : Facts G) : Cal G "_law_linked" 6 C_linked := by
  obtain ⟨f, fd, FD, hg⟩ := F.a_l_linked
  refine cal_of (lv := 5) FD hg S_l_linked bd_l_linked kg_l_linked (fun ss Φ h => ?_) (fun X T ss Φ h hp hc => ?_)
  · obtain ⟨_, _, _, _, _, _, _, _, _, rfl, _⟩ := h; rfl
  · obtain ⟨S, kk, ws, i, j, hw, hS, hi, hj, rfl, q⟩ := hc
    have hli : (wy ws i).length ≤ 64 := by rw [wy_at hi]; exact hw.l _ (List.getElem_mem _)
    have hlj : (wy ws j).length ≤ 64 := by rw [wy_at hj]; exact hw.l _ (List.getElem_mem _)
    have row : ∀ p n, ((List.range n).flatMap fun q => lkAt hw.w (i, p) (j, q)).length ≤ n * 3 := fun p n => fm_len (fun q => lkAt_len _ _ _) n
    have all : ∀ n, ((List.range n).flatMap fun p => (List.range (wy ws j).length).flatMap fun q => lkAt hw.w (i, p) (j, q)).length ≤ n * 192 := fun n => fm_len (fun p => Nat.le_trans (row p _) (by omega)) n
    refine sx_cons ?_; refine s1_setO h 4 ?_; refine ea_nil ?_; refine ⟨[], rfl, Nat.zero_le _, ?_⟩
    refine sx_cons ?_; refine s1_for (is := [5]) hp h ?_; refine ei_range1 h 0 F.b_range ?_; refine ev_len h 1 F.b_len ?_; refine ev_ix ?_; refine ev_name h 1 rfl ?_; refine ev_name h 2 rfl ?_; refine ixW hi ?_; refine ⟨_, lenW hli, _, rfl, by omega, by omega, ?_⟩
    refine ⟨fun n ρ => ∃ ds a b, ρ = [.val (dT S), .val (dWs ws), .val (.int i), .val (.int j), .own ds, a, b] ∧ ds = ((List.range n).flatMap fun p => (List.range (wy ws j).length).flatMap fun q => lkAt hw.w (i, p) (j, q)).map encLk, ⟨_, _, _, rfl, rfl⟩, fun n d ρ hd hI => ?_, fun ρ hI => ?_⟩
    · obtain ⟨ds, a, b, rfl, rfl⟩ := hI
      obtain ⟨hn, rfl⟩ := rng_get hd
      have hn : n < (wy ws i).length := by simpa using hn
      refine tg_name h 5 ?_
      refine sx_one ?_; refine s1_for (is := [6]) hp h ?_; refine ei_range1 h 0 F.b_range ?_; refine ev_len h 1 F.b_len ?_; refine ev_ix ?_; refine ev_name h 1 rfl ?_; refine ev_name h 3 rfl ?_; refine ixW hj ?_; refine ⟨_, lenW hlj, _, rfl, by omega, by omega, ?_⟩
      refine ⟨fun m ρ => ∃ ds b, ρ = [.val (dT S), .val (dWs ws), .val (.int i), .val (.int j), .own ds, .val (.int (0 + (n : Int))), b] ∧ ds = (((List.range n).flatMap fun p => (List.range (wy ws j).length).flatMap fun q => lkAt hw.w (i, p) (j, q)) ++ (List.range m).flatMap fun q => lkAt hw.w (i, n) (j, q)).map encLk, ⟨_, _, rfl, by simp⟩, fun m d ρ hd hI => ?_, fun ρ hI => ?_⟩
      · obtain ⟨ds, b, rfl, rfl⟩ := hI
        obtain ⟨hm, rfl⟩ := rng_get hd
        have hm : m < (wy ws j).length := by simpa using hm
        refine tg_name h 6 ?_
        refine sx_one ?_; refine s1_extend h 4 rfl ?_; refine ev_call h (cal_linked_at F) 2 ?_; refine ea_val ?_; refine ev_name h 0 rfl ?_; refine ea_val ?_; refine ev_name h 1 rfl ?_
        refine ea_val ?_; refine ev_tup ?_; refine ea_val ?_; refine ev_name h 2 rfl ?_; refine ea_val ?_; refine ev_name h 5 rfl ?_; refine ea_nil ?_; refine ⟨_, rfl, Nat.le_of_ble_eq_true rfl, ?_⟩
        refine ea_val ?_; refine ev_tup ?_; refine ea_val ?_; refine ev_name h 3 rfl ?_; refine ea_val ?_; refine ev_name h 6 rfl ?_; refine ea_nil ?_; refine ⟨_, rfl, Nat.le_of_ble_eq_true rfl, ?_⟩
        refine ea_nil ?_
        refine ⟨S, kk, ws, (i, n), (j, m), hw, hS, mem_sds.mpr ⟨hi, hn⟩, mem_sds.mpr ⟨hj, hm⟩, ?_, _, rfl, ?_, _, _, rfl, ?_⟩
        · show [_, _, _, _] = [_, _, _, _]
          unfold dS
          rw [Int.zero_add, Int.zero_add]
        · have h1 := all n
          have h2 := row n m
          have h3 := lkAt_len hw.w (i, n) (j, m)
          rw [List.length_map, List.length_append, List.length_map]
          omega
        · rw [fm_succ, ← List.append_assoc, List.map_append (l₂ := lkAt hw.w (i, n) (j, m))]
      · obtain ⟨ds, b, rfl, rfl⟩ := hI
        refine ⟨_, _, _, rfl, ?_⟩
        rw [len_rng, Int.toNat_natCast, fm_succ]
    · obtain ⟨ds, a, b, rfl, rfl⟩ := hI
      refine sx_freeze 4 rfl ?_; refine sx_one ?_; refine s1_ret ?_; refine ev_callB h 3 F.b_sorted bb_sorted ?_; refine ea_val ?_; refine ev_name h 4 rfl ?_; refine ea_nil ?_
      have h1 := all (wy ws i).length
      rw [len_rng, Int.toNat_natCast]
      have hu := un_ok h
      exact cd_sortedL encLk _ (by omega) encLk_alike (PySem.W.Sortable.tuples encLk_tup) encLk_depth (by omega) q
def C_every_link : Con := fun ss Φ => ∃ (S : List L) (k : Nat) (ws : List (List L)) (hw : Wok S ws), Sok S k ∧ ss = [.val (dT S), .val (dWs ws)] ∧ Φ (.list ((allLk hw.w).map encLk))
theorem cal_every_link (F : Facts G) : Cal G "_law_every_link" 7 C_every_link := by
  obtain ⟨f, fd, FD, hg⟩ := F.a_l_every_link
  refine cal_of (lv := 6) FD hg S_l_every_link bd_l_every_link kg_l_every_link (fun ss Φ h => ?_) (fun X T ss Φ h hp hc => ?_)
  · obtain ⟨_, _, _, _, _, rfl, _⟩ := h; rfl
  · obtain ⟨S, kk, ws, hw, hS, rfl, q⟩ := hc
    have h8 := hw.n
    have row : ∀ i, i < ws.length → ∀ n, n ≤ ws.length - i → ((List.range n).flatMap fun t => lkIJ hw.w i (i + t)).length ≤ n * 12288 := fun i hi n hn => fm_lenB (m := ws.length - i) (fun t ht => lkIJ_len hw hi (by omega)) n hn
    have all : ∀ n, n ≤ ws.length → ((List.range n).flatMap fun i => (List.range (ws.length - i)).flatMap fun t => lkIJ hw.w i (i + t)).length ≤ n * 36864 := fun n hn => fm_lenB (m := ws.length) (fun i hi => Nat.le_trans (row i hi _ (Nat.le_refl _)) (by omega)) n hn
    have fin : (allLk0 hw.w).length ≤ 100000 := by
      unfold allLk0
      rcases Nat.eq_zero_or_pos ws.length with z | z
      · rw [z]; simp
      · obtain ⟨m, hm⟩ : ∃ m, ws.length = m + 1 := ⟨ws.length - 1, by omega⟩
        have a := all m (by omega)
        have b := row m (by omega) (ws.length - m) (Nat.le_refl _)
        generalize hf : (fun i => (List.range (ws.length - i)).flatMap fun t => lkIJ hw.w i (i + t)) = f at *
        have e : f m = (List.range (ws.length - m)).flatMap fun t => lkIJ hw.w m (m + t) := by rw [← hf]
        rw [← e] at b
        rw [hm, fm_succ, List.length_append]
        omega
    refine sx_cons ?_; refine s1_setO h 2 ?_; refine ea_nil ?_; refine ⟨[], rfl, Nat.zero_le _, ?_⟩
    refine sx_cons ?_; refine s1_for (is := [3]) hp h ?_; refine ei_range1 h 0 F.b_range ?_; refine ev_len h 1 F.b_len ?_; refine ev_name h 1 rfl ?_; refine ⟨ws.length, by simp [lenD, dWs], _, rfl, by omega, by omega, ?_⟩
    refine ⟨fun n ρ => ∃ ds a b, ρ = [.val (dT S), .val (dWs ws), .own ds, a, b] ∧ ds = ((List.range n).flatMap fun i => (List.range (ws.length - i)).flatMap fun t => lkIJ hw.w i (i + t)).map encLk, ⟨_, _, _, rfl, rfl⟩, fun n d ρ hd hI => ?_, fun ρ hI => ?_⟩
    · obtain ⟨ds, a, b, rfl, rfl⟩ := hI
      obtain ⟨hn, rfl⟩ := rng_get hd
      have hn : n < ws.length := by simpa using hn
      refine tg_name h 3 ?_
      refine sx_one ?_; refine s1_for (is := [4]) hp h ?_; refine ei_range2 h 0 F.b_range ?_; refine ev_name h 3 rfl ?_; refine ev_len h 1 F.b_len ?_; refine ev_name h 1 rfl ?_; refine ⟨ws.length, by simp [lenD, dWs], _, _, rfl, rfl, ⟨by omega, by omega, by omega, by omega⟩, ?_⟩
      have e0 : ((ws.length : Int) - (0 + (n : Int))).toNat = ws.length - n := by omega
      rw [e0]
      refine ⟨fun m ρ => ∃ ds b, ρ = [.val (dT S), .val (dWs ws), .own ds, .val (.int (0 + (n : Int))), b] ∧ ds = (((List.range n).flatMap fun i => (List.range (ws.length - i)).flatMap fun t => lkIJ hw.w i (i + t)) ++ (List.range m).flatMap fun t => lkIJ hw.w n (n + t)).map encLk, ⟨_, _, rfl, by simp⟩, fun m d ρ hd hI => ?_, fun ρ hI => ?_⟩
      · obtain ⟨ds, b, rfl, rfl⟩ := hI
        obtain ⟨hm, rfl⟩ := rng_get hd
        refine tg_name h 4 ?_
        refine sx_one ?_; refine s1_extend h 2 rfl ?_; refine ev_call h (cal_linked F) 2 ?_; refine ea_val ?_; refine ev_name h 0 rfl ?_; refine ea_val ?_; refine ev_name h 1 rfl ?_; refine ea_val ?_; refine ev_name h 3 rfl ?_; refine ea_val ?_; refine ev_name h 4 rfl ?_; refine ea_nil ?_
        refine ⟨S, kk, ws, n, n + m, hw, hS, hn, by omega, ?_, _, rfl, ?_, _, _, rfl, ?_⟩
        · rw [show (0 : Int) + (n : Int) + (m : Int) = ((n + m : Nat) : Int) by omega, show (0 : Int) + (n : Int) = (n : Int) by omega]
        · have h1 := all n (by omega)
          have h2 := row n hn m (by omega)
          have h3 := lkIJ_len hw hn (show n + m < ws.length by omega)
          rw [List.length_map, List.length_append, List.length_map]
          omega
        · rw [fm_succ, ← List.append_assoc, List.map_append (l₂ := lkIJ hw.w n (n + m))]
      · obtain ⟨ds, b, rfl, rfl⟩ := hI
        refine ⟨_, _, _, rfl, ?_⟩
        rw [len_rng, fm_succ]
    · obtain ⟨ds, a, b, rfl, rfl⟩ := hI
      refine sx_freeze 2 rfl ?_; refine sx_one ?_; refine s1_ret ?_; refine ev_callB h 3 F.b_sorted bb_sorted ?_; refine ea_val ?_; refine ev_name h 2 rfl ?_; refine ea_nil ?_
      rw [len_rng, Int.toNat_natCast]
      have hu := un_ok h
      exact cd_sortedL encLk _ (by omega) encLk_alike (PySem.W.Sortable.tuples encLk_tup) encLk_depth fin q
end
end RW
namespace RW
open PySem PySem.Spec PyProof.Rows L2 DL
section
variable {G : Glb}
def C_all_strands : Con := fun ss Φ => ∃ (S : List L) (ws : List (List L)), Wok S ws ∧ ss = [.val (dWs ws)] ∧ Φ (.list ((sds ws).map dS))
theorem cal_all_strands (F : Facts G) : Cal G "_law_all_strands" 1 C_all_strands := by
  obtain ⟨f, fd, FD, hg⟩ := F.a_l_all_strands
  refine cal_of (lv := 0) FD hg S_l_all_strands bd_l_all_strands kg_l_all_strands (fun ss Φ h => ?_) (fun X T ss Φ h hp hc => ?_)
  · obtain ⟨_, _, _, rfl, _⟩ := h; rfl
  · obtain ⟨S, ws, hw, rfl, q⟩ := hc
    have h8 := hw.n
    refine sx_cons ?_; refine s1_setO h 1 ?_; refine ea_nil ?_; refine ⟨[], rfl, Nat.zero_le _, ?_⟩
    refine sx_cons ?_; refine s1_for (is := [2]) hp h ?_; refine ei_range1 h 0 F.b_range ?_; refine ev_len h 1 F.b_len ?_; refine ev_name h 0 rfl ?_; refine ⟨ws.length, by simp [lenD, dWs], _, rfl, by omega, by omega, ?_⟩
    refine ⟨fun i ρ => i ≤ ws.length ∧ ∃ ds a, ρ = [.val (dWs ws), .own ds, a, .emp] ∧ ds = ((List.range i).flatMap fun i => (List.range (wy ws i).length).map fun p => (i, p)).map dS, ⟨Nat.zero_le _, _, _, rfl, rfl⟩, fun i d ρ hd hI => ?_, fun ρ hI => ?_⟩
    · obtain ⟨hi, ds, a, rfl, rfl⟩ := hI
      obtain ⟨hi', rfl⟩ := rng_get hd
      rw [Int.toNat_natCast] at hi'
      have hl : (wy ws i).length ≤ 64 := by rw [wy_at hi']; exact hw.l _ (List.getElem_mem _)
      have hn := sds_len hw i hi
      rw [Int.zero_add]
      refine tg_name h 2 ?_
      refine sx_one ?_; refine s1_extend h 1 rfl ?_
      refine ev_lc h o_l_all_strands0 [3] k_l_all_strands0 g_l_all_strands0 ?_; refine ei_range1 h 0 F.b_range ?_; refine ev_len h 1 F.b_len ?_; refine ev_ix ?_; refine ev_name h 0 rfl ?_; refine ev_name h 2 rfl ?_; refine ixW hi' ?_
      refine ⟨_, lenW hl, _, rfl, by omega, by omega, ?_⟩
      refine LcQ.of (fun _ => true) (fun d => .tuple [.int (i : Nat), d]) (by rw [len_rng]; omega) (fun d hd => ?_) ?_
      · refine ⟨_, fun X' h' => tg_name h' 3 rfl, fun X' h' => ets_nil rfl, fun _ X' h' => ?_⟩
        refine ev_tup ?_; refine ea_val ?_; refine ev_name h' 2 rfl ?_; refine ea_val ?_; refine ev_name h' 3 rfl ?_; refine ea_nil ?_
        exact ⟨_, rfl, Nat.le_of_ble_eq_true rfl, rfl⟩
      · rw [rng_map]
        refine ⟨_, rfl, ?_, hi', _, _, rfl, ?_⟩
        · simp only [List.length_map, List.length_range] at hn ⊢
          omega
        · rw [fm_succ, List.map_append, List.map_map]; rfl
    · obtain ⟨_, ds, a, rfl, rfl⟩ := hI
      refine sx_freeze 1 rfl ?_; refine sx_one ?_; refine s1_ret ?_; refine ev_name h 1 rfl ?_
      rw [len_rng, Int.toNat_natCast]
      exact q
end
end RW
namespace RW
open PySem PySem.Spec PyProof.Rows L2 DL
section
variable {G : Glb}
def C_all_spots : Con := fun ss Φ => ∃ (S : List L) (k : Nat) (ws : List (List L)) (rows : List (List St2)), Sok S k ∧ Wok S ws ∧ DrOk k ws rows ∧ ss = [.val (dT S), .val (dRows rows)] ∧ Φ (.list ((pts S rows).map encP))
theorem cal_all_spots (F : Facts G) : Cal G "_law_all_spots" 1 C_all_spots := by
  obtain ⟨f, fd, FD, hg⟩ := F.a_l_all_spots
  refine cal_of (lv := 0) FD hg S_l_all_spots bd_l_all_spots kg_l_all_spots (fun ss Φ h => ?_) (fun X T ss Φ h hp hc => ?_)
  · obtain ⟨_, _, _, _, _, _, _, rfl, _⟩ := h; rfl
  · obtain ⟨S, k, ws, rows, hS, hw, hD, rfl, q⟩ := hc
    have h6 := hS.k6
    have hl := hS.ln
    have hr := hD.len
    refine sx_cons ?_; refine s1_setO h 2 ?_; refine ea_nil ?_; refine ⟨[], rfl, Nat.zero_le _, ?_⟩
    refine sx_cons ?_; refine s1_for (is := [3]) hp h ?_; refine ei_str ?_; refine ev_name h 0 rfl ?_; refine ⟨_, rfl, ?_⟩
    rw [chars_tx]
    refine ⟨fun i ρ => ∃ ds a b, ρ = [.val (dT S), .val (dRows rows), .own ds, a, b, .emp] ∧ ds = (pts (S.take i) rows).map encP, ⟨_, _, _, rfl, rfl⟩, fun i d ρ hd hI => ?_, fun ρ hI => ?_⟩
    · obtain ⟨ds, a, b, rfl, rfl⟩ := hI
      rw [List.getElem?_map, Option.map_eq_some_iff] at hd
      obtain ⟨e, he, rfl⟩ := hd
      have hi := (List.getElem?_eq_some_iff.mp he).1
      have me : e ∈ S := List.mem_of_getElem? he
      have hk := (hS.mem e).mp me
      have tk : S.take (i + 1) = S.take i ++ [e] := by rw [List.take_add_one, he]; rfl
      have rl := rowE_len hw hS hD me
      have pl := pts_len hw hS hD (S.take i) (fun z hz => List.mem_of_mem_take hz)
      have pl2 : (pts (S.take i) rows).length ≤ 12 * 192 := by
        have : (S.take i).length ≤ 12 := by rw [List.length_take]; omega
        exact Nat.le_trans pl (Nat.mul_le_mul_right _ this)
      refine tg_name h 3 ?_
      refine sx_cons ?_; refine s1_setList h 4 0 F.b_list ?_; refine ev_ix ?_; refine ev_name h 1 rfl ?_; refine ev_sindex ?_; refine ev_str ?_; refine ⟨_, rfl, ?_⟩
      refine ev_lower ?_; refine ev_name h 3 rfl ?_; refine ⟨_, rfl, Nat.le_of_ble_eq_true rfl, ?_⟩; rw [lo_tx]; refine ⟨en (lo e), rfl, small_mem e, ?_⟩
      rw [small_idx]
      refine ixD_T (by rw [List.length_map]; omega) ?_
      have er : (rows.map fun r => PyData.tuple (r.map dS))[(lo e).val]'(by rw [List.length_map]; omega) = .tuple ((rows.getD (lo e).val []).map dS) := by
        rw [List.getElem_map, List.getD_eq_getElem?_getD, List.getElem?_eq_getElem (by omega)]; rfl
      rw [er]
      refine ⟨_, .inr rfl, ?_⟩
      refine sx_cons ?_; refine s1_if ?_; refine et_cmp ?_; refine ev_name h 3 rfl ?_; refine ev_str ?_; refine od_big ⟨_, rfl, ?_⟩
      have goE : rowE rows e = if small e = true then rows.getD (lo e).val [] else (rows.getD (lo e).val []).reverse := rfl
      cases hs : small e with
      | true =>
        rw [hs, if_pos rfl] at goE
        rw [← goE]
        refine ifF ?_; refine sx_nil ?_
        refine sx_freeze 4 rfl ?_; refine sx_one ?_; refine s1_extend h 2 rfl ?_; refine ev_lc h o_l_all_spots0 [5] k_l_all_spots0 g_l_all_spots0 ?_; refine ei_list ?_; refine ev_name h 4 rfl ?_; refine ⟨_, rfl, ?_⟩
        refine LcQ.on dS (rowE rows e) (fun _ => true) (fun x => encP (e, x)) (by omega) (fun x hx => ?_) ?_
        · refine ⟨_, fun X' h' => tg_name h' 5 rfl, fun X' h' => ets_nil rfl, fun _ X' h' => ?_⟩
          refine ev_tup ?_; refine ea_val ?_; refine ev_name h' 3 rfl ?_; refine ea_val ?_; refine ev_name h' 5 rfl ?_; refine ea_nil ?_
          exact ⟨_, rfl, Nat.le_of_ble_eq_true rfl, rfl⟩
        · rw [List.filter_eq_self.mpr fun _ _ => rfl]
          refine ⟨_, rfl, by rw [List.length_map, List.length_map]; omega, _, _, _, rfl, ?_⟩
          rw [tk, pts_snoc, List.map_append, List.map_map]; rfl
      | false =>
        rw [hs, if_neg Bool.false_ne_true] at goE
        refine ifT ?_; refine sx_one ?_; refine s1_reverse h 4 rfl ?_
        rw [← List.map_reverse, ← goE]
        refine sx_freeze 4 rfl ?_; refine sx_one ?_; refine s1_extend h 2 rfl ?_; refine ev_lc h o_l_all_spots0 [5] k_l_all_spots0 g_l_all_spots0 ?_; refine ei_list ?_; refine ev_name h 4 rfl ?_; refine ⟨_, rfl, ?_⟩
        refine LcQ.on dS (rowE rows e) (fun _ => true) (fun x => encP (e, x)) (by omega) (fun x hx => ?_) ?_
        · refine ⟨_, fun X' h' => tg_name h' 5 rfl, fun X' h' => ets_nil rfl, fun _ X' h' => ?_⟩
          refine ev_tup ?_; refine ea_val ?_; refine ev_name h' 3 rfl ?_; refine ea_val ?_; refine ev_name h' 5 rfl ?_; refine ea_nil ?_
          exact ⟨_, rfl, Nat.le_of_ble_eq_true rfl, rfl⟩
        · rw [List.filter_eq_self.mpr fun _ _ => rfl]
          refine ⟨_, rfl, by rw [List.length_map, List.length_map]; omega, _, _, _, rfl, ?_⟩
          rw [tk, pts_snoc, List.map_append, List.map_map]; rfl
    · obtain ⟨ds, a, b, rfl, rfl⟩ := hI
      refine sx_freeze 2 rfl ?_; refine sx_one ?_; refine s1_ret ?_; refine ev_name h 2 rfl ?_
      rw [List.length_map, List.take_length]
      exact q
end
end RW
namespace RW
open PySem PySem.Spec PyProof.Rows L2 DL
def encL (S : List L) (ws : List (List L)) (rows : List (List St2)) (x : St2) : PyData :=
  .tuple [dS x, .int (posF S rows (bk (lat ws x 0)) x : Nat), .int (posF S rows (lat ws x 1) (mvs ws x 1) : Nat)]
theorem encP_eqv (a b : L × St2) : PyData.eqv (encP a) (encP b) = decide (a = b) := by
  obtain ⟨c, x⟩ := a
  obtain ⟨d, y⟩ := b
  rw [Bool.eq_iff_iff, decide_eq_true_iff]
  have e1 : PyData.eqv (encP (c, x)) (encP (d, y)) = ((tx [c] == tx [d]) && (((((x.1 : Int) == (y.1 : Int)) && (((x.2 : Int) == (y.2 : Int)) && true))) && true)) := rfl
  rw [e1]
  simp only [Bool.and_true, Bool.and_eq_true, beq_iff_eq, tx_inj, List.cons.injEq, and_true]
  constructor
  · rintro ⟨h1, h2, h3⟩
    rw [h1, st_ext h2 h3]
  · intro z
    cases z
    exact ⟨rfl, rfl, rfl⟩
theorem ok_tx (c : L) : PyData.strOk (tx [c]) = true := by revert c; decide +kernel
theorem shaped_P (l : List (L × St2)) : SeqAt.shaped (.list (l.map encP)) = true := shaped_list (n := 4) (by decide) (fun b => by show (PyData.strOk (tx [b.1]) && _) = true; rw [ok_tx]; rfl) (fun b => Nat.le_of_ble_eq_true rfl) l
theorem idx_first {α : Type} [BEq α] [LawfulBEq α] {l : List α} {a : α} {m : Nat} {z : α} (h : m < l.idxOf a) (e : l[m]? = some z) : z ≠ a := by
  induction l generalizing m with
  | nil => simp at e
  | cons b l ih =>
    rw [List.idxOf_cons] at h
    by_cases q : b = a
    · rw [show (b == a) = true from beq_iff_eq.mpr q] at h
      exact absurd h (Nat.not_lt_zero _)
    · rw [show (b == a) = false from beq_eq_false_iff_ne.mpr q] at h
      have h : m < List.idxOf a l + 1 := h
      cases m with
      | zero => simp at e; rw [← e]; exact q
      | succ m => exact ih (m := m) (Nat.lt_of_succ_lt_succ h) (by simpa using e)
section
variable {G : Glb}
/-- sorted pairs of ints, crosses -/
def crB (a b c d : Nat) : Bool := decide (([c, d].filter fun n => decide (min a b < n) && decide (n < max a b)).length = 1)
theorem crB_iff {a b c d : Nat} : crB a b c d = true ↔ X4 a b c d := by
  unfold crB X4
  rw [decide_eq_true_iff]
  have e : ∀ n, (decide (min a b < n) && decide (n < max a b)) = decide (min a b < n ∧ n < max a b) := fun n => by rw [Bool.decide_and]
  simp only [e, List.filter]
  by_cases h1 : min a b < c ∧ c < max a b <;> by_cases h2 : min a b < d ∧ d < max a b
  · rw [decide_eq_true h1, decide_eq_true h2]; simp [h1, h2]
  · rw [decide_eq_true h1, decide_eq_false h2]; simp [h1, h2]
  · rw [decide_eq_false h1, decide_eq_true h2]; simp [h1, h2]
  · rw [decide_eq_false h1, decide_eq_false h2]; simp [h1, h2]
end
end RW
namespace RW
open PySem PySem.Spec PyProof.Rows L2 DL
theorem idx_at {α : Type} [BEq α] [LawfulBEq α] {l : List α} {a : α} (h : a ∈ l) : l[l.idxOf a]? = some a := by
  have hi := List.idxOf_lt_length_of_mem h
  rw [List.getElem?_eq_getElem hi, List.getElem_idxOf hi]
section
variable {G : Glb} {N : List Str} {sc : Scope} {ks : List (Option NameKind)} {gs : List Str} {fc : Bool} {lv : Nat} {X : Cx} {T : Tape} {ρ : List DL.S} {Φ : PyData → Prop} {e : Expr} {pos : Pos}
theorem shaped_p (p : L × St2) : SeqAt.shaped (encP p) = true := by
  unfold SeqAt.shaped
  have a : (encP p).canLay0 = true := by show (PyData.strOk (tx [p.1]) && _) = true; rw [ok_tx]; rfl
  rw [a, decide_eq_true (Nat.le_of_ble_eq_true rfl)]; rfl
/-- the place of a point -/
theorem ev_pindex {o : Expr} {apos : Pos} (hu : X.A.units + 65 < cLine) (h : Ev X T ρ o fun d => ∃ l : List (L × St2), d = .list (l.map encP) ∧ Ev X T ρ e fun y => ∃ p : L × St2, y = encP p ∧ p ∈ l ∧ Φ (.int (l.idxOf p : Nat)))
    (hs : starEach [e] X.env = (false, eval e X.env) :: starEach [] X.env := by rfl) (hbase : attributeBase o "index" X.env (eval o X.env) = eval o X.env := by rfl) (hline : (apos.endLine == pos.line) = true := by rfl)
    (hfew : ((backTo pos (starEach [e] X.env)).all (fun x => !x.1) && (backToKw pos (keywordEach [] X.env)).all (fun x => x.1.isSome) && decide ([e].length + ([] : List Keyword).length + (if ([] : List Keyword).isEmpty then 0 else 1) < 30)) = true := by rfl) :
    Ev X T ρ (.Call (.Attribute o "index" apos) [e] [] pos) Φ := by
  refine ev_lindex hu (h.mono fun d hd => ?_) hs hbase hline hfew
  obtain ⟨l, rfl, h2⟩ := hd
  refine ⟨_, rfl, shaped_P l, h2.mono fun y hy => ?_⟩
  obtain ⟨p, rfl, hp, q⟩ := hy
  refine ⟨l.idxOf p, shaped_p p, by rw [List.getElem?_map, idx_at hp]; rfl, eqv_same (shaped_p p), fun m z hm hz => ?_, q⟩
  rw [List.getElem?_map, Option.map_eq_some_iff] at hz
  obtain ⟨w, hw, rfl⟩ := hz
  rw [encP_eqv]
  exact decide_eq_false (idx_first hm hw)
end
section
variable {G : Glb}
def C_all_chords : Con := fun ss Φ => ∃ (S : List L) (k : Nat) (ws : List (List L)) (rows : List (List St2)), Sok S k ∧ Wok S ws ∧ DrOk k ws rows ∧ ss = [.val (dT S), .val (dWs ws), .val (dRows rows)] ∧ Φ (.list ((sds ws).map (encL S ws rows)))
theorem cal_all_chords (F : Facts G) : Cal G "_law_all_chords" 2 C_all_chords := by
  obtain ⟨f, fd, FD, hg⟩ := F.a_l_all_chords
  refine cal_of (lv := 1) FD hg S_l_all_chords bd_l_all_chords kg_l_all_chords (fun ss Φ h => ?_) (fun X T ss Φ h hp hc => ?_)
  · obtain ⟨_, _, _, _, _, _, _, rfl, _⟩ := h; rfl
  · obtain ⟨S, k, ws, rows, hS, hw, hD, rfl, q⟩ := hc
    have hr := hD.rows hS
    have l3 := sds_len3 hw
    have hu := un_ok h
    refine sx_cons ?_; refine s1_set h 3 ?_; refine ev_call h (cal_all_spots F) 0 ?_; refine ea_val ?_; refine ev_name h 0 rfl ?_; refine ea_val ?_; refine ev_name h 2 rfl ?_; refine ea_nil ?_; refine ⟨S, k, ws, rows, hS, hw, hD, rfl, ?_⟩
    refine sx_cons ?_; refine s1_setO h 4 ?_; refine ea_nil ?_; refine ⟨[], rfl, Nat.zero_le _, ?_⟩
    refine sx_cons ?_; refine s1_for (is := [5, 6]) hp h ?_; refine ei_list ?_; refine ev_call h (cal_all_strands F) 1 ?_; refine ea_val ?_; refine ev_name h 1 rfl ?_; refine ea_nil ?_; refine ⟨S, ws, hw, rfl, _, rfl, ?_⟩
    refine ⟨fun i ρ => ∃ ds a b c d, ρ = [.val (dT S), .val (dWs ws), .val (dRows rows), .val (.list ((pts S rows).map encP)), .own ds, a, b, c, d] ∧ ds = ((sds ws).take i).map (encL S ws rows), ⟨_, _, _, _, _, rfl, rfl⟩, fun i d ρ hd hI => ?_, fun ρ hI => ?_⟩
    · obtain ⟨ds, a, b, c, e, rfl, rfl⟩ := hI
      rw [List.getElem?_map, Option.map_eq_some_iff] at hd
      obtain ⟨x, hx, rfl⟩ := hd
      have tk : (sds ws).take (i + 1) = (sds ws).take i ++ [x] := by rw [List.take_add_one, hx]; rfl
      have mx : x ∈ sds ws := List.mem_of_getElem? hx
      have m1 := mem_sds.mp mx
      have ly := wy_len hw mx
      have il : i < (sds ws).length := (List.getElem?_eq_some_iff.mp hx).1
      refine tg_pair h 5 6 ?_
      refine sx_cons ?_; refine s1_set h 7 ?_; refine ev_bin ?_; refine ev_bin ?_; refine ev_name h 6 rfl ?_; refine ev_int ?_; refine od_add ?_; refine ev_len h 2 F.b_len ?_; refine ev_ix ?_; refine ev_name h 1 rfl ?_; refine ev_name h 5 rfl ?_; refine ixW m1.1 ?_; refine ⟨_, lenW ly, ?_⟩; refine od_mod (by omega) ?_
      have n0 := Int.emod_nonneg ((x.2 : Int) + 1) (show ((wy ws x.1).length : Int) ≠ 0 by omega)
      have ef : ((x.2 : Int) + 1) % ((wy ws x.1).length : Int) = (((mvs ws x 1).2 : Nat) : Int) := by
        show _ = ((((x.2 : Int) + 1) % ((wy ws x.1).length : Int)).toNat : Int)
        rw [Int.toNat_of_nonneg n0]
      rw [ef]
      have look : ∀ {e : L} {x : St2}, (sysOf hw.w).on e x → (e, x) ∈ pts S rows := fun {e x} ho => by
        have m := on_row hw.w hr ho
        exact mem_pts m.1 m.2
      have o1 : (sysOf hw.w).on (bk (lat ws x 0)) x := on_bk (Y := sysOf hw.w) mx
      have o2 : (sysOf hw.w).on (lat ws x 1) (mvs ws x 1) := by
        have := on_l (Y := sysOf hw.w) (mvs_mem mx 1)
        have e : (sysOf hw.w).l (mvs ws x 1) = lat ws x 1 := by show lat ws (mvs ws x 1) 0 = _; rw [lat_mv mx, Int.add_zero]
        rw [e] at this; exact this
      have a1 := look o1
      have b1 := look o2
      refine sx_cons ?_; refine s1_set h 8 ?_; refine ev_pindex hu ?_; refine ev_name h 3 rfl ?_; refine ⟨_, rfl, ?_⟩
      refine ev_tup ?_; refine ea_val ?_; refine ev_call h (cal_lback F) 3 ?_; refine ea_val ?_; refine ev_ix ?_; refine ev_ix ?_; refine ev_name h 1 rfl ?_; refine ev_name h 5 rfl ?_; refine ixW m1.1 ?_; refine ev_name h 6 rfl ?_; refine ixL0 hw mx ?_; refine ea_nil ?_; refine ⟨[lat ws x 0], Nat.le_of_ble_eq_true rfl, rfl, ?_⟩
      refine ea_val ?_; refine ev_tup ?_; refine ea_val ?_; refine ev_name h 5 rfl ?_; refine ea_val ?_; refine ev_name h 6 rfl ?_; refine ea_nil ?_; refine ⟨_, rfl, Nat.le_of_ble_eq_true rfl, ?_⟩
      refine ea_nil ?_; refine ⟨_, rfl, Nat.le_of_ble_eq_true rfl, ?_⟩
      refine ⟨(bk (lat ws x 0), x), rfl, a1, ?_⟩
      have mm := mvs_mem mx 1
      have e3 : lat ws (mvs ws x 1) 0 = lat ws x 1 := by rw [lat_mv mx, Int.add_zero]
      refine sx_one ?_; refine s1_append h 4 rfl ?_; refine ev_tup ?_
      refine ea_val ?_; refine ev_tup ?_; refine ea_val ?_; refine ev_name h 5 rfl ?_; refine ea_val ?_; refine ev_name h 6 rfl ?_; refine ea_nil ?_; refine ⟨_, rfl, Nat.le_of_ble_eq_true rfl, ?_⟩
      refine ea_val ?_; refine ev_name h 8 rfl ?_
      refine ea_val ?_; refine ev_pindex hu ?_; refine ev_name h 3 rfl ?_; refine ⟨_, rfl, ?_⟩
      refine ev_tup ?_; refine ea_val ?_; refine ev_ix ?_; refine ev_ix ?_; refine ev_name h 1 rfl ?_; refine ev_name h 5 rfl ?_; refine ixW m1.1 ?_; refine ev_name h 7 rfl ?_; refine ixL0 (x := mvs ws x 1) hw mm ?_
      rw [e3]
      refine ea_val ?_; refine ev_tup ?_; refine ea_val ?_; refine ev_name h 5 rfl ?_; refine ea_val ?_; refine ev_name h 7 rfl ?_; refine ea_nil ?_; refine ⟨_, rfl, Nat.le_of_ble_eq_true rfl, ?_⟩
      refine ea_nil ?_; refine ⟨_, rfl, Nat.le_of_ble_eq_true rfl, ?_⟩
      refine ⟨(lat ws x 1, mvs ws x 1), rfl, b1, ?_⟩
      refine ea_nil ?_; refine ⟨_, rfl, Nat.le_of_ble_eq_true rfl, ?_⟩
      refine ⟨by rw [List.length_map, List.length_take]; omega, _, _, _, _, _, rfl, ?_⟩
      rw [tk, List.map_append]; rfl
    · obtain ⟨ds, a, b, c, e, rfl, rfl⟩ := hI
      refine sx_freeze 4 rfl ?_; refine sx_one ?_; refine s1_ret ?_; refine ev_name h 4 rfl ?_
      rw [List.length_map, List.take_length]
      exact q
end
end RW
namespace RW
open PySem PySem.Spec PyProof.Rows L2 DL
def dN (n : Nat) : PyData := .int n
theorem dN_toks (a b : Nat) (h : PySem.W.keyToks (dN a) = PySem.W.keyToks (dN b)) : a = b := by
  simp [PySem.W.keyToks, dN] at h
  omega
theorem dataLt_dN (a b : Nat) : PySem.W.dataLt (dN a) (dN b) = decide (a < b) := by
  unfold dN
  rw [PySem.W.dataLt_int]
  exact decide_eq_decide.mpr (by omega)
theorem sort_two {a b : Nat} (h : a ≠ b) : [a, b].mergeSort (PySem.W.dataLe false dN) = [min a b, max a b] := by
  refine sort_eq dN_toks ?_ ?_
  · rcases Nat.lt_or_gt_of_ne h with q | q
    · rw [Nat.min_eq_left (by omega), Nat.max_eq_right (by omega)]
    · rw [Nat.min_eq_right (by omega), Nat.max_eq_left (by omega)]
      exact List.Perm.swap _ _ _
  · refine List.Pairwise.cons (fun c hc => ?_) (List.Pairwise.cons (fun c hc => by cases hc) List.Pairwise.nil)
    rw [List.mem_singleton.mp hc, dataLt_dN]
    exact decide_eq_true (by omega)
section
variable {G : Glb}
def C_lcrosses : Con := fun ss Φ => ∃ (p q : PyData) (a b c d : Nat), a ≠ b ∧ ss = [.val (.tuple [p, dN a, dN b]), .val (.tuple [q, dN c, dN d])] ∧ Φ (.bool (crB a b c d))
theorem cal_lcrosses (F : Facts G) : Cal G "_law_crosses" 1 C_lcrosses := by
  obtain ⟨f, fd, FD, hg⟩ := F.a_l_crosses
  refine cal_of (lv := 0) FD hg S_l_crosses bd_l_crosses kg_l_crosses (fun ss Φ h => ?_) (fun X T ss Φ h hp hc => ?_)
  · obtain ⟨_, _, _, _, _, _, _, rfl, _⟩ := h; rfl
  · obtain ⟨p, q, a, b, c, d, ne, rfl, k⟩ := hc
    have hu := un_ok h
    refine sx_cons ?_; refine s1_asg (is := [2, 3]) ?_; refine ev_callB h 0 F.b_sorted bb_sorted ?_; refine ea_val ?_; refine ev_slice ?_; refine ev_name h 0 rfl ?_; refine eo_some ?_; refine ev_int ?_; refine ⟨_, rfl, ?_⟩; refine eo_none ?_
    refine sl_T ?_
    rw [show cutD [p, dN a, dN b] (some 1) none = [a, b].map dN from rfl]
    refine ea_nil ?_
    refine cd_sortedT dN [a, b] (by omega) (fun _ _ => rfl) (PySem.W.Sortable.others fun _ => ⟨fun z => (by cases z), fun _ z => (by cases z)⟩) (fun _ => Nat.le_of_ble_eq_true rfl) (Nat.le_of_ble_eq_true rfl) ?_
    rw [sort_two ne]
    refine tg_pairL h 2 3 ?_
    refine sx_one ?_; refine s1_ret ?_; refine ev_cmp ?_; refine ev_len h 1 F.b_len ?_
    refine ev_lc h o_l_crosses0 [4] k_l_crosses0 g_l_crosses0 ?_; refine ei_tup ?_; refine ev_slice ?_; refine ev_name h 1 rfl ?_; refine eo_some ?_; refine ev_int ?_; refine ⟨_, rfl, ?_⟩; refine eo_none ?_
    refine sl_T ?_
    rw [show cutD [q, dN c, dN d] (some 1) none = [c, d].map dN from rfl]
    refine ⟨_, rfl, ?_⟩
    refine LcQ.on dN [c, d] (fun n => decide (min a b < n) && decide (n < max a b)) dN (Nat.le_of_ble_eq_true rfl) (fun n hn => ?_) ?_
    · refine ⟨_, fun X' h' => tg_name h' 4 rfl, fun X' h' => ?_, fun _ X' h' => ?_⟩
      · refine ets_one ?_; refine et_chain ?_; refine ev_name (d := dN (min a b)) h' 2 rfl ?_; refine ev_name (d := dN n) h' 4 rfl ?_; refine od_lt ⟨_, rfl, ?_⟩
        by_cases h1 : min a b < n
        · rw [decide_eq_true h1, decide_eq_true (by omega)]; refine ifT ?_
          refine ev_name (d := dN (max a b)) h' 3 rfl ?_; refine od_lt ⟨_, rfl, ?_⟩
          rw [Bool.true_and]
          exact decide_eq_decide.mpr (by omega)
        · rw [decide_eq_false h1, decide_eq_false (by omega)]; refine ifF ?_
          rfl
      · refine ev_name (d := dN n) h' 4 rfl ?_
        rfl
    · refine ⟨_, rfl, ?_⟩; refine ev_int ?_
      refine od_eqI ?_
      rw [List.length_map]
      unfold crB at k
      rw [show decide ((([c, d].filter fun n => decide (min a b < n) && decide (n < max a b)).length : Int) = 1) = decide (([c, d].filter fun n => decide (min a b < n) && decide (n < max a b)).length = 1) from decide_eq_decide.mpr (by omega)]
      exact k
def C_all_crossings : Con := fun ss Φ => ∃ (S : List L) (k : Nat) (ws : List (List L)) (rows : List (List St2)), Sok S k ∧ Wok S ws ∧ DrOk k ws rows ∧ ss = [.val (dT S), .val (dWs ws), .val (dRows rows)] ∧ Φ (.list ((crl S ws rows).map encPr))
theorem crF_cr {S : List L} {ws : List (List L)} {rows : List (List St2)} {u v : St2} : crB (posF S rows (bk (lat ws u 0)) u) (posF S rows (lat ws u 1) (mvs ws u 1)) (posF S rows (bk (lat ws v 0)) v) (posF S rows (lat ws v 1) (mvs ws v 1)) = decide (crF S ws rows u v) := by
  rw [Bool.eq_iff_iff, decide_eq_true_iff, crB_iff]
  exact Iff.rfl
theorem cal_all_crossings (F : Facts G) : Cal G "_law_all_crossings" 3 C_all_crossings := by
  obtain ⟨f, fd, FD, hg⟩ := F.a_l_all_crossings
  refine cal_of (lv := 2) FD hg S_l_all_crossings bd_l_all_crossings kg_l_all_crossings (fun ss Φ h => ?_) (fun X T ss Φ h hp hc => ?_)
  · obtain ⟨_, _, _, _, _, _, _, rfl, _⟩ := h; rfl
  · obtain ⟨S, k, ws, rows, hS, hw, hD, rfl, q⟩ := hc
    have hr := hD.rows hS
    have l3 := sds_len3 hw
    have two : ∀ x ∈ sds ws, posF S rows (bk (lat ws x 0)) x ≠ posF S rows (lat ws x 1) (mvs ws x 1) := fun x hx => by
      have o1 : (sysOf hw.w).on (bk (lat ws x 0)) x := on_bk (Y := sysOf hw.w) hx
      have o2 : (sysOf hw.w).on (lat ws x 1) (mvs ws x 1) := by
        have := on_l (Y := sysOf hw.w) (mvs_mem hx 1)
        have e : (sysOf hw.w).l (mvs ws x 1) = lat ws x 1 := by show lat ws (mvs ws x 1) 0 = _; rw [lat_mv hx, Int.add_zero]
        rw [e] at this; exact this
      refine pos_ne (drOf hw.w hr) o1 o2 ?_
      by_cases e : x = mvs ws x 1
      · left
        have e2 : lat ws x 1 = lat ws x 0 := by
          conv => rhs; rw [e]
          rw [lat_mv hx, Int.add_zero]
        rw [e2]; exact bk_ne _
      · exact .inr e
    refine sx_cons ?_; refine s1_set h 3 ?_; refine ev_call h (cal_all_chords F) 0 ?_; refine ea_val ?_; refine ev_name h 0 rfl ?_; refine ea_val ?_; refine ev_name h 1 rfl ?_; refine ea_val ?_; refine ev_name h 2 rfl ?_; refine ea_nil ?_; refine ⟨S, k, ws, rows, hS, hw, hD, rfl, ?_⟩
    refine sx_cons ?_; refine s1_setO h 4 ?_; refine ea_nil ?_; refine ⟨[], rfl, Nat.zero_le _, ?_⟩
    refine sx_cons ?_; refine s1_for (is := [5]) hp h ?_; refine ei_range1 h 1 F.b_range ?_; refine ev_len h 2 F.b_len ?_; refine ev_name h 3 rfl ?_; refine ⟨(sds ws).length, by simp [lenD], _, rfl, by omega, by omega, ?_⟩
    refine ⟨fun i ρ => ∃ ds done a b, ρ = [.val (dT S), .val (dWs ws), .val (dRows rows), .val (.list ((sds ws).map (encL S ws rows))), .own ds, a, b, .emp] ∧ ds = done.map encPr ∧ done ++ (prs ((sds ws).drop i)).filter (fun p => decide (crF S ws rows p.1 p.2)) = crl S ws rows, ⟨[], [], _, _, rfl, rfl, rfl⟩, fun i d ρ hd hI => ?_, fun ρ hI => ?_⟩
    · obtain ⟨ds, done, a, b, rfl, rfl, he⟩ := hI
      obtain ⟨hi, rfl⟩ := rng_get hd
      rw [Int.toNat_natCast] at hi
      rw [Int.zero_add]
      have mx : (sds ws)[i] ∈ sds ws := List.getElem_mem _
      have dr : (sds ws).drop i = (sds ws)[i] :: (sds ws).drop (i + 1) := List.drop_eq_getElem_cons hi
      have ix : ∀ {X' : Cx} {Ψ : PyData → Prop}, Ψ (encL S ws rows (sds ws)[i]) → Ixd X' (.list ((sds ws).map (encL S ws rows))) (.int (i : Nat)) Ψ := fun {X' Ψ} z => ixD_L (by rw [List.length_map]; exact hi) (by rw [List.getElem_map]; exact z)
      rw [dr, prs, List.filter_append, ← List.append_assoc, List.filter_map] at he
      generalize (sds ws)[i] = x at *
      refine tg_name h 5 ?_
      refine sx_cons ?_; refine s1_set h 6 ?_; refine ev_slice ?_; refine ev_name h 3 rfl ?_; refine eo_some ?_; refine ev_bin ?_; refine ev_name h 5 rfl ?_; refine ev_int ?_; refine od_add ?_; refine ⟨_, rfl, ?_⟩; refine eo_none ?_
      refine sl_LD (encL S ws rows) ?_
      rw [show (i : Int) + 1 = ((i + 1 : Nat) : Int) by omega, cut_from]
      refine sx_one ?_; refine s1_extend h 4 rfl ?_; refine ev_lc h o_l_all_crossings0 [7] k_l_all_crossings0 g_l_all_crossings0 ?_; refine ei_list ?_; refine ev_name h 6 rfl ?_; refine ⟨_, rfl, ?_⟩
      refine LcQ.on (encL S ws rows) ((sds ws).drop (i + 1)) (fun y => decide (crF S ws rows x y)) (fun y => encPr (x, y)) (by rw [List.length_drop]; omega) (fun y hy => ?_) ?_
      · have my : y ∈ sds ws := List.mem_of_mem_drop hy
        refine ⟨_, fun X' h' => tg_name h' 7 rfl, fun X' h' => ?_, fun _ X' h' => ?_⟩
        · refine ets_one ?_; refine et_val ?_; refine ev_call h' (cal_lcrosses F) 0 ?_; refine ea_val ?_; refine ev_ix ?_; refine ev_name h' 3 rfl ?_; refine ev_name h' 5 rfl ?_; refine ix ?_; refine ea_val ?_; refine ev_name h' 7 rfl ?_; refine ea_nil ?_
          exact ⟨_, _, _, _, _, _, two x mx, rfl, _, rfl, crF_cr⟩
        · refine ev_tup ?_; refine ea_val ?_; refine ev_ix ?_; refine ev_ix ?_; refine ev_name h' 3 rfl ?_; refine ev_name h' 5 rfl ?_; refine ix ?_; refine ev_int ?_; refine ix_T (d := dS x) rfl ?_; refine ea_val ?_; refine ev_ix ?_; refine ev_name h' 7 rfl ?_; refine ev_int ?_; refine ix_T (d := dS y) rfl ?_; refine ea_nil ?_
          exact ⟨_, rfl, Nat.le_of_ble_eq_true rfl, rfl⟩
      · have cl := crl_len (rows := rows) hw
        have e2 : ((sds ws).drop (i + 1)).filter (fun y => decide (crF S ws rows x y)) = ((sds ws).drop (i + 1)).filter ((fun p : St2 × St2 => decide (crF S ws rows p.1 p.2)) ∘ fun y => (x, y)) := rfl
        have ll := congrArg List.length he
        simp only [List.length_append, List.length_map] at ll
        rw [e2]
        refine ⟨_, rfl, ?_, _, done ++ (((sds ws).drop (i + 1)).filter ((fun p : St2 × St2 => decide (crF S ws rows p.1 p.2)) ∘ fun y => (x, y))).map (fun y => (x, y)), _, _, rfl, ?_, he⟩
        · rw [List.length_map, List.length_map]; omega
        · rw [List.map_append, List.map_map]; rfl
    · obtain ⟨ds, done, a, b, rfl, rfl, he⟩ := hI
      refine sx_freeze 4 rfl ?_; refine sx_one ?_; refine s1_ret ?_; refine ev_name h 4 rfl ?_
      rw [len_rng, Int.toNat_natCast, List.drop_length] at he
      rw [show done = crl S ws rows from by rw [← he]; simp [prs]]
      exact q
end
end RW
namespace RW
open PySem PySem.Spec PyProof.Rows L2 DL
theorem rng_eq (n : Nat) : rng 0 n = (List.range n).map dN := by
  unfold rng
  exact List.map_congr_left fun i _ => by unfold dN; rw [Int.zero_add]
theorem range_at {n i m : Nat} (h : (List.range n)[i]? = some m) : i < n ∧ i = m := by
  obtain ⟨hi, e⟩ := List.getElem?_eq_some_iff.mp h
  rw [List.getElem_range] at e
  rw [List.length_range] at hi
  exact ⟨hi, e⟩
theorem split_perm {α : Type} (f : α → Nat) (m : Nat) : ∀ l : List α, ((l.filter fun x => decide (f x < m)) ++ l.filter fun x => f x == m).Perm (l.filter fun x => decide (f x < m + 1))
  | [] => .nil
  | a :: l => by
    have ih := split_perm f m l
    rcases Nat.lt_trichotomy (f a) m with h | h | h
    · rw [List.filter_cons_of_pos (by simpa using h), List.filter_cons_of_neg (by simp; omega), List.filter_cons_of_pos (by simp; omega), List.cons_append]
      exact ih.cons a
    · rw [List.filter_cons_of_neg (by simp; omega), List.filter_cons_of_pos (by simpa using h), List.filter_cons_of_pos (by simp; omega)]
      exact List.perm_middle.trans (ih.cons a)
    · rw [List.filter_cons_of_neg (by simp; omega), List.filter_cons_of_neg (by simp; omega), List.filter_cons_of_neg (by simp; omega)]
      exact ih
section
variable {S : List L} {k : Nat} {ws : List (List L)} {rows : List (List St2)}
theorem rows_perm (h : DrOk k ws rows) : ∀ m, m ≤ k → ((rows.take m).flatten).Perm ((sds ws).filter fun x => decide ((lo (lat ws x 0)).val < m))
  | 0, _ => by simp
  | m + 1, hm => by
    have ih := rows_perm h m (by omega)
    have hl : m < rows.length := by have := h.len; omega
    have e : rows.take (m + 1) = rows.take m ++ [rows.getD m []] := by
      rw [List.take_add_one, List.getD_eq_getElem?_getD, List.getElem?_eq_getElem hl]; rfl
    rw [e, List.flatten_append]
    have : ([rows.getD m []] : List (List St2)).flatten = rows.getD m [] := by simp
    rw [this]
    exact (ih.append (h.ok m (by omega))).trans (split_perm (fun x => (lo (lat ws x 0)).val) m (sds ws))
theorem rows_all (hS : Sok S k) (hw : Wok S ws) (h : DrOk k ws rows) : rows.flatten.Perm (sds ws) := by
  have := rows_perm h k (Nat.le_refl _)
  rw [List.take_of_length_le (by have := h.len; omega)] at this
  rw [List.filter_eq_self.mpr (fun x hx => decide_eq_true ((hS.mem _).mp (lat_S hw.w hx 0)))] at this
  exact this
theorem rows_len (hw : Wok S ws) (h : DrOk k ws rows) (m : Nat) (hm : m ≤ k) : (rows.take m).flatten.length ≤ 192 := by
  rw [(rows_perm h m hm).length_eq]
  exact Nat.le_trans (List.length_filter_le ..) (sds_len3 hw)
theorem lo_thr {n : Nat} (hn : n < 6) {x : St2} (hx : x ∈ thr ws n) : lo (lat ws x 0) = smL n := by
  have := (mem_thr.mp hx).2
  apply Fin.ext
  rw [this]
  show n = n % 6
  omega
end
theorem kb_bt : kitB "int" "tuple" = some false := by decide +kernel
section
variable {G : Glb}
def C_lis_strand : Con := fun ss Φ => ∃ (S : List L) (ws : List (List L)) (x : St2), Wok S ws ∧ x ∈ sds ws ∧ ss = [.val (dWs ws), .val (dS x)] ∧ Φ (.bool true)
theorem cal_lis_strand (F : Facts G) : Cal G "_law_is_strand" 1 C_lis_strand := by
  obtain ⟨f, fd, FD, hg⟩ := F.a_l_is_strand
  refine cal_of (lv := 0) FD hg S_l_is_strand bd_l_is_strand kg_l_is_strand (fun ss Φ h => ?_) (fun X T ss Φ h hp hc => ?_)
  · obtain ⟨_, _, _, _, _, rfl, _⟩ := h; rfl
  · obtain ⟨S, ws, x, hw, hx, rfl, q⟩ := hc
    have hm := mem_sds.mp hx
    have hl := wy_len hw hx
    have hu := un_ok h
    refine sx_cons ?_; refine s1_if ?_; refine et_w ?_; refine ew_or ?_; refine et_not ?_; refine et_val ?_
    refine ev_isi h 0 1 F.b_isinstance F.b_tuple bb_tuple ?_; refine ev_name h 1 rfl ?_; refine ⟨_, kb_tt, _, rfl, ?_⟩
    refine ifF ?_; refine ew_or1 ?_; refine et_cmp ?_; refine ev_len h 2 F.b_len ?_; refine ev_name h 1 rfl ?_; refine ⟨2, rfl, ?_⟩; refine ev_int ?_; refine od_neI ⟨_, rfl, ?_⟩
    refine ifF ?_; refine sx_nil ?_
    refine sx_cons ?_; refine s1_if ?_; refine et_cmp ?_
    refine ev_lc h o_l_is_strand0 [2] k_l_is_strand0 g_l_is_strand0 ?_; refine ei_tup ?_; refine ev_name h 1 rfl ?_; refine ⟨_, rfl, ?_⟩
    refine LcQ.on dN [x.1, x.2] (fun _ => false) dN (Nat.le_of_ble_eq_true rfl) (fun n hn => ?_) ?_
    · refine ⟨_, fun X' h' => tg_name h' 2 rfl, fun X' h' => ?_, fun z => (by cases z)⟩
      refine ets_one ?_; refine et_w ?_; refine ew_or ?_; refine et_val ?_; refine ev_isi h' 0 1 F.b_isinstance F.b_bool bb_bool ?_; refine ev_name (d := dN n) h' 2 rfl ?_; refine ⟨_, kb_ib, _, rfl, ?_⟩; refine ifF ?_
      refine ew_or ?_; refine et_not ?_; refine et_val ?_; refine ev_isi h' 0 2 F.b_isinstance F.b_int bb_int ?_; refine ev_name (d := dN n) h' 2 rfl ?_; refine ⟨_, kb_ii, _, rfl, ?_⟩; refine ifF ?_
      refine ew_or1 ?_; refine et_cmp ?_; refine ev_name (d := dN n) h' 2 rfl ?_; refine ev_int ?_; refine od_lt ⟨_, rfl, ?_⟩
      exact decide_eq_false (by omega)
    · refine ev_lst ?_; refine ea_nil ?_; refine ⟨_, rfl, Nat.zero_le _, ?_⟩
      refine od_ne (by omega) rfl rfl ⟨_, rfl, ?_⟩
      refine ifF ?_; refine sx_nil ?_
      refine sx_one ?_; refine s1_ret ?_; refine ev_and ?_; refine ev_cmp ?_; refine ev_ix ?_; refine ev_name h 1 rfl ?_; refine ev_int ?_; refine ix_T (d := .int x.1) rfl ?_
      refine ev_len h 2 F.b_len ?_; refine ev_name h 0 rfl ?_; refine ⟨ws.length, by simp [lenD, dWs], ?_⟩; refine od_lt ⟨_, rfl, ?_⟩
      rw [decide_eq_true (by omega)]; refine ifT ?_
      refine ev_one ?_; refine ev_cmp ?_; refine ev_ix ?_; refine ev_name h 1 rfl ?_; refine ev_int ?_; refine ix_T (d := .int x.2) rfl ?_
      refine ev_len h 2 F.b_len ?_; refine ev_ix ?_; refine ev_name h 0 rfl ?_; refine ev_ix ?_; refine ev_name h 1 rfl ?_; refine ev_int ?_; refine ix_T (d := .int x.1) rfl ?_; refine ixW hm.1 ?_
      refine ⟨_, lenW hl, ?_⟩; refine od_lt ?_
      rw [decide_eq_true (by omega)]; exact q
def C_lis_drawing : Con := fun ss Φ => ∃ (S : List L) (k : Nat) (ws : List (List L)) (rows : List (List St2)), Sok S k ∧ Wok S ws ∧ DrOk k ws rows ∧ ss = [.val (dT S), .val (dWs ws), .val (dRows rows)] ∧ Φ (.bool true)
theorem cal_lis_drawing (F : Facts G) : Cal G "_law_is_drawing" 2 C_lis_drawing := by
  obtain ⟨f, fd, FD, hg⟩ := F.a_l_is_drawing
  refine cal_of (lv := 1) FD hg S_l_is_drawing bd_l_is_drawing kg_l_is_drawing (fun ss Φ h => ?_) (fun X T ss Φ h hp hc => ?_)
  · obtain ⟨_, _, _, _, _, _, _, rfl, _⟩ := h; rfl
  · obtain ⟨S, k, ws, rows, hS, hw, hD, rfl, q⟩ := hc
    have h6 := hS.k6
    have hl := hS.ln
    have hr := hD.len
    have hu := un_ok h
    have all := rows_all hS hw hD
    refine sx_cons ?_; refine s1_if ?_; refine et_w ?_; refine ew_or ?_; refine et_not ?_; refine et_val ?_; refine ev_isi h 0 1 F.b_isinstance F.b_tuple bb_tuple ?_; refine ev_name h 2 rfl ?_; refine ⟨_, kb_tt, _, rfl, ?_⟩; refine ifF ?_
    refine ew_or1 ?_; refine et_cmp ?_; refine ev_len h 2 F.b_len ?_; refine ev_name h 2 rfl ?_; refine ⟨k, by simp [lenD, dRows, hr], ?_⟩; refine ev_bin ?_; refine ev_len h 2 F.b_len ?_; refine ev_name h 0 rfl ?_; refine ⟨_, lenW (by omega), ?_⟩; refine ev_int ?_; refine od_div ⟨by decide, by decide⟩ ?_; refine od_neI ⟨_, rfl, ?_⟩
    rw [decide_eq_true (by omega)]; refine ifF ?_; refine sx_nil ?_
    refine sx_cons ?_; refine s1_setO h 3 ?_; refine ea_nil ?_; refine ⟨[], rfl, Nat.zero_le _, ?_⟩
    refine sx_cons ?_; refine s1_for (is := [4]) hp h ?_; refine ei_range1 h 3 F.b_range ?_; refine ev_len h 2 F.b_len ?_; refine ev_name h 2 rfl ?_; refine ⟨k, by simp [lenD, dRows, hr], _, rfl, by omega, by omega, ?_⟩
    rw [Int.toNat_natCast, rng_eq]
    refine ⟨fun i ρ => ∃ ds a b, ρ = [.val (dT S), .val (dWs ws), .val (dRows rows), .own ds, a, b] ∧ ds = (rows.take i).flatten.map dS, ⟨_, _, _, rfl, by simp⟩, fun i d ρ hd hI => ?_, fun ρ hI => ?_⟩
    · obtain ⟨ds, a, b, rfl, rfl⟩ := hI
      rw [List.getElem?_map, Option.map_eq_some_iff] at hd
      obtain ⟨n, hn, rfl⟩ := hd
      obtain ⟨hi, rfl⟩ := range_at hn
      have hrow := row_len hw hD hi
      have hperm := hD.ok i hi
      have pl := rows_len hw hD i (by omega)
      have tk : rows.take (i + 1) = rows.take i ++ [rows.getD i []] := by
        rw [List.take_add_one, List.getD_eq_getElem?_getD, List.getElem?_eq_getElem (by omega)]; rfl
      have fl : (rows.take (i + 1)).flatten = (rows.take i).flatten ++ rows.getD i [] := by rw [tk, List.flatten_append]; simp
      have ix : ∀ {X' : Cx} {Ψ : PyData → Prop}, Ψ (.tuple ((rows.getD i []).map dS)) → Ixd X' (dRows rows) (dN i) Ψ := fun {X' Ψ} z => ixD_T (by rw [List.length_map]; omega) (by rw [List.getElem_map, show rows[i] = rows.getD i [] by rw [List.getD_eq_getElem?_getD, List.getElem?_eq_getElem (by omega)]; rfl]; exact z)
      generalize rows.getD i [] = row at *
      refine tg_name h 4 ?_
      refine sx_cons ?_; refine s1_if ?_; refine et_not ?_; refine et_val ?_; refine ev_isi h 0 1 F.b_isinstance F.b_tuple bb_tuple ?_; refine ev_ix ?_; refine ev_name h 2 rfl ?_; refine ev_name h 4 rfl ?_; refine ix ?_; refine ⟨_, kb_tt, _, rfl, ?_⟩; refine ifF ?_; refine sx_nil ?_
      refine sx_one ?_; refine s1_for (is := [5]) hp h ?_; refine ei_tup ?_; refine ev_ix ?_; refine ev_name h 2 rfl ?_; refine ev_name h 4 rfl ?_; refine ix ?_; refine ⟨_, rfl, ?_⟩
      refine ⟨fun j ρ => ∃ ds b, ρ = [.val (dT S), .val (dWs ws), .val (dRows rows), .own ds, .val (dN i), b] ∧ ds = ((rows.take i).flatten ++ row.take j).map dS, ⟨_, _, rfl, by simp⟩, fun j d ρ hd hJ => ?_, fun ρ hJ => ?_⟩
      · obtain ⟨ds, b, rfl, rfl⟩ := hJ
        rw [List.getElem?_map, Option.map_eq_some_iff] at hd
        obtain ⟨x, hx, rfl⟩ := hd
        have tj : row.take (j + 1) = row.take j ++ [x] := by rw [List.take_add_one, hx]; rfl
        have mt : x ∈ thr ws i := hperm.mem_iff.mp (List.mem_of_getElem? hx)
        have mx : x ∈ sds ws := (mem_thr.mp mt).1
        have m1 := mem_sds.mp mx
        have lt := lo_thr (by omega) mt
        refine tg_name h 5 ?_
        refine sx_cons ?_; refine s1_if ?_; refine et_w ?_; refine ew_or ?_; refine et_not ?_; refine et_val ?_; refine ev_call h (cal_lis_strand F) 4 ?_; refine ea_val ?_; refine ev_name h 1 rfl ?_; refine ea_val ?_; refine ev_name h 5 rfl ?_; refine ea_nil ?_
        refine ⟨S, ws, x, hw, mx, rfl, _, rfl, ?_⟩; refine ifF ?_
        refine ew_or1 ?_; refine et_cmp ?_; refine ev_lower ?_; refine ev_ix ?_; refine ev_ix ?_; refine ev_name h 1 rfl ?_; refine ev_ix ?_; refine ev_name h 5 rfl ?_; refine ev_int ?_; refine ix_T (d := .int x.1) rfl ?_; refine ixW m1.1 ?_
        refine ev_ix ?_; refine ev_name h 5 rfl ?_; refine ev_int ?_; refine ix_T (d := .int x.2) rfl ?_; refine ixL0 hw mx ?_
        refine ⟨_, rfl, by rw [tx_len]; exact Nat.le_of_ble_eq_true rfl, ?_⟩
        rw [lo_tx, lt]
        refine ev_ix ?_; refine ev_str ?_; refine ev_name (d := dN i) h 4 rfl ?_; refine small_ix (by omega) ?_
        refine od_neS ⟨_, rfl, ?_⟩
        rw [decide_eq_true rfl]; refine ifF ?_; refine sx_nil ?_
        refine sx_one ?_; refine s1_append h 3 rfl ?_; refine ev_name h 5 rfl ?_
        refine ⟨by rw [List.length_map, List.length_append, List.length_take]; omega, _, _, rfl, ?_⟩
        rw [tj, ← List.append_assoc, List.map_append (l₂ := [x])]; rfl
      · obtain ⟨ds, b, rfl, rfl⟩ := hJ
        refine ⟨_, _, _, rfl, ?_⟩
        rw [List.length_map, List.take_length, fl]
    · obtain ⟨ds, a, b, rfl, rfl⟩ := hI
      rw [List.length_map, List.length_range, List.take_of_length_le (by omega)]
      have l3 := sds_len3 hw
      have el := all.length_eq
      refine sx_freeze 3 rfl ?_; refine sx_one ?_; refine s1_ret ?_; refine ev_cmp ?_; refine ev_callB h 5 F.b_sorted bb_sorted ?_; refine ea_val ?_; refine ev_name h 3 rfl ?_; refine ea_nil ?_
      refine cd_sortedL dS rows.flatten (by omega) dS_alike (PySem.W.Sortable.tuples fun b => ⟨_, _, rfl⟩) (fun b => Nat.le_of_ble_eq_true rfl) (by omega) ?_
      rw [sort_dS all (sds_lt ws)]
      refine ev_call h (cal_all_strands F) 6 ?_; refine ea_val ?_; refine ev_name h 1 rfl ?_; refine ea_nil ?_
      refine ⟨S, ws, hw, rfl, ?_⟩
      refine od_eq (by omega) (shaped_dS _) (shaped_dS _) ?_
      rw [eqv_same (shaped_dS _)]; exact q
end
end RW
namespace RW
open PySem PySem.Spec PyProof.Rows L2 DL
theorem fac_pos : ∀ n, 1 ≤ fac n
  | 0 => Nat.le_refl _
  | n + 1 => Nat.mul_le_mul (fac_pos n) (Nat.succ_le_succ (Nat.zero_le n))
theorem fac_big : ∀ n, 120 ≤ fac (n + 5)
  | 0 => by decide
  | n + 1 => Nat.le_trans (fac_big n) (Nat.le_mul_of_pos_right _ (Nat.succ_pos _))
theorem fac_four {n : Nat} (h : fac n ≤ 48) : n ≤ 4 := by
  refine Nat.le_of_not_lt fun z => ?_
  have := fac_big (n - 5)
  rw [show n - 5 + 5 = n by omega] at this
  omega
theorem fac_le4 : ∀ n, n ≤ 4 → fac n ≤ 24 := by decide
theorem hmn_pos (ws : List (List L)) : ∀ n, 1 ≤ hmn ws n
  | 0 => Nat.le_refl _
  | n + 1 => Nat.mul_le_mul (hmn_pos ws n) (fac_pos _)
theorem hmn_mono (ws : List (List L)) (i : Nat) : ∀ d, hmn ws i ≤ hmn ws (i + d)
  | 0 => Nat.le_refl _
  | d + 1 => Nat.le_trans (hmn_mono ws i d) (Nat.le_mul_of_pos_right _ (fac_pos _))
theorem hmn_fac {ws : List (List L)} {i k : Nat} (hi : i < k) (h : hmn ws k ≤ 48) : hmn ws i * fac (thr ws i).length ≤ 48 := by
  have := hmn_mono ws (i + 1) (k - (i + 1))
  rw [show i + 1 + (k - (i + 1)) = k by omega] at this
  exact Nat.le_trans this h
/-- an order of strands, as a list -/
def dO (r : List St2) : PyData := .list (r.map dS)
section
variable {G : Glb}
def C_every_order : Con := fun ss Φ => ∃ xs : List St2, xs.length ≤ 4 ∧ ss = [.val (.list (xs.map dS))] ∧ ∀ fs : List (List St2), fs.length = fac xs.length → (∀ r ∈ fs, r.Perm xs) → Φ (.list (fs.map dO))
theorem cal_every_order (F : Facts G) : Cal G "_law_every_order" 1 C_every_order := by
  obtain ⟨f, fd, FD, hg⟩ := F.a_l_every_order
  refine cal_of (lv := 0) FD hg S_l_every_order bd_l_every_order kg_l_every_order (fun ss Φ h => ?_) (fun X T ss Φ h hp hc => ?_)
  · obtain ⟨_, _, rfl, _⟩ := h; rfl
  · obtain ⟨xs, hx4, rfl, q⟩ := hc
    refine sx_cons ?_; refine s1_set h 1 ?_; refine ev_lst ?_; refine ea_val ?_; refine ev_lst ?_; refine ea_nil ?_; refine ⟨_, rfl, Nat.zero_le _, ?_⟩; refine ea_nil ?_; refine ⟨_, rfl, Nat.le_of_ble_eq_true rfl, ?_⟩
    refine sx_cons ?_; refine s1_for (is := [2]) hp h ?_; refine ei_list ?_; refine ev_name h 0 rfl ?_; refine ⟨_, rfl, ?_⟩
    refine ⟨fun i ρ => i ≤ xs.length ∧ ∃ (fs : List (List St2)) (a b c : DL.S), ρ = [.val (.list (xs.map dS)), .val (.list (fs.map dO)), a, b, c, .emp] ∧ fs.length = fac i ∧ ∀ r ∈ fs, r.Perm (xs.take i), ⟨Nat.zero_le _, [[]], _, _, _, rfl, rfl, fun r hr => by rw [List.mem_singleton.mp hr]; exact .nil⟩, fun i d ρ hd hI => ?_, fun ρ hI => ?_⟩
    · obtain ⟨hi, fs, a, b, c, rfl, hf, hpm⟩ := hI
      rw [List.getElem?_map, Option.map_eq_some_iff] at hd
      obtain ⟨x, hx, rfl⟩ := hd
      have hi' := (List.getElem?_eq_some_iff.mp hx).1
      have tk : xs.take (i + 1) = xs.take i ++ [x] := by rw [List.take_add_one, hx]; rfl
      have lt : (xs.take i).length = i := by rw [List.length_take]; omega
      have f24 := fac_le4 i (by omega)
      refine tg_name h 2 ?_
      refine sx_cons ?_; refine s1_setO h 3 ?_; refine ea_nil ?_; refine ⟨[], rfl, Nat.zero_le _, ?_⟩
      refine sx_cons ?_; refine s1_for (is := [4]) hp h ?_; refine ei_list ?_; refine ev_name h 1 rfl ?_; refine ⟨_, rfl, ?_⟩
      refine ⟨fun j ρ => j ≤ fs.length ∧ ∃ (gs : List (List St2)) (c : DL.S), ρ = [.val (.list (xs.map dS)), .val (.list (fs.map dO)), .val (dS x), .own (gs.map dO), c, .emp] ∧ gs.length = j * (i + 1) ∧ ∀ r ∈ gs, r.Perm (xs.take (i + 1)), ⟨Nat.zero_le _, [], _, rfl, by simp, fun r hr => (List.not_mem_nil hr).elim⟩, fun j d ρ hd hJ => ?_, fun ρ hJ => ?_⟩
      · obtain ⟨hj, gs, c, rfl, hgl, hgp⟩ := hJ
        rw [List.getElem?_map, Option.map_eq_some_iff] at hd
        obtain ⟨r, hr, rfl⟩ := hd
        have hj' := (List.getElem?_eq_some_iff.mp hr).1
        have pr := hpm r (List.mem_of_getElem? hr)
        have rl : r.length = i := by rw [pr.length_eq, lt]
        refine tg_name h 4 ?_
        refine sx_one ?_; refine s1_extend h 3 rfl ?_; refine ev_lc h o_l_every_order0 [5] k_l_every_order0 g_l_every_order0 ?_; refine ei_range1 h 0 F.b_range ?_; refine ev_bin ?_; refine ev_len h 1 F.b_len ?_; refine ev_name h 4 rfl ?_; refine ⟨r.length, by simp [lenD, dO], ?_⟩; refine ev_int ?_; refine od_add ?_
        rw [show ((r.length : Nat) : Int) + 1 = ((r.length + 1 : Nat) : Int) by omega]
        refine ⟨_, rfl, by omega, by omega, ?_⟩
        rw [Int.toNat_natCast, rng_eq]
        refine LcQ.on dN (List.range (r.length + 1)) (fun _ => true) (fun n => dO (r.take n ++ [x] ++ r.drop n)) (by rw [List.length_range]; omega) (fun n hn => ?_) ?_
        · refine ⟨_, fun X' h' => tg_name h' 5 rfl, fun X' h' => ets_nil rfl, fun _ X' h' => ?_⟩
          refine ev_bin ?_; refine ev_bin ?_; refine ev_slice ?_; refine ev_name h' 4 rfl ?_; refine eo_none ?_; refine eo_some ?_; refine ev_name (d := dN n) h' 5 rfl ?_; refine ⟨_, rfl, ?_⟩; refine sl_LD dS ?_
          rw [cut_to]
          refine ev_lst ?_; refine ea_val ?_; refine ev_name (d := dS x) h' 2 rfl ?_; refine ea_nil ?_; refine ⟨_, rfl, Nat.le_of_ble_eq_true rfl, ?_⟩
          refine od_addL (by rw [List.length_map, List.length_take]; show _ + 1 ≤ _; omega) ?_
          refine ev_slice ?_; refine ev_name h' 4 rfl ?_; refine eo_some ?_; refine ev_name (d := dN n) h' 5 rfl ?_; refine ⟨_, rfl, ?_⟩; refine eo_none ?_; refine sl_LD dS ?_
          rw [cut_from]
          refine od_addL (by rw [List.length_append, List.length_map, List.length_map, List.length_take, List.length_drop]; show _ + 1 + _ ≤ _; omega) ?_
          show _ = PyData.list _
          rw [List.map_append, List.map_append]; rfl
        · rw [List.filter_eq_self.mpr fun _ _ => rfl]
          have jb : (j + 1) * (i + 1) ≤ 24 * 5 := Nat.mul_le_mul (by omega) (by omega)
          have js : (j + 1) * (i + 1) = j * (i + 1) + (i + 1) := Nat.succ_mul _ _
          refine ⟨_, rfl, by rw [List.length_map, List.length_map, List.length_range]; omega, hj', gs ++ (List.range (r.length + 1)).map (fun n => r.take n ++ [x] ++ r.drop n), _, by rw [List.map_append, List.map_map]; rfl, by rw [List.length_append, List.length_map, List.length_range]; omega, fun u hu => ?_⟩
          rcases List.mem_append.mp hu with z | z
          · exact hgp u z
          · obtain ⟨n, _, rfl⟩ := List.mem_map.mp z
            rw [tk]
            have e1 : (r.take n ++ [x] ++ r.drop n).Perm (x :: r) := by
              rw [List.append_assoc, List.singleton_append]
              refine List.perm_middle.trans (List.Perm.cons x ?_)
              rw [List.take_append_drop]
            exact e1.trans ((pr.cons x).trans (List.perm_append_singleton x _).symm)
      · obtain ⟨_, gs, c, rfl, hgl, hgp⟩ := hJ
        rw [List.length_map] at hgl
        refine sx_freeze 3 rfl ?_; refine sx_one ?_; refine s1_set h 1 ?_; refine ev_name h 3 rfl ?_
        exact ⟨hi', gs, _, _, _, rfl, by rw [hgl, hf]; rfl, hgp⟩
    · obtain ⟨_, fs, a, b, c, rfl, hf, hpm⟩ := hI
      rw [List.length_map] at hf hpm
      rw [List.take_length] at hpm
      refine sx_one ?_; refine s1_ret ?_; refine ev_name h 1 rfl ?_
      exact q fs hf hpm
def C_every_drawing : Con := fun ss Φ => ∃ (S : List L) (k : Nat) (ws : List (List L)), Sok S k ∧ Wok S ws ∧ hmn ws k ≤ 48 ∧ ss = [.val (dT S), .val (dWs ws)] ∧ ∀ fs : List (List (List St2)), 0 < fs.length → fs.length ≤ 48 → (∀ r ∈ fs, DrOk k ws r) → Φ (.list (fs.map dRows))
theorem cal_every_drawing (F : Facts G) : Cal G "_law_every_drawing" 2 C_every_drawing := by
  obtain ⟨f, fd, FD, hg⟩ := F.a_l_every_drawing
  refine cal_of (lv := 1) FD hg S_l_every_drawing bd_l_every_drawing kg_l_every_drawing (fun ss Φ h => ?_) (fun X T ss Φ h hp hc => ?_)
  · obtain ⟨_, _, _, _, _, _, rfl, _⟩ := h; rfl
  · obtain ⟨S, k, ws, hS, hw, hm, rfl, q⟩ := hc
    have h6 := hS.k6
    have hl := hS.ln
    have l3 := sds_len3 hw
    refine sx_cons ?_; refine s1_set h 2 ?_; refine ev_lst ?_; refine ea_val ?_; refine ev_tup ?_; refine ea_nil ?_; refine ⟨_, rfl, Nat.zero_le _, ?_⟩; refine ea_nil ?_; refine ⟨_, rfl, Nat.le_of_ble_eq_true rfl, ?_⟩
    refine sx_cons ?_; refine s1_for (is := [3]) hp h ?_; refine ei_range1 h 0 F.b_range ?_; refine ev_bin ?_; refine ev_len h 1 F.b_len ?_; refine ev_name h 0 rfl ?_; refine ⟨_, lenW (by omega), ?_⟩; refine ev_int ?_; refine od_div ⟨by decide, by decide⟩ ?_
    rw [show ((S.length : Nat) : Int) / 2 = ((k : Nat) : Int) by omega]
    refine ⟨_, rfl, by omega, by omega, ?_⟩
    rw [Int.toNat_natCast, rng_eq]
    refine ⟨fun i ρ => i ≤ k ∧ ∃ (fs : List (List (List St2))) (a b c e : DL.S), ρ = [.val (dT S), .val (dWs ws), .val (.list (fs.map dRows)), a, b, c, e, .emp, .emp] ∧ fs.length = hmn ws i ∧ ∀ r ∈ fs, DrOk i ws r, ⟨Nat.zero_le _, [[]], _, _, _, _, rfl, rfl, fun r hr => by rw [List.mem_singleton.mp hr]; exact ⟨rfl, fun n hn => (Nat.not_lt_zero n hn).elim⟩⟩, fun i d ρ hd hI => ?_, fun ρ hI => ?_⟩
    · obtain ⟨hi, fs, a, b, c, e, rfl, hf, hok⟩ := hI
      rw [List.getElem?_map, Option.map_eq_some_iff] at hd
      obtain ⟨n, hn, rfl⟩ := hd
      obtain ⟨hi', rfl⟩ := range_at hn
      have hb := hmn_fac hi' hm
      have h1 := hmn_pos ws i
      have f1 := fac_pos (thr ws i).length
      have t4 : (thr ws i).length ≤ 4 := fac_four (Nat.le_trans (Nat.le_mul_of_pos_left _ h1) hb)
      have f48 : fs.length ≤ 48 := by rw [hf]; exact Nat.le_trans (Nat.le_mul_of_pos_right _ f1) hb
      have fc := fac_le4 _ t4
      refine tg_name h 3 ?_
      refine sx_cons ?_; refine s1_setLc h 4 o_l_every_drawing0 [7] k_l_every_drawing0 g_l_every_drawing0 ?_; refine ei_list ?_; refine ev_call h (cal_all_strands F) 2 ?_; refine ea_val ?_; refine ev_name h 1 rfl ?_; refine ea_nil ?_; refine ⟨S, ws, hw, rfl, _, rfl, ?_⟩
      refine LcQ.on dS (sds ws) (fun x => (lo (lat ws x 0)).val == i) dS (by omega) (fun x hx => ?_) ?_
      · have m1 := mem_sds.mp hx
        refine ⟨_, fun X' h' => tg_name h' 7 rfl, fun X' h' => ?_, fun _ X' h' => ?_⟩
        · refine ets_one ?_; refine et_cmp ?_; refine ev_lower ?_; refine ev_ix ?_; refine ev_ix ?_; refine ev_name h' 1 rfl ?_; refine ev_ix ?_; refine ev_name (d := dS x) h' 7 rfl ?_; refine ev_int ?_; refine ix_T (d := .int x.1) rfl ?_; refine ixW m1.1 ?_
          refine ev_ix ?_; refine ev_name (d := dS x) h' 7 rfl ?_; refine ev_int ?_; refine ix_T (d := .int x.2) rfl ?_; refine ixL0 hw hx ?_
          refine ⟨_, rfl, by rw [tx_len]; exact Nat.le_of_ble_eq_true rfl, ?_⟩
          rw [lo_tx]
          refine ev_ix ?_; refine ev_str ?_; refine ev_name (d := dN i) h' 3 rfl ?_; refine small_ix (by omega) ?_
          refine od_eqL ⟨_, rfl, ?_⟩
          exact lo_smL' _ i (by omega)
        · refine ev_name (d := dS x) h' 7 rfl ?_
          rfl
      show Sx X T [.val (dT S), .val (dWs ws), .val (.list (fs.map dRows)), .val (dN i), .val (.list ((thr ws i).map dS)), c, e, .emp, .emp] _ _
      refine sx_cons ?_; refine s1_setO h 5 ?_; refine ea_nil ?_; refine ⟨[], rfl, Nat.zero_le _, ?_⟩
      refine sx_cons ?_; refine s1_for (is := [6]) hp h ?_; refine ei_list ?_; refine ev_name h 2 rfl ?_; refine ⟨_, rfl, ?_⟩
      refine ⟨fun j ρ => j ≤ fs.length ∧ ∃ (gs : List (List (List St2))) (e : DL.S), ρ = [.val (dT S), .val (dWs ws), .val (.list (fs.map dRows)), .val (dN i), .val (.list ((thr ws i).map dS)), .own (gs.map dRows), e, .emp, .emp] ∧ gs.length = j * fac (thr ws i).length ∧ ∀ r ∈ gs, DrOk (i + 1) ws r, ⟨Nat.zero_le _, [], _, rfl, by simp, fun r hr => (List.not_mem_nil hr).elim⟩, fun j d ρ hd hJ => ?_, fun ρ hJ => ?_⟩
      · obtain ⟨hj, gs, e, rfl, hgl, hgo⟩ := hJ
        rw [List.getElem?_map, Option.map_eq_some_iff] at hd
        obtain ⟨r, hr, rfl⟩ := hd
        have hj' := (List.getElem?_eq_some_iff.mp hr).1
        have ro := hok r (List.mem_of_getElem? hr)
        have rl := ro.len
        refine tg_name h 6 ?_
        refine sx_one ?_; refine s1_extend h 5 rfl ?_; refine ev_lc h o_l_every_drawing1 [8] k_l_every_drawing1 g_l_every_drawing1 ?_; refine ei_list ?_; refine ev_call h (cal_every_order F) 3 ?_; refine ea_val ?_; refine ev_name h 4 rfl ?_; refine ea_nil ?_
        refine ⟨thr ws i, t4, rfl, fun os ol op => ⟨_, rfl, ?_⟩⟩
        refine LcQ.on dO os (fun _ => true) (fun o => dRows (r ++ [o])) (by omega) (fun o ho => ?_) ?_
        · have oL := (op o ho).length_eq
          refine ⟨_, fun X' h' => tg_name h' 8 rfl, fun X' h' => ets_nil rfl, fun _ X' h' => ?_⟩
          refine ev_bin ?_; refine ev_name (d := dRows r) h' 6 rfl ?_; refine ev_tup ?_; refine ea_val ?_; refine ev_callT h' 0 F.b_tuple bb_tuple ?_; refine ea_val ?_; refine ev_name (d := dO o) h' 8 rfl ?_; refine ea_nil ?_; refine cd_tupL ?_; refine ea_nil ?_; refine ⟨_, rfl, Nat.le_of_ble_eq_true rfl, ?_⟩
          refine od_addT (by rw [List.length_map]; show _ + 1 ≤ _; omega) ?_
          show _ = PyData.tuple _
          rw [List.map_append]; rfl
        · rw [List.filter_eq_self.mpr fun _ _ => rfl]
          have jb : (j + 1) * fac (thr ws i).length ≤ 48 * 24 := Nat.mul_le_mul (by omega) fc
          have js : (j + 1) * fac (thr ws i).length = j * fac (thr ws i).length + fac (thr ws i).length := Nat.succ_mul _ _
          refine ⟨_, rfl, by rw [List.length_map, List.length_map]; omega, hj', gs ++ os.map (fun o => r ++ [o]), _, by rw [List.map_append, List.map_map]; rfl, by rw [List.length_append, List.length_map]; omega, fun u hu => ?_⟩
          rcases List.mem_append.mp hu with z | z
          · exact hgo u z
          · obtain ⟨o, ho, rfl⟩ := List.mem_map.mp z
            refine ⟨by rw [List.length_append, rl]; rfl, fun n hn => ?_⟩
            rw [List.getD_eq_getElem?_getD]
            by_cases e1 : n < i
            · rw [List.getElem?_append_left (by omega), ← List.getD_eq_getElem?_getD]
              exact ro.ok n e1
            · have e2 : n = i := by omega
              subst e2
              rw [List.getElem?_append_right (by omega), rl, Nat.sub_self]
              exact op o ho
      · obtain ⟨_, gs, e, rfl, hgl, hgo⟩ := hJ
        rw [List.length_map] at hgl
        refine sx_freeze 5 rfl ?_; refine sx_one ?_; refine s1_set h 2 ?_; refine ev_name h 5 rfl ?_
        exact ⟨hi', gs, _, _, _, _, rfl, by rw [hgl, hf]; rfl, hgo⟩
    · obtain ⟨_, fs, a, b, c, e, rfl, hf, hok⟩ := hI
      rw [List.length_map, List.length_range] at hf hok
      refine sx_one ?_; refine s1_ret ?_; refine ev_name h 2 rfl ?_
      exact q fs (by rw [hf]; exact hmn_pos ws k) (by rw [hf]; exact hm) hok
def C_swapped : Con := fun ss Φ => ∃ (S : List L) (k : Nat) (ws : List (List L)) (rows : List (List St2)), Sok S k ∧ Wok S ws ∧ DrOk k ws rows ∧ ss = [.tape, .val (dRows rows)] ∧ ∀ rows' : List (List St2), DrOk k ws rows' → Φ (dRows rows')
theorem swap_dr {k : Nat} {ws : List (List L)} {rows : List (List St2)} (h : DrOk k ws rows) {a : Nat} (ha : a < k) {row : List St2} (hp : row.Perm (rows.getD a [])) : DrOk k ws (rows.take a ++ [row] ++ rows.drop (a + 1)) := by
  have hl := h.len
  refine ⟨by simp; omega, fun n hn => ?_⟩
  rw [List.getD_eq_getElem?_getD, List.append_assoc]
  have lt : (rows.take a).length = a := by rw [List.length_take]; omega
  by_cases e : n < a
  · rw [List.getElem?_append_left (by omega), List.getElem?_take_of_lt e, ← List.getD_eq_getElem?_getD]
    exact h.ok n hn
  · rw [List.getElem?_append_right (by omega), lt]
    by_cases e2 : n = a
    · subst e2
      rw [Nat.sub_self]
      exact hp.trans (h.ok n hn)
    · obtain ⟨j, hj⟩ : ∃ j, n - a = j + 1 := ⟨n - a - 1, by omega⟩
      rw [hj]
      show ((rows.drop (a + 1))[j]?.getD []).Perm _
      rw [List.getElem?_drop, show a + 1 + j = n by omega, ← List.getD_eq_getElem?_getD]
      exact h.ok n hn
theorem turn_perm {α : Type} (r : List α) (j : Nat) : (r.take j ++ ((r.drop j).take 2).reverse ++ r.drop (j + 2)).Perm r := by
  have e : r = r.take j ++ ((r.drop j).take 2 ++ r.drop (j + 2)) := by
    conv => lhs; rw [← List.take_append_drop j r, ← List.take_append_drop 2 (r.drop j), List.drop_drop]
  conv => rhs; rw [e]
  rw [List.append_assoc]
  exact (List.Perm.refl _).append ((List.reverse_perm _).append (List.Perm.refl _))
theorem cal_swapped (F : Facts G) : Cal G "_law_swapped" 2 C_swapped := by
  obtain ⟨f, fd, FD, hg⟩ := F.a_l_swapped
  refine cal_of (lv := 1) FD hg S_l_swapped bd_l_swapped kg_l_swapped (fun ss Φ h => ?_) (fun X T ss Φ h hp hc => ?_)
  · obtain ⟨_, _, _, _, _, _, _, rfl, _⟩ := h; rfl
  · obtain ⟨S, k, ws, rows, hS, hw, hD, rfl, q⟩ := hc
    have h6 := hS.k6
    have h1 := hS.k1
    have hr := hD.len
    refine sx_cons ?_; refine s1_set h 2 ?_; refine ev_call h (cal_draw F) 0 ?_; refine ea_tape h 0 rfl ?_; refine ea_val ?_; refine ev_len h 1 F.b_len ?_; refine ev_name h 1 rfl ?_; refine ⟨k, by simp [lenD, dRows, hr], ?_⟩; refine ea_nil ?_
    refine ⟨_, by omega, by omega, rfl, fun a ha => ?_⟩
    have ha' : a < k := by omega
    have rl := row_len hw hD ha'
    have eg : (rows.map fun r => PyData.tuple (r.map dS))[a]'(by rw [List.length_map]; omega) = .tuple ((rows.getD a []).map dS) := by
      rw [List.getElem_map, List.getD_eq_getElem?_getD, List.getElem?_eq_getElem (by omega)]; rfl
    refine sx_cons ?_; refine s1_set h 3 ?_; refine ev_ix ?_; refine ev_name h 1 rfl ?_; refine ev_name h 2 rfl ?_; refine ixD_T (by rw [List.length_map]; omega) ?_
    rw [eg]
    have sw := fun (row : List St2) (hp : row.Perm (rows.getD a [])) => q _ (swap_dr hD ha' hp)
    generalize rows.getD a [] = r at rl sw
    refine sx_cons ?_; refine s1_set h 4 ?_; refine ev_call h (cal_draw F) 0 ?_; refine ea_tape h 0 rfl ?_; refine ea_val ?_; refine ev_callB h 2 F.b_max bb_max ?_; refine ea_val ?_; refine ev_int ?_; refine ea_val ?_; refine ev_bin ?_; refine ev_len h 1 F.b_len ?_; refine ev_name h 3 rfl ?_; refine ⟨r.length, by simp [lenD], ?_⟩; refine ev_int ?_; refine od_sub ?_; refine ea_nil ?_
    refine cd_max2 h.calm ?_; refine ea_nil ?_
    refine ⟨_, by split <;> omega, by split <;> omega, rfl, fun j hj => ?_⟩
    have jl : j ≤ 192 := by split at hj <;> omega
    clear hj
    refine sx_cons ?_; refine s1_set h 3 ?_; refine ev_bin ?_; refine ev_bin ?_
    refine ev_slice ?_; refine ev_name h 3 rfl ?_; refine eo_none ?_; refine eo_some ?_; refine ev_name h 4 rfl ?_; refine ⟨_, rfl, ?_⟩; refine sl_TD dS ?_; rw [cut_to]
    refine ev_revT ?_; refine ev_slice ?_; refine ev_name h 3 rfl ?_; refine eo_some ?_; refine ev_name h 4 rfl ?_; refine ⟨_, rfl, ?_⟩; refine eo_some ?_; refine ev_bin ?_; refine ev_name h 4 rfl ?_; refine ev_int ?_; refine od_add ?_; refine ⟨_, rfl, ?_⟩; refine sl_TD dS ?_
    rw [show (j : Int) + 2 = ((j + 2 : Nat) : Int) by omega, cut_mid, show j + 2 - j = 2 by omega]
    refine ⟨_, rfl, ?_⟩
    rw [← List.map_reverse]
    refine od_addT (by rw [List.length_map, List.length_map, List.length_reverse, List.length_take, List.length_take]; omega) ?_
    rw [← List.map_append]
    refine ev_slice ?_; refine ev_name h 3 rfl ?_; refine eo_some ?_; refine ev_bin ?_; refine ev_name h 4 rfl ?_; refine ev_int ?_; refine od_add ?_; refine ⟨_, rfl, ?_⟩; refine eo_none ?_; refine sl_TD dS ?_
    rw [show (j : Int) + 2 = ((j + 2 : Nat) : Int) by omega, cut_from]
    refine od_addT (by simp only [List.length_map, List.length_append, List.length_reverse, List.length_take, List.length_drop]; omega) ?_
    rw [← List.map_append]
    have tp := sw _ (turn_perm r j)
    generalize r.take j ++ ((r.drop j).take 2).reverse ++ r.drop (j + 2) = row at tp
    refine sx_one ?_; refine s1_ret ?_; refine ev_bin ?_; refine ev_bin ?_
    refine ev_slice ?_; refine ev_name h 1 rfl ?_; refine eo_none ?_; refine eo_some ?_; refine ev_name h 2 rfl ?_; refine ⟨_, rfl, ?_⟩; refine sl_TD (fun r : List St2 => PyData.tuple (r.map dS)) ?_; rw [cut_to]
    refine ev_tup ?_; refine ea_val ?_; refine ev_name h 3 rfl ?_; refine ea_nil ?_; refine ⟨_, rfl, Nat.le_of_ble_eq_true rfl, ?_⟩
    refine od_addT (by rw [List.length_map, List.length_take]; show _ + 1 ≤ _; omega) ?_
    refine ev_slice ?_; refine ev_name h 1 rfl ?_; refine eo_some ?_; refine ev_bin ?_; refine ev_name h 2 rfl ?_; refine ev_int ?_; refine od_add ?_; refine ⟨_, rfl, ?_⟩; refine eo_none ?_; refine sl_TD (fun r : List St2 => PyData.tuple (r.map dS)) ?_
    rw [show (a : Int) + 1 = ((a + 1 : Nat) : Int) by omega, cut_from]
    refine od_addT (by rw [List.length_append, List.length_map, List.length_map, List.length_take, List.length_drop]; show _ + 1 + _ ≤ _; omega) ?_
    have e : PyData.tuple ((rows.take a).map (fun r => PyData.tuple (r.map dS)) ++ [PyData.tuple (row.map dS)] ++ (rows.drop (a + 1)).map fun r => PyData.tuple (r.map dS)) = dRows (rows.take a ++ [row] ++ rows.drop (a + 1)) := by
      unfold dRows
      rw [List.map_append, List.map_append]; rfl
    rw [e]
    exact tp
end
end RW
/-! Defs that are entered while no guard is held: what repr wants. -/
namespace DL
open PySem PySem.Spec PyProof.Rows L2
/-- the promise of a def, no guard held -/
structure FnG (P : Program) (w : World) (K : PySem.W.Frag) (mg : Str → Option Value) (base : Heap) (k : Nat) (f : Addr) (fd : FuncData) (ps : List Str) (sp : Sp) : Prop where
  few : ∀ vs H Q E, sp vs H Q E → vs.length = ps.length
  go : ∀ (A : Around) (out : List Env) (s : Shared) (H : Hp) (args : Args) (us : List Value) (vs : List V) (Q : VK) (E : XK), A.guards = some [] → Room k A → Env0 P w K mg base A out s H → BindsTo s fd args (ps.zip us) → Vals vs us → sp vs H Q E →
    codeAny (model P w) A (.call (.ref f) args) (CR CX0 out P w H s Q E) s
section
variable {P : Program} {w : World} {K : PySem.W.Frag} {mg : Str → Option Value} {base : Heap} {x q : Str} {ar : Arguments} {bd : List Stmt} {sc : Scope} {f : Addr} {fd : FuncData} {N ps : List Str} {k : Nat} {sp : Sp}
theorem fng_of (F : FunD K x q ar bd sc [] [] f fd) (S0 : FnScope N ps sc) (few : ∀ vs H Q E, sp vs H Q E → vs.length = ps.length)
    (hb : ∀ (cdv : Value) (A : Around) (out : List Env) (s : Shared) (H : Hp) (vs : List V) (Q : VK) (E : XK), (cxOf CX0 P w K mg base N q sc f cdv A out s H E).A.guards = some [] → Room k (A.deeper (envOfC q sc s.heap.objs.size f cdv)) → sp vs H Q E →
      ∃ t, PSs (cxOf CX0 P w K mg base N q sc f cdv A out s H E) bd t ∧ t { nx := fun _ H' => Q .non H', rt := Q } (L2.start N vs) H) : FnG P w K mg base (k + 1) f fd ps sp := by
  obtain ⟨c0, d0, v0, kw, dc, pm, an, cdv, ct, sl, e0, look, cod, _, _⟩ := F.ex
  subst e0
  constructor
  · exact few
  intro A out s H args us vs Q E gu room en bi rv sv
  have back : ∀ b o, base.get? b = some o → s.heap.get? b = some o := fun b o z => (en.bs b o z).1
  have Ks : K.In s.heap := PySem.W.Frag.In.keeps en.mod.kin back
  have kinds : ∀ y ∈ ps.zip us, sc.names.lookup y.1 = some .local ∨ (sc.names.lookup y.1 = some .cell ∧ ((cellsFrom (s.heap.objs.size + 1) sc.names []).lookup y.1).isSome = true) := by
    rintro ⟨n, v⟩ hy
    rcases S0.par n (List.of_mem_zip hy).1 with z | z
    · left; exact z
    · right; exact ⟨z, PySem.W.cellsFrom_some _ _ _ (Or.inl z)⟩
  apply codeAny_call_function room.depth (Ks _ _ look) rfl S0.co S0.gen rfl (PySem.W.codeRec_of Ks cod)
  apply bi
  apply wpAny_newFunctionEnv_cells S0.kind kinds
  intro env he s1 inn
  cases he
  constructor
  · exact (en.mod.nolimit.keeps back).keeps inn.toInCall.keep
  · apply codeAny_func
    obtain ⟨t, tr, tq⟩ := hb cdv A out s H vs Q E gu (room.deeper _) sv
    have J := inv_start (CX := CX0) (E := E) S0 room.hd en (few _ _ _ _ sv) rv inn
    apply wpAny_mono (tr.run [] s1 _ H _ J tq)
    · rintro fl s' hs
      match fl, hs with
      | .ret u, ⟨v, σ', H', J', rel, z⟩ => exact ⟨v, H', J'.os, J'.bare, J'.base, J'.hok, rel, z⟩
      | .next, ⟨σ', H', J', z⟩ => exact ⟨V.non, H', J'.os, J'.bare, J'.base, J'.hok, rfl, z⟩
      | .brk, ⟨_, _, _, z⟩ => exact z.elim
      | .cont, ⟨_, _, _, z⟩ => exact z.elim
    · exact fun _ _ z => z
variable {X : Cx} {pins : List (Addr × Obj)} {σ : L2.St} {H : Hp} {s : Shared} {Q : VK} {us : List Value} {vs : List V}
theorem run_g (F : FnG X.prog X.w X.K X.mg X.base k f fd ps sp) (gu : X.A.guards = some []) (hr : Room k X.A) (hb : Binds X.K fd ps []) (I : Inv X pins σ H s) (r : Vals vs us) (h : sp vs H Q E0) : wpAny (model X.prog X.w) X.A (call (.ref f) us) (EP X pins σ Q) X.xe s := by
  have few : (us ++ []).length = ps.length := by rw [List.append_nil, ← r.length]; exact F.few _ _ _ _ h
  have bi := hb s us I.kIn few
  rw [List.append_nil] at bi
  apply wpAny_call
  apply codeAny_mono (F.go X.A X.stack s H ⟨us, []⟩ us vs Q E0 gu hr I.env0 bi r h)
  rintro res s' hq
  match res, hq with
  | .error _, hq => exact hq.elim
  | .ok (.ret u), hq => exact I.after hq
  | .ok .next, hq => exact hq.elim
  | .ok .brk, hq => exact hq.elim
  | .ok .cont, hq => exact hq.elim
end
structure CalG (G : Glb) (x : Str) (k : Nat) (C : Con) : Prop where
  ex : ∃ f fd ps, G.mg x = some (.ref f) ∧ PySem.W.keepIn G.K (.ref f) = true ∧ Binds G.K fd ps [] ∧ FnG G.P G.w G.K G.mg G.base k f fd ps (spC C)
section
variable {G : Glb} {N : List Str} {sc : Scope} {ks : List (Option NameKind)} {gs : List Str} {fc : Bool} {lv : Nat} {X : Cx} {T : Tape} {ρ : List S} {Φ : PyData → Prop} {p pos : Pos}
theorem ev_callG (h : XOk G N sc ks gs fc lv X) (gu : X.A.guards = some []) {x : Str} {k : Nat} {C : Con} (c : CalG G x k C) (j : Nat) {e : Expr} {es : List Expr} (ha : Ea X T ρ (e :: es) fun ss => C ss Φ) (hg : gs[j]? = some x := by rfl) (hk : k ≤ lv := by decide)
    (he : starEach (e :: es) X.env = (false, eval e X.env) :: starEach es X.env := by rfl) (hpl : (backTo pos (starEach es X.env)).any (·.1) = false := by rfl) : Ev X T ρ (.Call (.Name x p) (e :: es) [] pos) Φ := by
  intro A σ B H Q s kQ
  obtain ⟨f, fd, ps, hm, hkp, hb, F⟩ := c.ex
  have F2 : FnG X.prog X.w X.K X.mg X.base k f fd ps (spC C) := by rw [h.eP, h.ew, h.eK, h.eg, h.eb]; exact F
  have rule : PE X (.Call (.Name x p) (e :: es) [] pos) (fun σ H Q => DL.WA X (e :: es) σ H fun vs H1 => spC C vs H1 Q E0) := by
    constructor
    intro pins sh σ H Q I q
    apply wpAny_Call_Name_kw
    refine ld_glob I (h.gl hg) (by rw [h.eg]; exact hm) ?_ (h.hg j x hg).2.1
    refine PySem.W.callWith_K (h₀ := X.base) I.ok.mod.kin (by rw [h.eK]; exact hkp) ?_ he hpl
    refine thn (q pos pins sh I) fun us s1 ⟨vs, H1, I1, r, z⟩ => ⟨I1.kIn, ?_⟩
    exact run_g F2 gu (h.room.mono hk) (by rw [h.eK]; exact hb) I1 r z
  refine we_of rule ?_
  exact ha A σ B H _ s fun vs ss B1 H1 s1 r q => ⟨T, B1, ss, Φ, s1.e, s1.t, r, q, kQ.step s1⟩
end
theorem calg_of {G : Glb} {x : Str} {st : Stmt} {sc : Scope} {f : Addr} {fd : FuncData} {N ps : List Str} {ks : List (Option NameKind)} {gs : List Str} {lv : Nat} {C : Con} (F : FunD G.K x x (defArgs st) (defBody st) sc [] [] f fd) (hg : G.mg x = some (.ref f)) (S0 : FnScope N ps sc)
    (hb : ∀ (kV doc pm : Value) (an : Option Addr) (cdv ct : Value) (us : List Value), us.length = ps.length → bindArgs (PySem.W.fnOf x x (defArgs st) (defBody st) sc .none kV doc pm an cdv ct) ⟨us, []⟩ = pure (ps.zip us)) (hkg : (ksB N sc ks && gsB gs sc) = true)
    (len : ∀ ss Φ, C ss Φ → ss.length = ps.length)
    (hbody : ∀ X T ss Φ, XOk G N sc ks gs true lv X → X.A.guards = some [] → PassesOwn (model X.prog X.w) X.A X.env X.xe → C ss Φ → Sx X T (ss ++ List.replicate (N.length - ss.length) .emp) (defBody st) ⟨fun _ => Φ .none, Φ, fun _ => False, fun _ => False⟩) : CalG G x (lv + 1) C := by
  rw [Bool.and_eq_true] at hkg
  have hpl : ps.length ≤ N.length := by have := congrArg List.length S0.pre; rw [List.length_take] at this; omega
  refine ⟨f, fd, ps, hg, F.kp, F.bindsN hb, fng_of F S0 (fun vs H Q E h => ?_) (fun cdv A outer s H vs Q E gu hr h => ?_)⟩
  · obtain ⟨T, B, ss, Φ, _, _, r, hC, _⟩ := h
    rw [r.length]; exact len ss Φ hC
  · obtain ⟨T, B, ss, Φ, e, t, r, hC, k⟩ := h
    refine ⟨_, PSs.nox pss_wss, ?_⟩
    have ok := (xok_fn (CX := CX0) (P := G.P) (w := G.w) (K := G.K) (mg := G.mg) (base := G.base) (qual := x) (f := f) (cd := cdv) (A := A) (outer := outer) (s := s) (H := H) (E := E) S0 hkg.1 hkg.2 hr).nox
    refine hbody _ T ss Φ ok gu PassesOwn.never hC (B, H) (start N vs) B H _ (sl_start e t r (by rw [r.length, len ss Φ hC]; exact hpl)) ⟨fun σ' B' H' ρ' z q => ?_, fun v d B' H' st r' q => ?_, fun σ' B' H' ρ' z q => q.elim, fun σ' B' H' ρ' z q => q.elim⟩
    · exact k .non .none B' H' z.anc .non q
    · exact k v d B' H' st r' q
end DL
namespace DL
open PySem PySem.Spec PyProof.Rows L2
section
variable {X : Cx} {Φ : PyData → Prop}
theorem cd_reprT (gu : X.A.guards = some []) (hu : X.A.units + 65 < cLine) {xs : List PyData} (hs : (PyData.tuple xs).showable = true) (hd : (PyData.tuple xs).hasDict = false) (dp : (PyData.tuple xs).depth ≤ 32) (hz : (PyData.tuple xs).shown.length ≤ sizeLine)
    (q : Φ (.str (PyData.tuple xs).shown)) : CD X (.builtin "repr") [.val (.tuple xs)] Φ := by
  intro T B H vs Q e t r k pins s σ us I rv
  cases r with
  | val r1 r2 =>
    cases r2
    obtain ⟨u, rfl, ru⟩ := vals1 rv
    obtain ⟨as, rd⟩ := Dp.reads I _ _ _ ((r1.mono e).dp) ru
    cases r1 with
    | tup h1 _ =>
      obtain rfl : u = Value.ref _ := ru
      exact repr_of_reads' rd hs (PyData.noDict_hsm hd) gu (by omega) (fun b o z => z) (fun h' u tk hk => ⟨.str _, H, I.kept hk, ⟨_, rfl⟩, k.now e t (.str _) q⟩) hz
theorem cd_reprB {b : Bool} (q : Φ (.str (PyData.bool b).shown)) : CD X (.builtin "repr") [.val (.bool b)] Φ := by
  intro T B H vs Q e t r k pins s σ us I rv
  cases r with
  | val r1 r2 =>
    cases r2
    cases r1
    obtain ⟨u, rfl, ru⟩ := vals1 rv
    obtain rfl : u = Value.bool b := ru
    exact PySem.P.repr_of_bool ⟨.str _, H, I.tok _, ⟨_, rfl⟩, k.now e t (.str _) q⟩
theorem tupleText_len (ts : List Str) : (tupleText ts).length ≤ piled ts + 3 := by
  unfold tupleText
  rw [strLen_append, strLen_append]
  have e1 : ((("(" : String) : Str)).length = 1 := rfl
  have e2 : ((if ts.length == 1 then ",)" else ")" : String) : Str).length ≤ 2 := by split <;> exact Nat.le_of_ble_eq_true rfl
  cases ts with
  | nil =>
    have e3 : (Str.join ", " []).length = 0 := rfl
    omega
  | cons t r =>
    have := join_length_add (t :: r) (List.cons_ne_nil _ _)
    omega
theorem piled_len {n : Nat} : ∀ {ts : List Str}, (∀ t ∈ ts, t.length ≤ n) → piled ts ≤ ts.length * (n + 2)
  | [], _ => by simp [piled]
  | t :: r, h => by
    have h1 := h t (List.mem_cons_self ..)
    have h2 := piled_len fun u hu => h u (List.mem_cons_of_mem _ hu)
    rw [piled_cons, List.length_cons, Nat.succ_mul]
    omega
theorem shownAll_map : ∀ xs : List PyData, PyData.shownAll xs = xs.map PyData.shown
  | [] => rfl
  | x :: xs => by rw [PyData.shownAll, shownAll_map xs]; rfl
theorem showAll_of : ∀ {xs : List PyData}, (∀ x ∈ xs, x.showable = true) → PyData.showableAll xs = true
  | [], _ => rfl
  | x :: xs, h => by
    rw [PyData.showableAll, h x (List.mem_cons_self ..), showAll_of fun y hy => h y (List.mem_cons_of_mem _ hy)]; rfl
theorem hasDictAll_of : ∀ {xs : List PyData}, (∀ x ∈ xs, x.hasDict = false) → PyData.hasDictAll xs = false
  | [], _ => rfl
  | x :: xs, h => by
    rw [PyData.hasDictAll, h x (List.mem_cons_self ..), hasDictAll_of fun y hy => h y (List.mem_cons_of_mem _ hy)]; rfl
end
end DL
namespace RW
open PySem PySem.Spec PyProof.Rows L2 DL
theorem bb_repr : bootBuiltins "repr" = some (.builtin "repr") := by decide +kernel
/-! ### the text of links -/
theorem num_len : ∀ n : Nat, n < 200 → (PyData.int (n : Nat)).shown.length ≤ 3 := by decide +kernel
theorem num_show (n : Nat) (h : n < 200) : (PyData.int (n : Nat)).showable = true := by
  unfold PyData.showable
  exact decide_eq_true (log_small (by omega))
theorem dS_shown {x : St2} (h1 : x.1 < 200) (h2 : x.2 < 200) : (dS x).shown.length ≤ 13 := by
  unfold dS
  rw [PyData.shown]
  refine Nat.le_trans (tupleText_len _) ?_
  rw [shownAll_map]
  have a := num_len _ h1
  have b := num_len _ h2
  rw [List.map_cons, List.map_cons, List.map_nil, piled_cons, piled_cons, piled_nil]
  omega
theorem dS_show {x : St2} (h1 : x.1 < 200) (h2 : x.2 < 200) : (dS x).showable = true := by
  unfold dS
  rw [PyData.showable]
  refine showAll_of fun y hy => ?_
  rcases List.mem_cons.mp hy with rfl | hy
  · exact num_show _ h1
  · rw [List.mem_singleton.mp hy]; exact num_show _ h2
theorem b_len : (PyData.str "beside").shown.length ≤ 20 := by decide +kernel
theorem d_len (d : Bool) : (PyData.str (if d then "along" else "against")).shown.length ≤ 20 := by revert d; decide +kernel
section
variable {S : List L} {k : Nat} {ws : List (List L)} {rows : List (List St2)}
theorem sd_200 (hw : Wok S ws) {x : St2} (hx : x ∈ sds ws) : x.1 < 200 ∧ x.2 < 200 := by
  have m := mem_sds.mp hx
  have n := hw.n
  have l := wy_len hw hx
  omega
theorem lk_m (hw : Wok S ws) {d : Bool} {x y : St2} {m : Nat} (hx : x ∈ sds ws) (hy : y ∈ sds ws) (h : isLk (sysOf hw.w) (.al d x y m)) : m < 200 := by
  have lx := wy_len hw hx
  have ly := wy_len hw hy
  have : m ≤ rmo ws x y := by
    cases d with
    | true => exact ((alT_iff hw.w hx hy).mp h).2.2.1
    | false => exact ((alF_iff hw.w hx hy).mp h).2.1
  unfold rmo at this
  omega
theorem lk_shown (hw : Wok S ws) {a : Lk St2} (h : isLk (sysOf hw.w) a) : (encLk a).shown.length ≤ 70 ∧ (encLk a).showable = true ∧ (encLk a).hasDict = false := by
  obtain ⟨m1, m2, _⟩ := isLk_ss h
  obtain ⟨a1, a2⟩ := sd_200 hw m1
  obtain ⟨b1, b2⟩ := sd_200 hw m2
  have s1 := dS_shown a1 a2
  have s2 := dS_shown b1 b2
  have t1 := dS_show a1 a2
  have t2 := dS_show b1 b2
  cases a with
  | bes x y =>
    refine ⟨?_, ?_, rfl⟩
    · show (tupleText _).length ≤ 70
      refine Nat.le_trans (tupleText_len _) ?_
      rw [shownAll_map, List.map_cons, List.map_cons, List.map_cons, List.map_nil, piled_cons, piled_cons, piled_cons, piled_nil]
      have := b_len
      have s1 : (dS x).shown.length ≤ 13 := s1
      have s2 : (dS y).shown.length ≤ 13 := s2
      omega
    · show PyData.showableAll _ = true
      refine showAll_of fun z hz => ?_
      rcases List.mem_cons.mp hz with rfl | hz
      · rfl
      rcases List.mem_cons.mp hz with rfl | hz
      · exact t1
      · rw [List.mem_singleton.mp hz]; exact t2
  | al d x y m =>
    have mm := lk_m hw m1 m2 h
    refine ⟨?_, ?_, rfl⟩
    · show (tupleText _).length ≤ 70
      refine Nat.le_trans (tupleText_len _) ?_
      rw [shownAll_map, List.map_cons, List.map_cons, List.map_cons, List.map_cons, List.map_nil, piled_cons, piled_cons, piled_cons, piled_cons, piled_nil]
      have := d_len d
      have := num_len _ mm
      have s1 : (dS x).shown.length ≤ 13 := s1
      have s2 : (dS y).shown.length ≤ 13 := s2
      omega
    · show PyData.showableAll _ = true
      refine showAll_of fun z hz => ?_
      rcases List.mem_cons.mp hz with rfl | hz
      · rfl
      rcases List.mem_cons.mp hz with rfl | hz
      · exact t1
      rcases List.mem_cons.mp hz with rfl | hz
      · exact t2
      · rw [List.mem_singleton.mp hz]; exact num_show _ mm
theorem depthAll_le {n : Nat} : ∀ {xs : List PyData}, (∀ x ∈ xs, x.depth ≤ n) → PyData.depthAll xs ≤ n
  | [], _ => by simp [PyData.depthAll]
  | x :: xs, h => by
    have h1 := h x (List.mem_cons_self ..)
    have h2 := depthAll_le fun y hy => h y (List.mem_cons_of_mem _ hy)
    rw [PyData.depthAll]; omega
/-- the told links' text is as long as may be -/
theorem cd_reprLk {X : Cx} {Φ : PyData → Prop} (hw : Wok S ws) (gu : X.A.guards = some []) (hu : X.A.units + 65 < cLine) (q : Φ (.str (PyData.tuple ((allLk hw.w).map encLk)).shown)) : CD X (.builtin "repr") [.val (.tuple ((allLk hw.w).map encLk))] Φ := by
  have all : ∀ z ∈ (allLk hw.w).map encLk, z.shown.length ≤ 70 ∧ z.showable = true ∧ z.hasDict = false ∧ z.depth ≤ 8 := fun z hz => by
    obtain ⟨a, ha, rfl⟩ := List.mem_map.mp hz
    obtain ⟨h1, h2, h3⟩ := lk_shown hw ((mem_allLk hw.w).mp ha)
    exact ⟨h1, h2, h3, encLk_depth a⟩
  refine cd_reprT gu hu ?_ ?_ ?_ ?_ q
  · rw [PyData.showable]; exact showAll_of fun z hz => (all z hz).2.1
  · rw [PyData.hasDict]; exact hasDictAll_of fun z hz => (all z hz).2.2.1
  · rw [PyData.depth]
    have := depthAll_le (n := 8) fun z hz => (all z hz).2.2.2
    omega
  · rw [PyData.shown]
    refine Nat.le_trans (tupleText_len _) ?_
    have := piled_len (n := 70) (ts := PyData.shownAll ((allLk hw.w).map encLk)) (fun t ht => by
      rw [shownAll_map] at ht
      obtain ⟨z, hz, rfl⟩ := List.mem_map.mp ht
      exact (all z hz).1)
    rw [shownAll_map, List.length_map, List.length_map] at this
    have l := allLk_len hw
    have := Nat.mul_le_mul_right (70 + 2) l
    rw [shownAll_map]
    have := sizeLine_eq
    omega
end
/-- ("many", 0) -/
def dMany : PyData := .tuple [.str "many", .int 0]
theorem cd_reprMany {X : Cx} {Φ : PyData → Prop} (gu : X.A.guards = some []) (hu : X.A.units + 65 < cLine) (q : Φ (.str dMany.shown)) : CD X (.builtin "repr") [.val dMany] Φ :=
  cd_reprT gu hu (by decide +kernel) (by decide +kernel) (Nat.le_of_ble_eq_true rfl) (by have : (PyData.tuple [.str "many", .int 0]).shown.length ≤ 100 := by decide +kernel
                                                                                         exact Nat.le_trans this (by decide)) q
section
variable {G : Glb} {C RC fI : Addr} {fd0 : FuncData} {mc : Value}
theorem tight_len {S : List L} {k : Nat} {ws : List (List L)} (hS : Sok S k) (hw : Wok S ws) : (allLk hw.w).length = (crl S ws (tightR hw.w k)).length :=
  (crl_tight hw.w (n := k) (fun c hc => (hS.mem c).mp hc) (allLk_nodup _) fun a => mem_allLk _).symm
def C_told : Con := fun ss Φ => ∃ (S : List L) (k : Nat) (ws : List (List L)) (hw : Wok S ws), Sok S k ∧ ss = [.val (dT S), .val (dWs ws), .val (.list ((allLk hw.w).map encLk))] ∧ Φ (.bool true)
theorem cal_told (F : Facts G) (np : NpC G.K G.mg C RC fI fd0 mc) : CalG G "_law_told_right" 9 C_told := by
  obtain ⟨f, fd, FD, hg⟩ := F.a_l_told_right
  refine calg_of (lv := 8) FD hg S_l_told_right bd_l_told_right kg_l_told_right (fun ss Φ h => ?_) (fun X T ss Φ h gu hp hc => ?_)
  · obtain ⟨_, _, _, _, _, rfl, _⟩ := h; rfl
  · obtain ⟨S, k, ws, hw, hS, rfl, q⟩ := hc
    have hu := un_ok h
    have hD := tight_dr hw.w hS
    have tl := tight_len hS hw
    refine sx_cons ?_; refine s1_set h 3 ?_; refine ev_call h (cal_crossing_paper F) 0 ?_; refine ea_val ?_; refine ev_name h 0 rfl ?_; refine ea_val ?_; refine ev_name h 1 rfl ?_; refine ea_nil ?_; refine ⟨S, k, ws, hw, hS, rfl, ?_⟩
    generalize tightR hw.w k = rows at hD tl
    refine sx_cons ?_; refine s1_if ?_; refine et_w ?_; refine ew_or ?_; refine et_not ?_; refine et_val ?_; refine ev_isi h 1 2 F.b_isinstance F.b_tuple bb_tuple ?_; refine ev_name h 3 rfl ?_; refine ⟨_, kb_tt, _, rfl, ?_⟩; refine ifF ?_
    refine ew_or ?_; refine et_cmp ?_; refine ev_len h 3 F.b_len ?_; refine ev_name h 3 rfl ?_; refine ⟨2, rfl, ?_⟩; refine ev_int ?_; refine od_neI ⟨false, rfl, ?_⟩; refine ifF ?_
    refine ew_or1 ?_; refine et_not ?_; refine et_val ?_; refine ev_call h (cal_lis_drawing F) 4 ?_; refine ea_val ?_; refine ev_name h 0 rfl ?_; refine ea_val ?_; refine ev_name h 1 rfl ?_; refine ea_val ?_; refine ev_ix ?_; refine ev_name h 3 rfl ?_; refine ev_int ?_; refine ix_T (d := dRows rows) rfl ?_; refine ea_nil ?_
    refine ⟨S, k, ws, rows, hS, hw, hD, rfl, _, rfl, ?_⟩; refine ifF ?_; refine sx_nil ?_
    refine sx_cons ?_; refine s1_if ?_; refine et_w ?_; refine ew_or ?_; refine et_cmp ?_; refine ev_callB h 5 F.b_repr bb_repr ?_; refine ea_val ?_; refine ev_ix ?_; refine ev_name h 3 rfl ?_; refine ev_int ?_; refine ix_T (d := .tuple ((allLk hw.w).map encLk)) rfl ?_; refine ea_nil ?_
    refine cd_reprLk hw gu hu ?_
    refine ev_callB h 5 F.b_repr bb_repr ?_; refine ea_val ?_; refine ev_callT h 2 F.b_tuple bb_tuple ?_; refine ea_val ?_; refine ev_name h 2 rfl ?_; refine ea_nil ?_; refine cd_tupL ?_; refine ea_nil ?_
    refine cd_reprLk hw gu hu ?_
    refine od_neS ⟨_, rfl, ?_⟩
    rw [decide_eq_true rfl]; refine ifF ?_
    refine ew_or1 ?_; refine et_cmp ?_; refine ev_len h 3 F.b_len ?_; refine ev_call h (cal_all_crossings F) 6 ?_; refine ea_val ?_; refine ev_name h 0 rfl ?_; refine ea_val ?_; refine ev_name h 1 rfl ?_; refine ea_val ?_; refine ev_ix ?_; refine ev_name h 3 rfl ?_; refine ev_int ?_; refine ix_T (d := dRows rows) rfl ?_; refine ea_nil ?_
    refine ⟨S, k, ws, rows, hS, hw, hD, rfl, (crl S ws rows).length, by simp [lenD], ?_⟩
    refine ev_len h 3 F.b_len ?_; refine ev_name h 2 rfl ?_; refine ⟨(allLk hw.w).length, by simp [lenD], ?_⟩
    refine od_neI ⟨_, rfl, ?_⟩
    rw [decide_eq_true (by omega)]; refine ifF ?_; refine sx_nil ?_
    refine sx_one ?_; refine s1_ret ?_; refine ev_cmp ?_; refine ev_call h (cal_asked F np) 7 ?_; refine ea_val ?_; refine ev_name h 0 rfl ?_; refine ea_val ?_; refine ev_name h 1 rfl ?_; refine ea_val ?_; refine ev_name h 3 rfl ?_; refine ea_nil ?_
    refine ⟨S, k, ws, rows, hw, hS, hD, rfl, fun _ => ?_, fun z => (z tl).elim⟩
    refine ev_bl ?_; refine od_isB ?_
    exact q
end
end RW
namespace RW
open PySem PySem.Spec PyProof.Rows L2 DL
/-- what is due: True, or ("many", 0) -/
def dDue (b : Bool) : PyData := if b then dMany else .bool true
theorem cd_reprDue {X : Cx} {Φ : PyData → Prop} (b : Bool) (gu : X.A.guards = some []) (hu : X.A.units + 65 < cLine) (q : Φ (.str (dDue b).shown)) : CD X (.builtin "repr") [.val (dDue b)] Φ := by
  cases b with
  | true => exact cd_reprMany gu hu q
  | false => exact cd_reprB q
theorem asked_due {n m : Nat} {b : Bool} (e2 : b = false → n = m) (e3 : b = true → n ≠ m) : (n = m → PyData.bool true = dDue b) ∧ (n ≠ m → PyData.tuple [.str "many", .int 0] = dDue b) := by
  cases b with
  | true => exact ⟨fun z => (e3 rfl z).elim, fun _ => rfl⟩
  | false => exact ⟨fun _ => rfl, fun z => (z (e2 rfl)).elim⟩
section
variable {G : Glb} {C RC fI : Addr} {fd0 : FuncData} {mc : Value}
theorem more_is {S : List L} {k : Nat} {ws : List (List L)} {rows : List (List St2)} (hS : Sok S k) (hw : Wok S ws) (hD : DrOk k ws rows) : decide (((allLk hw.w).length : Int) < ((crl S ws rows).length : Int)) = !decide ((allLk hw.w).length = (crl S ws rows).length) := by
  have := links_le_crl hw.w (hD.rows hS) (allLk_nodup hw.w) fun a => mem_allLk hw.w
  by_cases e : (allLk hw.w).length = (crl S ws rows).length
  · rw [decide_eq_true e, decide_eq_false (by omega)]; rfl
  · rw [decide_eq_false e, decide_eq_true (by omega)]; rfl
theorem ix_due {X : Cx} {Φ : PyData → Prop} (b : Bool) (q : Φ (dDue b)) : Ixd X (.list [.bool true, dMany]) (.int (if b then 1 else 0)) Φ := by
  cases b with
  | true => exact ix_L (d := dMany) rfl q
  | false => exact ix_L (d := .bool true) rfl q
def C_small_right : Con := fun ss Φ => ∃ (S : List L) (k : Nat) (ws : List (List L)), Sok S k ∧ Wok S ws ∧ hmn ws k ≤ 48 ∧ ss = [.tape, .val (dT S), .val (dWs ws)] ∧ Φ (.bool true)
theorem cal_small_right (F : Facts G) (np : NpC G.K G.mg C RC fI fd0 mc) : CalG G "_law_small_right" 10 C_small_right := by
  obtain ⟨f, fd, FD, hg⟩ := F.a_l_small_right
  refine calg_of (lv := 9) FD hg S_l_small_right bd_l_small_right kg_l_small_right (fun ss Φ h => ?_) (fun X T ss Φ h gu hp hc => ?_)
  · obtain ⟨_, _, _, _, _, _, rfl, _⟩ := h; rfl
  · obtain ⟨S, k, ws, hS, hw, hm, rfl, q⟩ := hc
    have hu := un_ok h
    refine sx_cons ?_; refine s1_set h 3 ?_; refine ev_call h (cal_every_link F) 0 ?_; refine ea_val ?_; refine ev_name h 1 rfl ?_; refine ea_val ?_; refine ev_name h 2 rfl ?_; refine ea_nil ?_; refine ⟨S, k, ws, hw, hS, rfl, ?_⟩
    refine sx_cons ?_; refine s1_set h 4 ?_; refine ev_call h (cal_every_drawing F) 1 ?_; refine ea_val ?_; refine ev_name h 1 rfl ?_; refine ea_val ?_; refine ev_name h 2 rfl ?_; refine ea_nil ?_; refine ⟨S, k, ws, hS, hw, hm, rfl, fun fs f0 f48 fok => ?_⟩
    refine sx_cons ?_; refine s1_set h 5 ?_; refine ev_call h (cal_draw F) 2 ?_; refine ea_tape h 0 rfl ?_; refine ea_val ?_; refine ev_len h 3 F.b_len ?_; refine ev_name h 4 rfl ?_; refine ⟨fs.length, by simp [lenD], ?_⟩; refine ea_nil ?_; refine ⟨_, by omega, by omega, rfl, fun a ha => ?_⟩
    refine sx_cons ?_; refine s1_setO h 6 ?_; refine ea_val ?_; refine ev_int ?_; refine ea_val ?_; refine ev_int ?_; refine ea_nil ?_; refine ⟨_, rfl, Nat.le_of_ble_eq_true rfl, ?_⟩
    refine sx_cons ?_; refine s1_for (is := [7]) hp h ?_; refine ei_list ?_; refine ev_bin ?_; refine ev_slice ?_; refine ev_name h 4 rfl ?_; refine eo_some ?_; refine ev_name h 5 rfl ?_; refine ⟨_, rfl, ?_⟩; refine eo_none ?_; refine sl_LD dRows ?_; rw [cut_from]
    refine ev_slice ?_; refine ev_name h 4 rfl ?_; refine eo_none ?_; refine eo_some ?_; refine ev_name h 5 rfl ?_; refine ⟨_, rfl, ?_⟩; refine sl_LD dRows ?_; rw [cut_to]
    refine od_addL (by simp only [List.length_map, List.length_take, List.length_drop]; omega) ?_
    rw [← List.map_append]
    refine ⟨_, rfl, ?_⟩
    refine ⟨fun i ρ => ∃ (l0 l1 : Int) (x y z : DL.S), ρ = [.tape, .val (dT S), .val (dWs ws), .val (.list ((allLk hw.w).map encLk)), .val (.list (fs.map dRows)), .val (.int (a : Nat)), .own [.int l0, .int l1], x, y, z], ⟨_, _, _, _, _, rfl⟩, fun i d ρ hd hI => ?_, fun ρ hI => ?_⟩
    · obtain ⟨l0, l1, x, y, z, rfl⟩ := hI
      rw [List.getElem?_map, Option.map_eq_some_iff] at hd
      obtain ⟨rows, hr, rfl⟩ := hd
      have hD : DrOk k ws rows := fok rows (by
        rcases List.mem_append.mp (List.mem_of_getElem? hr) with m | m
        · exact List.mem_of_mem_drop m
        · exact List.mem_of_mem_take m)
      have mi := more_is hS hw hD
      refine tg_name h 7 ?_
      refine sx_cons ?_; refine s1_set h 8 ?_; refine ev_callT h 4 F.b_int bb_int ?_; refine ea_val ?_; refine ev_cmp ?_; refine ev_len h 3 F.b_len ?_; refine ev_call h (cal_all_crossings F) 5 ?_; refine ea_val ?_; refine ev_name h 1 rfl ?_; refine ea_val ?_; refine ev_name h 2 rfl ?_; refine ea_val ?_; refine ev_name h 7 rfl ?_; refine ea_nil ?_
      refine ⟨S, k, ws, rows, hS, hw, hD, rfl, (crl S ws rows).length, by simp [lenD], ?_⟩
      refine ev_len h 3 F.b_len ?_; refine ev_name h 3 rfl ?_; refine ⟨(allLk hw.w).length, by simp [lenD], ?_⟩
      refine od_gt ?_
      rw [mi]
      refine ea_nil ?_; refine cd_intB ?_
      have e2 : (!decide ((allLk hw.w).length = (crl S ws rows).length)) = false → (allLk hw.w).length = (crl S ws rows).length := fun z => by simpa using z
      have e3 : (!decide ((allLk hw.w).length = (crl S ws rows).length)) = true → (allLk hw.w).length ≠ (crl S ws rows).length := fun z => by simpa using z
      generalize (!decide ((allLk hw.w).length = (crl S ws rows).length)) = b at e2 e3
      have ix2 : ∀ {X' : Cx} {Ψ : PyData → Prop}, (∀ l : Int, Ψ (.int l)) → Ixd X' (.list [.int l0, .int l1]) (.int (if b = true then 1 else 0)) Ψ := fun {X' Ψ} z => by
        cases b with
        | true => exact ix_L (d := .int l1) rfl (z l1)
        | false => exact ix_L (d := .int l0) rfl (z l0)
      refine sx_one ?_; refine s1_if ?_; refine et_cmp ?_; refine ev_view 6 rfl ?_; refine ev_ix ?_; refine ev_name h 6 rfl ?_; refine ev_name h 8 rfl ?_; refine ix2 fun l => ⟨rfl, ?_⟩
      refine ev_int ?_; refine od_gt ⟨_, rfl, ?_⟩
      cases hl : decide ((0 : Int) < l) with
      | false => refine ifF ?_; refine sx_nil ?_; exact ⟨_, _, _, _, _, rfl⟩
      | true =>
        refine ifT ?_
        refine sx_cons ?_; refine s1_setAt h 6 rfl ?_; refine ev_view 6 rfl ?_; refine ev_bin ?_; refine ev_ix ?_; refine ev_name h 6 rfl ?_; refine ev_name h 8 rfl ?_; refine ix2 fun l' => ?_
        refine ev_int ?_; refine od_sub ⟨rfl, ?_⟩
        refine ev_name h 8 rfl ?_
        refine ⟨if b = true then 1 else 0, by cases b <;> rfl, by cases b <;> exact Nat.le_of_ble_eq_true rfl, ?_⟩
        obtain ⟨m0, m1, em⟩ : ∃ m0 m1 : Int, ([.int l0, .int l1] : List PyData).set (if b = true then 1 else 0) (.int (l' - 1)) = [.int m0, .int m1] := by
          cases b with
          | true => exact ⟨_, _, rfl⟩
          | false => exact ⟨_, _, rfl⟩
        rw [em]
        refine sx_cons ?_; refine s1_set h 9 ?_; refine ev_ix ?_; refine ev_lst ?_; refine ea_val ?_; refine ev_bl ?_; refine ea_val ?_; refine ev_tup ?_; refine ea_val ?_; refine ev_str ?_; refine ea_val ?_; refine ev_int ?_; refine ea_nil ?_; refine ⟨_, rfl, Nat.le_of_ble_eq_true rfl, ?_⟩; refine ea_nil ?_; refine ⟨_, rfl, Nat.le_of_ble_eq_true rfl, ?_⟩
        refine ev_name h 8 rfl ?_; refine ix_due b ?_
        refine sx_one ?_; refine s1_if ?_; refine et_cmp ?_; refine ev_callB h 6 F.b_repr bb_repr ?_; refine ea_val ?_; refine Ev.mono (Φ := fun d => d = dDue b) ?_ fun d hd => ?_
        · refine ev_call h (cal_asked F np) 7 ?_; refine ea_val ?_; refine ev_name h 1 rfl ?_; refine ea_val ?_; refine ev_name h 2 rfl ?_
          refine ea_val ?_; refine ev_tup ?_; refine ea_val ?_; refine ev_name h 7 rfl ?_; refine ea_val ?_; refine ev_callT h 8 F.b_tuple bb_tuple ?_; refine ea_val ?_; refine ev_name h 3 rfl ?_; refine ea_nil ?_; refine cd_tupL ?_; refine ea_nil ?_; refine ⟨_, rfl, Nat.le_of_ble_eq_true rfl, ?_⟩
          refine ea_nil ?_
          exact ⟨S, k, ws, rows, hw, hS, hD, rfl, asked_due e2 e3⟩
        subst hd
        refine ea_nil ?_; refine cd_reprDue b gu hu ?_
        refine ev_callB h 6 F.b_repr bb_repr ?_; refine ea_val ?_; refine ev_name h 9 rfl ?_; refine ea_nil ?_; refine cd_reprDue b gu hu ?_
        refine od_neS ⟨_, rfl, ?_⟩
        rw [decide_eq_true rfl]; refine ifF ?_; refine sx_nil ?_
        exact ⟨_, _, _, _, _, rfl⟩
    · obtain ⟨l0, l1, x, y, z, rfl⟩ := hI
      refine sx_one ?_; refine s1_ret ?_; refine ev_callG h gu (cal_told F np) 9 ?_; refine ea_val ?_; refine ev_name h 1 rfl ?_; refine ea_val ?_; refine ev_name h 2 rfl ?_; refine ea_val ?_; refine ev_name h 3 rfl ?_; refine ea_nil ?_
      exact ⟨S, k, ws, hw, hS, rfl, q⟩
def C_great_right : Con := fun ss Φ => ∃ (S : List L) (k : Nat) (ws : List (List L)), Sok S k ∧ Wok S ws ∧ ss = [.tape, .val (dT S), .val (dWs ws)] ∧ Φ (.bool true)
theorem cal_great_right (F : Facts G) (np : NpC G.K G.mg C RC fI fd0 mc) : CalG G "_law_great_right" 10 C_great_right := by
  obtain ⟨f, fd, FD, hg⟩ := F.a_l_great_right
  refine calg_of (lv := 9) FD hg S_l_great_right bd_l_great_right kg_l_great_right (fun ss Φ h => ?_) (fun X T ss Φ h gu hp hc => ?_)
  · obtain ⟨_, _, _, _, _, rfl, _⟩ := h; rfl
  · obtain ⟨S, k, ws, hS, hw, rfl, q⟩ := hc
    have hu := un_ok h
    have tD := tight_dr hw.w hS
    refine sx_cons ?_; refine s1_set h 3 ?_; refine ev_call h (cal_every_link F) 0 ?_; refine ea_val ?_; refine ev_name h 1 rfl ?_; refine ea_val ?_; refine ev_name h 2 rfl ?_; refine ea_nil ?_; refine ⟨S, k, ws, hw, hS, rfl, ?_⟩
    refine sx_cons ?_; refine s1_if ?_; refine et_not ?_; refine et_val ?_; refine ev_callG h gu (cal_told F np) 1 ?_; refine ea_val ?_; refine ev_name h 1 rfl ?_; refine ea_val ?_; refine ev_name h 2 rfl ?_; refine ea_val ?_; refine ev_name h 3 rfl ?_; refine ea_nil ?_
    refine ⟨S, k, ws, hw, hS, rfl, _, rfl, ?_⟩; refine ifF ?_; refine sx_nil ?_
    refine sx_cons ?_; refine s1_set h 4 ?_; refine ev_ix ?_; refine ev_call h (cal_crossing_paper F) 2 ?_; refine ea_val ?_; refine ev_name h 1 rfl ?_; refine ea_val ?_; refine ev_name h 2 rfl ?_; refine ea_nil ?_; refine ⟨S, k, ws, hw, hS, rfl, ?_⟩
    generalize tightR hw.w k = rows0 at tD
    refine ev_int ?_; refine ix_T (d := dRows rows0) rfl ?_
    refine sx_cons ?_; refine s1_for (is := [5]) hp h ?_; refine ei_range1 h 3 F.b_range ?_; refine ev_int ?_; refine ⟨2, rfl, by decide, by decide, ?_⟩
    refine ⟨fun i ρ => ∃ (rows : List (List St2)) (x y z u : DL.S), ρ = [.tape, .val (dT S), .val (dWs ws), .val (.list ((allLk hw.w).map encLk)), .val (dRows rows), x, y, z, u] ∧ DrOk k ws rows, ⟨_, _, _, _, _, rfl, tD⟩, fun i d ρ hd hI => ?_, fun ρ hI => ?_⟩
    · obtain ⟨rows, x, y, z, u, rfl, hR⟩ := hI
      refine tg_name h 5 ?_
      refine sx_cons ?_; refine s1_set h 6 ?_; refine ev_call h (cal_swapped F) 4 ?_; refine ea_tape h 0 rfl ?_; refine ea_val ?_; refine ev_name h 4 rfl ?_; refine ea_nil ?_
      refine ⟨S, k, ws, rows, hS, hw, hR, rfl, fun other hD => ?_⟩
      have mi := more_is hS hw hD
      refine sx_cons ?_; refine s1_set h 7 ?_; refine ev_callT h 5 F.b_int bb_int ?_; refine ea_val ?_; refine ev_cmp ?_; refine ev_len h 6 F.b_len ?_; refine ev_call h (cal_all_crossings F) 7 ?_; refine ea_val ?_; refine ev_name h 1 rfl ?_; refine ea_val ?_; refine ev_name h 2 rfl ?_; refine ea_val ?_; refine ev_name h 6 rfl ?_; refine ea_nil ?_
      refine ⟨S, k, ws, other, hS, hw, hD, rfl, (crl S ws other).length, by simp [lenD], ?_⟩
      refine ev_len h 6 F.b_len ?_; refine ev_name h 3 rfl ?_; refine ⟨(allLk hw.w).length, by simp [lenD], ?_⟩
      refine od_gt ?_
      rw [mi]
      refine ea_nil ?_; refine cd_intB ?_
      have e2 : (!decide ((allLk hw.w).length = (crl S ws other).length)) = false → (allLk hw.w).length = (crl S ws other).length := fun z => by simpa using z
      have e3 : (!decide ((allLk hw.w).length = (crl S ws other).length)) = true → (allLk hw.w).length ≠ (crl S ws other).length := fun z => by simpa using z
      generalize (!decide ((allLk hw.w).length = (crl S ws other).length)) = b at e2 e3
      refine sx_cons ?_; refine s1_set h 8 ?_; refine ev_ix ?_; refine ev_lst ?_; refine ea_val ?_; refine ev_bl ?_; refine ea_val ?_; refine ev_tup ?_; refine ea_val ?_; refine ev_str ?_; refine ea_val ?_; refine ev_int ?_; refine ea_nil ?_; refine ⟨_, rfl, Nat.le_of_ble_eq_true rfl, ?_⟩; refine ea_nil ?_; refine ⟨_, rfl, Nat.le_of_ble_eq_true rfl, ?_⟩
      refine ev_name h 7 rfl ?_; refine ix_due b ?_
      refine sx_cons ?_; refine s1_if ?_; refine et_cmp ?_; refine ev_callB h 8 F.b_repr bb_repr ?_; refine ea_val ?_; refine Ev.mono (Φ := fun d => d = dDue b) ?_ fun d hd => ?_
      · refine ev_call h (cal_asked F np) 9 ?_; refine ea_val ?_; refine ev_name h 1 rfl ?_; refine ea_val ?_; refine ev_name h 2 rfl ?_
        refine ea_val ?_; refine ev_tup ?_; refine ea_val ?_; refine ev_name h 6 rfl ?_; refine ea_val ?_; refine ev_callT h 10 F.b_tuple bb_tuple ?_; refine ea_val ?_; refine ev_name h 3 rfl ?_; refine ea_nil ?_; refine cd_tupL ?_; refine ea_nil ?_; refine ⟨_, rfl, Nat.le_of_ble_eq_true rfl, ?_⟩
        refine ea_nil ?_
        exact ⟨S, k, ws, other, hw, hS, hD, rfl, asked_due e2 e3⟩
      subst hd
      refine ea_nil ?_; refine cd_reprDue b gu hu ?_
      refine ev_callB h 8 F.b_repr bb_repr ?_; refine ea_val ?_; refine ev_name h 8 rfl ?_; refine ea_nil ?_; refine cd_reprDue b gu hu ?_
      refine od_neS ⟨_, rfl, ?_⟩
      rw [decide_eq_true rfl]; refine ifF ?_; refine sx_nil ?_
      refine sx_one ?_; refine s1_if ?_; refine et_cmp ?_; refine ev_name h 7 rfl ?_; refine ev_int ?_; refine od_eqI ⟨_, rfl, ?_⟩
      cases b with
      | true => refine ifF ?_; refine sx_nil ?_; exact ⟨_, _, _, _, _, rfl, hR⟩
      | false =>
        refine ifT ?_; refine sx_one ?_; refine s1_set h 4 ?_; refine ev_name h 6 rfl ?_
        exact ⟨_, _, _, _, _, rfl, hD⟩
    · obtain ⟨rows, x, y, z, u, rfl, hR⟩ := hI
      refine sx_one ?_; refine s1_ret ?_; refine ev_bl ?_
      exact q
end
end RW
namespace RW
open PySem PySem.Spec PyProof.Rows L2 DL
section
variable {G : Glb} {C RC fI : Addr} {fd0 : FuncData} {mc : Value}
theorem wok_of {S : List L} {k n : Nat} {ws : List (List L)} (hS : Sok S k) (hn : n ≤ 64) (n3 : ws.length ≤ 3) (h : ∀ w ∈ ws, Way S w ∧ w.length ≤ n) : Wok S ws := ⟨⟨fun w hw => (h w hw).1, sok_bk hS⟩, n3, fun v hv => Nat.le_trans (h v hv).2 hn⟩
/-- the law behind its tape -/
theorem law_rest (F : Facts G) (np : NpC G.K G.mg C RC fI fd0 mc) {X : Cx} {T : Tape} (h : XOk G N_law (defScope (top 80)) K_law G_law true 10 X) (gu : X.A.guards = some []) (hp : PassesOwn (model X.prog X.w) X.A X.env X.xe) :
    Sx X T [.emp, .tape, .emp, .emp, .emp, .emp] ((defBody (top 80)).drop 1) ⟨fun _ => False, fun d => d = .bool true, fun _ => False, fun _ => False⟩ := by
  refine sx_cons ?_; refine s1_for (is := [2]) hp h ?_; refine ei_range1 h 1 F.b_range ?_; refine ev_int ?_; refine ⟨2, rfl, by decide, by decide, ?_⟩
  refine ⟨fun i ρ => ∃ (a b c d : DL.S), ρ = [.emp, .tape, a, b, c, d], ⟨_, _, _, _, rfl⟩, fun i d ρ hd hI => ?_, fun ρ hI => ?_⟩
  · obtain ⟨a, b, c, d', rfl⟩ := hI
    obtain ⟨hi, rfl⟩ := rng_get hd
    refine tg_name h 2 ?_
    refine sx_cons ?_; refine s1_set h 3 ?_; refine ev_call h (cal_any_row F) 2 ?_; refine ea_tape h 1 rfl ?_; refine ea_val ?_; refine ev_int ?_; refine ea_nil ?_
    refine ⟨rfl, fun S k hS => ?_⟩
    have hl := hS.ln
    have h6 := hS.k6
    have h1 := hS.k1
    refine sx_cons ?_; refine s1_set h 4 ?_; refine ev_bin ?_; refine ev_len h 3 F.b_len ?_; refine ev_name h 3 rfl ?_; refine ⟨S.length, lenW (by omega), ?_⟩; refine ev_int ?_; refine od_div ⟨by decide, by decide⟩ ?_
    rw [show ((S.length : Nat) : Int) / 2 = ((k : Nat) : Int) by omega]
    refine sx_cons ?_; refine s1_if ?_; refine et_not ?_; refine et_val ?_; refine ev_callG h gu (cal_small_right F np) 4 ?_; refine ea_tape h 1 rfl ?_; refine ea_val ?_; refine ev_name h 3 rfl ?_
    refine ea_val ?_; refine ev_call h (cal_small F) 5 ?_; refine ea_tape h 1 rfl ?_; refine ea_val ?_; refine ev_name h 4 rfl ?_; refine ea_val ?_; refine ev_name h 3 rfl ?_; refine ea_val ?_; refine ev_int ?_; refine ea_nil ?_
    refine ⟨S, k, hS, rfl, fun ws n1 n3 hw hm => ?_⟩
    refine ea_nil ?_
    refine ⟨S, k, ws, hS, wok_of hS (by decide) n3 hw, hm, rfl, _, rfl, ?_⟩; refine ifF ?_; refine sx_nil ?_
    refine sx_cons ?_; refine s1_set h 5 ?_; refine ev_call h (cal_some_ways F) 6 ?_; refine ea_tape h 1 rfl ?_; refine ea_val ?_; refine ev_name h 4 rfl ?_; refine ea_val ?_; refine ev_int ?_
    refine ea_val ?_; refine ev_ix ?_; refine ev_lst ?_; refine ea_val ?_; refine ev_int ?_; refine ea_val ?_; refine ev_int ?_; refine ea_val ?_; refine ev_int ?_; refine ea_nil ?_; refine ⟨_, rfl, Nat.le_of_ble_eq_true rfl, ?_⟩
    refine ev_call h (cal_draw F) 7 ?_; refine ea_tape h 1 rfl ?_; refine ea_val ?_; refine ev_int ?_; refine ea_nil ?_; refine ⟨3, by decide, by decide, rfl, fun r hr => ?_⟩
    obtain ⟨m, m1, m9, em⟩ : ∃ m : Nat, 1 ≤ m ∧ m ≤ 9 ∧ atI ([.int 5, .int 7, .int 9] : List PyData) (r : Int) = some (.int m) := by
      match r, hr with
      | 0, _ => exact ⟨5, by decide, by decide, rfl⟩
      | 1, _ => exact ⟨7, by decide, by decide, rfl⟩
      | 2, _ => exact ⟨9, by decide, by decide, rfl⟩
      | r + 3, hr => exact absurd hr (by omega)
    refine ix_L em ?_
    refine ea_nil ?_
    refine ⟨S, k, m, hS, m1, m9, rfl, fun vs v1 v3 hv => ?_⟩
    have fin : ∀ us : List (List L), Wok S us → Sx X T [.emp, .tape, .val (.int (0 + (i : Int))), .val (dT S), .val (.int (k : Nat)), .val (dWs us)] ((match (defBody (top 80)).getD 1 (.Pass ⟨0, 0, 0, 0⟩) with | .For _ _ b _ _ => b | _ => []).drop 5) { nx := fun ρ => ∃ (a b c d : DL.S), ρ = [.emp, .tape, a, b, c, d], rt := fun d => d = .bool true, bk := fun ρ => Sx X T ρ ((defBody (top 80)).drop 2) ⟨fun _ => False, fun d => d = .bool true, fun _ => False, fun _ => False⟩, ct := fun ρ => ∃ (a b c d : DL.S), ρ = [.emp, .tape, a, b, c, d] } := fun us hw => by
      refine sx_one ?_; refine s1_if ?_; refine et_not ?_; refine et_val ?_; refine ev_callG h gu (cal_great_right F np) 9 ?_; refine ea_tape h 1 rfl ?_; refine ea_val ?_; refine ev_name h 3 rfl ?_; refine ea_val ?_; refine ev_name h 5 rfl ?_; refine ea_nil ?_
      refine ⟨S, k, us, hS, hw, rfl, _, rfl, ?_⟩; refine ifF ?_; refine sx_nil ?_
      exact ⟨_, _, _, _, rfl⟩
    have f1 := fin vs (wok_of hS (by omega) v3 hv)
    refine sx_cons ?_; refine s1_if ?_; refine et_w ?_; refine ew_and ?_; refine et_cmp ?_; refine ev_name h 2 rfl ?_; refine ev_int ?_; refine od_eqI ⟨_, rfl, ?_⟩
    cases decide ((0 : Int) + (i : Int) = 1) with
    | false => refine ifF ?_; refine ifF ?_; refine sx_nil ?_; exact f1
    | true =>
      refine ifT ?_; refine ew_and ?_; refine et_cmp ?_; refine ev_name h 4 rfl ?_; refine ev_int ?_; refine od_gt ⟨_, rfl, ?_⟩
      by_cases k2 : 2 ≤ k
      · rw [decide_eq_true (by omega)]; refine ifT ?_; refine ew_and1 ?_; refine et_cmp ?_; refine ev_call h (cal_draw F) 7 ?_; refine ea_tape h 1 rfl ?_; refine ea_val ?_; refine ev_int ?_; refine ea_nil ?_; refine ⟨16, by decide, by decide, rfl, fun z hz => ?_⟩
        refine ev_int ?_; refine od_eqI ⟨_, rfl, ?_⟩
        cases decide ((z : Int) = 0) with
        | false => refine ifF ?_; refine sx_nil ?_; exact f1
        | true =>
          refine ifT ?_; refine sx_one ?_; refine s1_set h 5 ?_; refine ev_call h (cal_long_pair F) 8 ?_; refine ea_tape h 1 rfl ?_; refine ea_val ?_; refine ev_name h 4 rfl ?_; refine ea_nil ?_
          refine ⟨S, k, hS, k2, rfl, fun u v hu lu hv' lv => ?_⟩
          exact fin [u, v] (wok_of (n := 17) hS (by decide) (Nat.le_of_ble_eq_true rfl) fun w hw => by
            rcases List.mem_cons.mp hw with rfl | hw
            · exact ⟨hu, lu⟩
            · rw [List.mem_singleton.mp hw]; exact ⟨hv', lv⟩)
      · rw [decide_eq_false (by omega)]; refine ifF ?_; refine ifF ?_; refine sx_nil ?_; exact f1
  · obtain ⟨a, b, c, d, rfl⟩ := hI
    refine sx_one ?_; refine s1_ret ?_; refine ev_bl ?_
    rfl
/-- the tape, made of the script -/
def spTape (K : PySem.W.Frag) : Sp := fun vs H Q _ => ∃ (a : Addr) (ns : List Int), vs = [.ref a] ∧ SqL K H a (ns.map V.int) ∧ ns.length ≤ 63 ∧ ∀ (H' : Hp) (p c : Addr), H' c = some (.lst (ns.map V.int)) → H' p = some (.lst [.ref c, .int 0, .int 0, .int 0]) → c ≠ p → Q (.ref p) H'
theorem tape_ok (F : Facts G) : ∃ f fd, G.mg "_law_tape" = some (.ref f) ∧ PySem.W.keepIn G.K (.ref f) = true ∧ Binds G.K fd ["_law_script"] [] ∧ FnOk G.P G.w G.K G.mg G.base CX0 1 f fd ["_law_script"] (spTape G.K) := by
  obtain ⟨f, fd, FD, hg⟩ := F.a_l_tape
  refine ⟨f, fd, hg, FD.kp, FD.bindsN bd_l_tape, ?_⟩
  refine FunD.ok FD S_l_tape (fun vs H Q E h => ?_) (fun cdv A outer s H vs Q E hr h => ?_)
  · obtain ⟨_, _, rfl, _⟩ := h; rfl
  · obtain ⟨a, ns, rfl, hq, hl, k⟩ := h
    have kg := kg_l_tape
    rw [Bool.and_eq_true] at kg
    have ok := (xok_fn (CX := CX0) (P := G.P) (w := G.w) (K := G.K) (mg := G.mg) (base := G.base) (qual := "_law_tape") (f := f) (cd := cdv) (A := A) (outer := outer) (s := s) (H := H) (E := E) S_l_tape kg.1 kg.2 hr).nox
    refine ⟨_, PSs.nox (pss_one (ps_ret (pe_lst (pa_cons (pe_callTy call_list_of (ok.gl (j := 0) rfl) F.b_list bb_list (pa_cons (pe_slice sl_list (ok.var 0) po_none (po_some pe_int)) pa_nil rfl) (by decide) (by decide) rfl rfl) (pa_cons pe_int (pa_cons pe_int (pa_cons pe_int pa_nil rfl) rfl) rfl) rfl)))), ?_⟩
    have ec : cutV (ns.map V.int) none (some 63) = ns.map V.int := by
      unfold cutV
      rw [show HT.sIx (ns.map V.int).length 0 none = 0 from rfl, show (some (63 : Int)) = some ((63 : Nat) : Int) from rfl, HT.sIx_nat, List.drop_zero, List.length_map, Nat.min_eq_right hl, Nat.sub_zero]
      exact List.take_of_length_le (by rw [List.length_map]; exact Nat.le_refl _)
    refine ⟨_, rfl, 63, rfl, a, _, rfl, hq, fun p1 h1 => ?_⟩
    rw [ec]
    refine ⟨p1, _, rfl, .inl (SqL.of upd_same), fun c hc => ⟨by show 4 ≤ sizeLine; decide, fun p hp => ?_⟩⟩
    have ne : c ≠ p := fun z => by subst z; rw [upd_same] at hp; cases hp
    refine k _ p c ?_ upd_same ne
    rw [upd_ne ne, upd_same]
def spLaw (K : PySem.W.Frag) : Sp := fun vs H Q _ => ∃ (a : Addr) (ns : List Int), vs = [.ref a] ∧ SqL K H a (ns.map V.int) ∧ ns.length ≤ 63 ∧ ∀ H', Q (.bl true) H'
theorem law_ok (F : Facts G) (np : NpC G.K G.mg C RC fI fd0 mc) {f : Addr} {fd : FuncData} (FD : FunD G.K "law" "law" (defArgs (top 80)) (defBody (top 80)) (defScope (top 80)) [] [] f fd) : FnG G.P G.w G.K G.mg G.base 11 f fd ["_law_script"] (spLaw G.K) := by
  obtain ⟨fT, fdT, hT, kT, bT, FT⟩ := tape_ok F
  refine fng_of FD S_law (fun vs H Q E h => ?_) (fun cdv A outer s H vs Q E gu hr h => ?_)
  · obtain ⟨_, _, rfl, _⟩ := h; rfl
  · obtain ⟨a, ns, rfl, hq, hl, k⟩ := h
    have kg := kg_law
    rw [Bool.and_eq_true] at kg
    have ok := (xok_fn (CX := CX0) (P := G.P) (w := G.w) (K := G.K) (mg := G.mg) (base := G.base) (qual := "law") (f := f) (cd := cdv) (A := A) (outer := outer) (s := s) (H := H) (E := E) S_law kg.1 kg.2 hr).nox
    have gu2 : (cxOf CX0 G.P G.w G.K G.mg G.base N_law "law" (defScope (top 80)) f cdv A outer s H E).nox.A.guards = some [] := gu
    have hp : PassesOwn (model (cxOf CX0 G.P G.w G.K G.mg G.base N_law "law" (defScope (top 80)) f cdv A outer s H E).nox.prog (cxOf CX0 G.P G.w G.K G.mg G.base N_law "law" (defScope (top 80)) f cdv A outer s H E).nox.w) (cxOf CX0 G.P G.w G.K G.mg G.base N_law "law" (defScope (top 80)) f cdv A outer s H E).nox.A (cxOf CX0 G.P G.w G.K G.mg G.base N_law "law" (defScope (top 80)) f cdv A outer s H E).nox.env (cxOf CX0 G.P G.w G.K G.mg G.base N_law "law" (defScope (top 80)) f cdv A outer s H E).nox.xe := PassesOwn.never
    have eP : (cxOf CX0 G.P G.w G.K G.mg G.base N_law "law" (defScope (top 80)) f cdv A outer s H E).nox.prog = G.P := rfl
    refine ⟨_, PSs.nox pss_wss, ?_⟩
    generalize (cxOf CX0 G.P G.w G.K G.mg G.base N_law "law" (defScope (top 80)) f cdv A outer s H E).nox = X at ok gu2 hp
    have nd : X.N.Nodup := by rw [ok.eN]; exact ok.nd
    have l1 := ok.loc (i := 1) rfl rfl rfl
    have FT2 : FnOk X.prog X.w X.K X.mg X.base CX0 1 fT fdT ["_law_script"] (spTape G.K) := by rw [ok.eP, ok.ew, ok.eK, ok.eg, ok.eb]; exact FT
    refine wss_of (pss_cons (ps_set (i := 1) nd (by rw [ok.eN]; rfl) l1.1 (pe_call FT2 (ok.room.mono (by decide)) (ok.gl (j := 0) rfl) (by rw [ok.eg]; exact hT) (by rw [ok.eK]; exact kT) (by rw [ok.eK]; exact bT) .nil pass0 (pa_cons (ok.var 0) pa_nil rfl)) rfl l1.2) pss_wss) ?_
    refine ⟨_, rfl, a, ns, rfl, hq, hl, fun H' p c hc hp' ne => ?_⟩
    have rest := law_rest (T := some (p, c)) F np ok gu2 hp
    refine rest ((fun b => if b = c then some (.lst (ns.map V.int)) else none), H') _ (fun b => if b = c then some (.lst (ns.map V.int)) else none) H' _ ?_ ⟨fun _ _ _ _ _ z => z.elim, fun v d B2 H2 st r e => ?_, fun _ _ _ _ _ z => z.elim, fun _ _ _ _ _ z => z.elim⟩
    · have sm : Same (fun b => if b = c then some (.lst (ns.map V.int)) else none) H' := fun b o z => by
        have z : (if b = c then some (HO.lst (ns.map V.int)) else none) = some o := z
        split at z
        · rename_i e; cases z; rw [e]; exact hc
        · cases z
      have tp : Tp (some (p, c)) (fun b => if b = c then some (.lst (ns.map V.int)) else none) H' := fun p2 c2 z => by
        cases z
        exact ⟨if_neg (Ne.symm ne), ns, 0, 0, 0, hp', if_pos rfl, hl⟩
      have noo : ∀ (i : Nat) (ds : List PyData), ([.emp, .tape, .emp, .emp, .emp, .emp] : List DL.S)[i]? ≠ some (.own ds) := fun i ds z => by
        match i, z with
        | 0, z | 1, z | 2, z | 3, z | 4, z | 5, z => cases z
        | i + 6, z => cases z
      refine ⟨rfl, sm, tp, fun i x hi => ?_, fun i j p2 ds es _ z => (noo i ds z).elim, fun i p2 ds z => (noo i ds z).elim, Step.refl sm tp⟩
      match i, hi with
      | 0, hi => cases hi; trivial
      | 1, hi => cases hi; exact ⟨p, c, rfl, rfl⟩
      | 2, hi | 3, hi | 4, hi | 5, hi => cases hi; trivial
      | i + 6, hi => cases hi
    · subst e
      cases r
      exact k H2
end
end RW
namespace DL
open PySem PySem.Spec PyProof.Rows L2
/-- the script alone may be tracked -/
def Hs (t : Bool) (a : Addr) (vs : List Value) (ns : List Int) : Hp := fun b => if t = true ∧ b = a then some (.frz { cls := .type "list", data := .seq vs.toArray } (.lst (ns.map V.int))) else none
theorem hs_some {t : Bool} {a b : Addr} {vs : List Value} {ns : List Int} {o : HO} (h : Hs t a vs ns b = some o) : t = true ∧ b = a ∧ o = .frz { cls := .type "list", data := .seq vs.toArray } (.lst (ns.map V.int)) := by
  unfold Hs at h
  split at h
  · rename_i z; exact ⟨z.1, z.2, (Option.some.inj h).symm⟩
  · cases h
section
variable {P : Program} {w : World} {K : PySem.W.Frag} {mg mb : Str → Option Value} {k : Nat} {fa a : Addr} {fd : FuncData} {x : Str} {sp : Sp} {s : Shared} {vs : List Value} {ns : List Int}
theorem law_g (Ks : K.In s.heap) (gs : s.heap.Ns mainGlobals mg) (bs : s.heap.Ns builtinsNs mb) (bn : ∀ x : Str, x ≠ "__name__" → mb x = bootBuiltins x) (lim : s.heap.NoLimit) (gn : s.gens = #[])
    (at_ : s.heap.get? a = some { cls := .type "list", data := .seq vs.toArray }) (is : IntsAre vs ns) (few : ns.length ≤ sizeLine) (room : Room k callerA) (F : ∀ base : Heap, K.In base → base.Ns mainGlobals mg → FnG P w K mg base k fa fd [x] sp)
    (bi : ∀ (s : Shared) (u : Value), BindsTo s fd ⟨[u], []⟩ [(x, u)]) (go : ∀ H : Hp, SqL K H a (ns.map V.int) → sp [.ref a] H (fun v _ => v = .bl true) E0) :
    codeAny (model P w) callerA (.call (.ref fa) ⟨[.ref a], []⟩) (fun r s' => r = .ok (.ret (.bool true)) ∧ OldK s.heap s'.heap ∧ s'.os = s.os ∧ AllBare s'.gens) s := by
  obtain ⟨t, ht⟩ : ∃ t : Bool, t = (K.lookup a).isNone := ⟨_, rfl⟩
  have rel := vals_ints is
  have len := is.length
  have sq : SqL K (Hs t a vs ns) a (ns.map V.int) := by
    cases e : K.lookup a with
    | none =>
      rw [e] at ht
      exact .inl (.inr ⟨_, if_pos ⟨ht, rfl⟩⟩)
    | some o =>
      have e2 := Ks a o e
      rw [at_] at e2
      cases e2
      exact .inr ⟨_, vs.toArray, _, e, rfl, rfl, rfl, by rw [List.size_toArray, len]; exact few, by simpa using rel⟩
  have hk : HOk P w (Hs t a vs ns) s.heap := fun b u z => by
    obtain ⟨_, rfl, rfl⟩ := hs_some z
    exact ⟨at_, by rw [List.length_map]; exact few, vs, _, rel, at_⟩
  have low : ∀ {b : Addr} {o : Obj}, s.heap.get? b = some o → b ≠ a ∨ t = false → (hidT s.heap (Hs t a vs ns)).get? b = some o := fun {b o} z q => hidT_get z (if_neg fun y => by
    rcases q with q | q
    · exact q y.2
    · rw [q] at y; cases y.1)
  have dicts : ∀ {b : Addr} {m : Str → Option Value}, s.heap.Ns b m → (hidT s.heap (Hs t a vs ns)).Ns b m := fun {b m} q => by
    obtain ⟨o, es, ep, z, d, r⟩ := q
    refine ⟨o, es, ep, low z (.inl fun y => ?_), d, r⟩
    subst y
    rw [at_] at z
    cases z
    exact absurd d (by intro d; cases d)
  have Kb : K.In (hidT s.heap (Hs t a vs ns)) := fun b o z => low (Ks b o z) (by
    by_cases y : b = a
    · subst y
      rw [z] at ht
      exact .inr ht
    · exact .inl y)
  have md : Mod K mg (hidT s.heap (Hs t a vs ns)) := by
    obtain ⟨mc, l1, l2⟩ := lim
    exact ⟨Kb, dicts gs, ⟨mb, dicts bs, bn⟩, mc, dicts l1, l2⟩
  have nofr : ∀ b : Addr, ¬ b ∈ frs [] := fun b z => nomatch (show b ∈ ([] : List Addr) from z)
  have env : Env0 P w K mg (hidT s.heap (Hs t a vs ns)) callerA [] s (Hs t a vs ns) := by
    refine ⟨rfl, md, fun b o z => of_hidT z, ?_, trivial, fun b z => (nofr b z).elim, hk, .of_eq gn⟩
    rw [hidT_size]
    exact Nat.le_refl _
  refine codeAny_mono ((F _ Kb (dicts gs)).go callerA [] s (Hs t a vs ns) ⟨[.ref a], []⟩ [.ref a] [.ref a] _ _ rfl room env (bi s (.ref a)) (.cons rfl .nil) (go _ sq)) ?_
  rintro r s' z
  match r, z with
  | .error _, z => exact z.elim
  | .ok .next, z => exact z.elim
  | .ok .brk, z => exact z.elim
  | .ok .cont, z => exact z.elim
  | .ok (.ret u), ⟨v, H2, o2, b2, un, ok2, rv, tr⟩ =>
    have tr : v = .bl true := tr
    subst tr
    obtain rfl : u = Value.bool true := rv
    refine ⟨rfl, OldK.of_keep fun b o y => ?_, o2, b2⟩
    cases q : Hs t a vs ns b with
    | none => exact un.keep b o y q (nofr b) (by simp)
    | some u =>
      obtain ⟨_, _, rfl⟩ := hs_some q
      have p1 := (hk b _ q).1
      rw [y] at p1
      cases p1
      exact (ok2 b _ (un.frzs b _ _ q)).1
end
/-- a law's end: F gives the written part, the def, the promise over every base -/
theorem walk_g {l : PySem.W.OpenLaw} {n k : Nat} {q : Program} {loose : List Str} {XP : (Str → Option Value) → Heap → Prop} {YP : World → Heap → Prop} {d : DefRec} {x : Str} (most : l.most = some n) (low : n ≤ sizeLine) (dfl : d.params.defaults = []) (room : Room k callerA)
    (F : ∀ (w : World) (mg : Str → Option Value) (fa : Addr) (h : Heap), YP w h → h.Ns mainGlobals mg → mg d.name = some (.ref fa) →
      ∃ (K : PySem.W.Frag) (fd : FuncData) (sp : Sp), K.In h ∧ (∀ (s : Shared) (u : Value), BindsTo s fd ⟨[u], []⟩ [(x, u)]) ∧ (∀ (H : Hp) (a : Addr) (ns : List Int), ns.length ≤ n → SqL K H a (ns.map V.int) → sp [.ref a] H (fun v _ => v = .bl true) E0) ∧
        ∀ base : Heap, K.In base → base.Ns mainGlobals mg → FnG l.prog w K mg base k fa fd [x] sp) : PySem.W.WalkO q loose XP YP l.row.toRowW d [] (fun f vs => PySem.call f vs) := by
  apply Att.attach_call most dfl
  intro w s0 s1 mg mb fa o pm cd doc a vs ns G Y ho hd hcd hg1 obj isI len gens
  obtain ⟨K, fd, sp, KX, bi, go, FF⟩ := F w mg fa _ Y G.T.g hg1
  exact law_g KX G.T.g G.T.b G.T.builtins G.T.nolimit gens obj isI (Nat.le_trans len low) room FF bi fun H z => go H a ns len z
end DL
namespace RW
open PySem PySem.Spec PyProof.Rows L2 DL
/-! ### the refusal's class, looked at -/
def oexB (K : PySem.W.Frag) (C : Addr) : Bool := (match K.lookup C with
  | some ⟨.type t, _, .cls cd, sl⟩ => decide (t = "type") && (cd.hasDict && (!cd.hasDel && (match cd.mro, sl.toList with
    | .ref D :: bm, [_, _, _, _, some (.builtin n), _] => decide (D = C) && (decide (n = "ValueError.__new__") && PySem.HandSPX.refsVE bm)
    | _, _ => false)))
  | _ => false) && (decide (PySem.W.findIn K (.ref C) "__setattr__" = some (some (.builtin "object.__setattr__"))) && (decide (PySem.W.subIn K (.ref C) (.type "BaseException") = some true) && (decide (PySem.W.typeIn K (.ref C) = some (.type "type")) && PySem.W.keepIn K (.ref C))))
theorem ands {a b : Bool} (h : (a && b) = true) : a = true ∧ b = true := Bool.and_eq_true_iff.mp h
theorem oexB_ok {K : PySem.W.Frag} {C : Addr} (h : oexB K C = true) : OexC K C := by
  obtain ⟨h0, h⟩ := ands h
  obtain ⟨h1, h⟩ := ands h
  obtain ⟨h2, h⟩ := ands h
  obtain ⟨h3, h4⟩ := ands h
  refine ⟨?_, of_decide_eq_true h1, of_decide_eq_true h2, of_decide_eq_true h3, h4⟩
  clear h1 h2 h3 h4 h
  split at h0
  · rename_i t dd cd sl lk
    obtain ⟨e1, h0⟩ := ands h0
    obtain ⟨e2, h0⟩ := ands h0
    obtain ⟨e3, h0⟩ := ands h0
    split at h0
    · rename_i D bm k0 k1 k2 k3 n k5 hm hs
      obtain ⟨e4, h0⟩ := ands h0
      obtain ⟨e5, e6⟩ := ands h0
      have e1 : t = "type" := of_decide_eq_true e1
      have e4 : D = C := of_decide_eq_true e4
      have e5 : n = "ValueError.__new__" := of_decide_eq_true e5
      have e3 : cd.hasDel = false := by simpa using e3
      subst e1 e4 e5
      obtain ⟨nm, bs, mro, ns, qn, hd, sn, sub, ab, col, del⟩ := cd
      have e2 : hd = true := e2
      have e3 : del = false := e3
      have hm : mro = .ref D :: bm := hm
      subst e2 e3 hm
      obtain ⟨l⟩ := sl
      have hs : l = [k0, k1, k2, k3, some (.builtin "ValueError.__new__"), k5] := hs
      subst hs
      exact ⟨nm, qn, ns, bs, bm, sn, sub, ab, col, dd, k0, k1, k2, k3, k5, lk, e6⟩
    · cases h0
  · cases h0
abbrev cNp (K : PySem.W.Frag) : Addr := He.ga K "NoPaper"
abbrev cRe (K : PySem.W.Frag) : Addr := He.ga K "RingError"
abbrev iNp (K : PySem.W.Frag) : Addr := He.ma K (cNp K) "__init__"
def npB (K : PySem.W.Frag) : Bool := oexB K (cNp K) && (decide (PySem.W.findIn K (.ref (cNp K)) "__init__" = some (some (.ref (iNp K)))) && (decide (PySem.W.typeIn K (.ref (iNp K)) = some (.type "function")) && (decide (PySem.W.findIn K (.ref (cNp K)) "word" = some none) && (decide (PySem.W.findIn K (.ref (cNp K)) "at" = some none) &&
  (xfB K (cNp K) && (decide (PySem.W.exmOne K (.ref (cNp K)) (.ref (cNp K)) = some true) && (decide (PySem.W.specialIn K (.ref (cRe K)) "__getattribute__" = some (some (.builtin "type.__getattribute__"))) && (PySem.W.readsIn K (cRe K) (.type "type") && (match PySem.W.findCls K (.ref (cRe K)) (.type "type") "__init__" with
  | some (.val (.builtin b)) => decide (b = "ValueError.__init__")
  | _ => false)))))))))
theorem npB_ok {K : PySem.W.Frag} {mg : Str → Option Value} {fd : FuncData} (gC : mg "NoPaper" = some (.ref (cNp K))) (gR : mg "RingError" = some (.ref (cRe K))) (fn : FunD K "__init__" "NoPaper.__init__" (defArgs npI) (defBody npI) (defScope npI) [] [] (iNp K) fd) (h : npB K = true) : NpC K mg (cNp K) (cRe K) (iNp K) fd (.type "type") := by
  obtain ⟨h1, h⟩ := ands h
  obtain ⟨h2, h⟩ := ands h
  obtain ⟨h3, h⟩ := ands h
  obtain ⟨h4, h⟩ := ands h
  obtain ⟨h5, h⟩ := ands h
  obtain ⟨h6, h⟩ := ands h
  obtain ⟨h7, h⟩ := ands h
  obtain ⟨h8, h⟩ := ands h
  obtain ⟨h9, h⟩ := ands h
  refine ⟨gC, gR, oexB_ok h1, of_decide_eq_true h2, of_decide_eq_true h3, of_decide_eq_true h4, of_decide_eq_true h5, xfB_ok h6, of_decide_eq_true h7, of_decide_eq_true h8, h9, ?_, fn⟩
  split at h
  · rename_i b e
    have eb : b = "ValueError.__init__" := of_decide_eq_true h
    rw [e, eb]
  · cases h
/-! ### the Hook: facts, defs, the class; the interpreter's own table beside -/
abbrev AlN : Type := He.AlD × Bool
def obsN (fa : List He.Fa) (fn : List He.DefD) (K : PySem.W.Frag) : AlN := (He.obsD fa fn K, npB K)
def frN (n : Nat) (g : Addr → Option Obj) : PySem.W.Frag := He.frG g (He.asD g n ++ [cStatics])
def hookN (n : Nat) (fa : List He.Fa) (fn : List He.DefD) : PySem.W.Hook where
  α := AlN
  obs := fun s => obsN fa fn (frN n s.heap.get?)
  val := fun _ => (He.valD fn, true)
  says := fun _ h => ∃ K : PySem.W.Frag, K.In h ∧ obsN fa fn K = (He.valD fn, true)
  of := fun _ _ e => ⟨_, He.frG_in, e⟩
  keeps := fun _ _ _ y k => y.elim fun K z => ⟨K, PySem.W.Frag.In.keeps z.1 k, z.2⟩

def d_back_of : He.DefD := ⟨("back_of", none), "back_of", "back_of", defArgs (top 2), defBody (top 2), defScope (top 2), [], []⟩
def d_back : He.DefD := ⟨("back", none), "back", "back", defArgs (top 3), defBody (top 3), defScope (top 3), [], []⟩
def d_moved : He.DefD := ⟨("moved", none), "moved", "moved", defArgs (top 6), defBody (top 6), defScope (top 6), [], []⟩
def d_letter_at : He.DefD := ⟨("letter_at", none), "letter_at", "letter_at", defArgs (top 7), defBody (top 7), defScope (top 7), [], []⟩
def d_strands_of : He.DefD := ⟨("strands_of", none), "strands_of", "strands_of", defArgs (top 8), defBody (top 8), defScope (top 8), [], []⟩
def d_strands_through : He.DefD := ⟨("strands_through", none), "strands_through", "strands_through", defArgs (top 9), defBody (top 9), defScope (top 9), [], []⟩
def d_is_strand : He.DefD := ⟨("is_strand", none), "is_strand", "is_strand", defArgs (top 10), defBody (top 10), defScope (top 10), [], []⟩
def d_room_of : He.DefD := ⟨("room_of", none), "room_of", "room_of", defArgs (top 11), defBody (top 11), defScope (top 11), [], []⟩
def d_is_drawing : He.DefD := ⟨("is_drawing", none), "is_drawing", "is_drawing", defArgs (top 14), defBody (top 14), defScope (top 14), [], []⟩
def d_points : He.DefD := ⟨("points", none), "points", "points", defArgs (top 15), defBody (top 15), defScope (top 15), [], []⟩
def d_chords : He.DefD := ⟨("chords", none), "chords", "chords", defArgs (top 16), defBody (top 16), defScope (top 16), [], []⟩
def d_do_cross : He.DefD := ⟨("do_cross", none), "do_cross", "do_cross", defArgs (top 17), defBody (top 17), defScope (top 17), [], []⟩
def d_crossings : He.DefD := ⟨("crossings", none), "crossings", "crossings", defArgs (top 18), defBody (top 18), defScope (top 18), [], []⟩
def d_comes_first : He.DefD := ⟨("comes_first", none), "comes_first", "comes_first", defArgs (top 23), defBody (top 23), defScope (top 23), [], []⟩
def d_is_beside : He.DefD := ⟨("is_beside", none), "is_beside", "is_beside", defArgs (top 24), defBody (top 24), defScope (top 24), [], []⟩
def d_is_along : He.DefD := ⟨("is_along", none), "is_along", "is_along", defArgs (top 25), defBody (top 25), defScope (top 25), [], []⟩
def d_is_against : He.DefD := ⟨("is_against", none), "is_against", "is_against", defArgs (top 26), defBody (top 26), defScope (top 26), [], []⟩
def d_is_long : He.DefD := ⟨("is_long", none), "is_long", "is_long", defArgs (top 27), defBody (top 27), defScope (top 27), [], []⟩
def d_is_link : He.DefD := ⟨("is_link", none), "is_link", "is_link", defArgs (top 28), defBody (top 28), defScope (top 28), [], []⟩
def d_lets_crossing : He.DefD := ⟨("lets_crossing", none), "lets_crossing", "lets_crossing", defArgs (top 30), defBody (top 30), defScope (top 30), [], []⟩
def d_run_along : He.DefD := ⟨("run_along", none), "run_along", "run_along", defArgs (top 32), defBody (top 32), defScope (top 32), [], []⟩
def d_run_against : He.DefD := ⟨("run_against", none), "run_against", "run_against", defArgs (top 33), defBody (top 33), defScope (top 33), [], []⟩
def d_links_of : He.DefD := ⟨("links_of", none), "links_of", "links_of", defArgs (top 34), defBody (top 34), defScope (top 34), [], []⟩
def d_links : He.DefD := ⟨("links", none), "links", "links", defArgs (top 35), defBody (top 35), defScope (top 35), [], []⟩
def d_all_links : He.DefD := ⟨("all_links", none), "all_links", "all_links", defArgs (top 36), defBody (top 36), defScope (top 36), [], []⟩
def d_met_at : He.DefD := ⟨("met_at", none), "met_at", "met_at", defArgs (top 39), defBody (top 39), defScope (top 39), [], []⟩
def d_run_on : He.DefD := ⟨("run_on", none), "run_on", "run_on", defArgs (top 40), defBody (top 40), defScope (top 40), [], []⟩
def d_stands_first : He.DefD := ⟨("stands_first", none), "stands_first", "stands_first", defArgs (top 41), defBody (top 41), defScope (top 41), [], []⟩
def d_order_of : He.DefD := ⟨("order_of", none), "order_of", "order_of", defArgs (top 42), defBody (top 42), defScope (top 42), [], []⟩
def d_tight : He.DefD := ⟨("tight", none), "tight", "tight", defArgs (top 43), defBody (top 43), defScope (top 43), [], []⟩
def d_crossing_paper : He.DefD := ⟨("crossing_paper", none), "crossing_paper", "crossing_paper", defArgs (top 45), defBody (top 45), defScope (top 45), [], []⟩
def d_l_tape : He.DefD := ⟨("_law_tape", none), "_law_tape", "_law_tape", defArgs (top 47), defBody (top 47), defScope (top 47), [], []⟩
def d_l_draw : He.DefD := ⟨("_law_draw", none), "_law_draw", "_law_draw", defArgs (top 48), defBody (top 48), defScope (top 48), [], []⟩
def d_l_back : He.DefD := ⟨("_law_back", none), "_law_back", "_law_back", defArgs (top 49), defBody (top 49), defScope (top 49), [], []⟩
def d_l_any_row : He.DefD := ⟨("_law_any_row", none), "_law_any_row", "_law_any_row", defArgs (top 50), defBody (top 50), defScope (top 50), [], []⟩
def d_l_inner : He.DefD := ⟨("_law_inner", none), "_law_inner", "_law_inner", defArgs (top 51), defBody (top 51), defScope (top 51), [], []⟩
def d_l_rooted : He.DefD := ⟨("_law_rooted", none), "_law_rooted", "_law_rooted", defArgs (top 52), defBody (top 52), defScope (top 52), [], []⟩
def d_l_any_way : He.DefD := ⟨("_law_any_way", none), "_law_any_way", "_law_any_way", defArgs (top 53), defBody (top 53), defScope (top 53), [], []⟩
def d_l_some_ways : He.DefD := ⟨("_law_some_ways", none), "_law_some_ways", "_law_some_ways", defArgs (top 54), defBody (top 54), defScope (top 54), [], []⟩
def d_l_sooner : He.DefD := ⟨("_law_sooner", none), "_law_sooner", "_law_sooner", defArgs (top 55), defBody (top 55), defScope (top 55), [], []⟩
def d_l_sign : He.DefD := ⟨("_law_sign", none), "_law_sign", "_law_sign", defArgs (top 56), defBody (top 56), defScope (top 56), [], []⟩
def d_l_four_ends : He.DefD := ⟨("_law_four_ends", none), "_law_four_ends", "_law_four_ends", defArgs (top 57), defBody (top 57), defScope (top 57), [], []⟩
def d_l_run : He.DefD := ⟨("_law_run", none), "_law_run", "_law_run", defArgs (top 58), defBody (top 58), defScope (top 58), [], []⟩
def d_l_parted : He.DefD := ⟨("_law_parted", none), "_law_parted", "_law_parted", defArgs (top 59), defBody (top 59), defScope (top 59), [], []⟩
def d_l_linked_at : He.DefD := ⟨("_law_linked_at", none), "_law_linked_at", "_law_linked_at", defArgs (top 60), defBody (top 60), defScope (top 60), [], []⟩
def d_l_linked : He.DefD := ⟨("_law_linked", none), "_law_linked", "_law_linked", defArgs (top 61), defBody (top 61), defScope (top 61), [], []⟩
def d_l_every_link : He.DefD := ⟨("_law_every_link", none), "_law_every_link", "_law_every_link", defArgs (top 62), defBody (top 62), defScope (top 62), [], []⟩
def d_l_all_strands : He.DefD := ⟨("_law_all_strands", none), "_law_all_strands", "_law_all_strands", defArgs (top 63), defBody (top 63), defScope (top 63), [], []⟩
def d_l_all_spots : He.DefD := ⟨("_law_all_spots", none), "_law_all_spots", "_law_all_spots", defArgs (top 64), defBody (top 64), defScope (top 64), [], []⟩
def d_l_all_chords : He.DefD := ⟨("_law_all_chords", none), "_law_all_chords", "_law_all_chords", defArgs (top 65), defBody (top 65), defScope (top 65), [], []⟩
def d_l_crosses : He.DefD := ⟨("_law_crosses", none), "_law_crosses", "_law_crosses", defArgs (top 66), defBody (top 66), defScope (top 66), [], []⟩
def d_l_all_crossings : He.DefD := ⟨("_law_all_crossings", none), "_law_all_crossings", "_law_all_crossings", defArgs (top 67), defBody (top 67), defScope (top 67), [], []⟩
def d_l_is_strand : He.DefD := ⟨("_law_is_strand", none), "_law_is_strand", "_law_is_strand", defArgs (top 68), defBody (top 68), defScope (top 68), [], []⟩
def d_l_is_drawing : He.DefD := ⟨("_law_is_drawing", none), "_law_is_drawing", "_law_is_drawing", defArgs (top 69), defBody (top 69), defScope (top 69), [], []⟩
def d_l_every_order : He.DefD := ⟨("_law_every_order", none), "_law_every_order", "_law_every_order", defArgs (top 70), defBody (top 70), defScope (top 70), [], []⟩
def d_l_every_drawing : He.DefD := ⟨("_law_every_drawing", none), "_law_every_drawing", "_law_every_drawing", defArgs (top 71), defBody (top 71), defScope (top 71), [], []⟩
def d_l_how_many : He.DefD := ⟨("_law_how_many", none), "_law_how_many", "_law_how_many", defArgs (top 72), defBody (top 72), defScope (top 72), [], []⟩
def d_l_small : He.DefD := ⟨("_law_small", none), "_law_small", "_law_small", defArgs (top 73), defBody (top 73), defScope (top 73), [], []⟩
def d_l_long_pair : He.DefD := ⟨("_law_long_pair", none), "_law_long_pair", "_law_long_pair", defArgs (top 74), defBody (top 74), defScope (top 74), [], []⟩
def d_l_asked : He.DefD := ⟨("_law_asked", none), "_law_asked", "_law_asked", defArgs (top 75), defBody (top 75), defScope (top 75), [], []⟩
def d_l_told_right : He.DefD := ⟨("_law_told_right", none), "_law_told_right", "_law_told_right", defArgs (top 76), defBody (top 76), defScope (top 76), [], []⟩
def d_l_swapped : He.DefD := ⟨("_law_swapped", none), "_law_swapped", "_law_swapped", defArgs (top 77), defBody (top 77), defScope (top 77), [], []⟩
def d_l_small_right : He.DefD := ⟨("_law_small_right", none), "_law_small_right", "_law_small_right", defArgs (top 78), defBody (top 78), defScope (top 78), [], []⟩
def d_l_great_right : He.DefD := ⟨("_law_great_right", none), "_law_great_right", "_law_great_right", defArgs (top 79), defBody (top 79), defScope (top 79), [], []⟩
def d_law : He.DefD := ⟨("law", none), "law", "law", defArgs (top 80), defBody (top 80), defScope (top 80), [], []⟩
def d_init : He.DefD := ⟨("NoPaper", some "__init__"), "__init__", "NoPaper.__init__", defArgs npI, defBody npI, defScope npI, [], []⟩
def fnL0 : List He.DefD := [d_back_of, d_back, d_moved, d_letter_at, d_strands_of, d_strands_through, d_is_strand, d_room_of, d_is_drawing, d_points, d_chords, d_do_cross, d_crossings, d_comes_first, d_is_beside, d_is_along, d_is_against, d_is_long, d_is_link, d_lets_crossing, d_run_along, d_run_against, d_links_of, d_links, d_all_links, d_met_at, d_run_on, d_stands_first, d_order_of, d_tight]
def fnL1 : List He.DefD := [d_crossing_paper, d_l_tape, d_l_draw, d_l_back, d_l_any_row, d_l_inner, d_l_rooted, d_l_any_way, d_l_some_ways, d_l_sooner, d_l_sign, d_l_four_ends, d_l_run, d_l_parted, d_l_linked_at, d_l_linked, d_l_every_link, d_l_all_strands, d_l_all_spots, d_l_all_chords, d_l_crosses, d_l_all_crossings, d_l_is_strand, d_l_is_drawing, d_l_every_order, d_l_every_drawing, d_l_how_many, d_l_small, d_l_long_pair, d_l_asked]
def fnL2 : List He.DefD := [d_l_told_right, d_l_swapped, d_l_small_right, d_l_great_right, d_law, d_init]
def fnL : List He.DefD := fnL0 ++ fnL1 ++ fnL2
def faL0 : List He.Fa := [.glo "back_of", .glo "back", .glo "moved", .glo "letter_at", .glo "strands_of", .glo "strands_through", .glo "is_strand", .glo "room_of", .glo "is_drawing", .glo "points", .glo "chords", .glo "do_cross", .glo "crossings", .glo "comes_first", .glo "is_beside", .glo "is_along", .glo "is_against", .glo "is_long", .glo "is_link", .glo "lets_crossing", .glo "run_along", .glo "run_against", .glo "links_of", .glo "links", .glo "all_links", .glo "met_at", .glo "run_on", .glo "stands_first", .glo "order_of", .glo "tight"]
def faL1 : List He.Fa := [.glo "crossing_paper", .glo "_law_tape", .glo "_law_draw", .glo "_law_back", .glo "_law_any_row", .glo "_law_inner", .glo "_law_rooted", .glo "_law_any_way", .glo "_law_some_ways", .glo "_law_sooner", .glo "_law_sign", .glo "_law_four_ends", .glo "_law_run", .glo "_law_parted", .glo "_law_linked_at", .glo "_law_linked", .glo "_law_every_link", .glo "_law_all_strands", .glo "_law_all_spots", .glo "_law_all_chords", .glo "_law_crosses", .glo "_law_all_crossings", .glo "_law_is_strand", .glo "_law_is_drawing", .glo "_law_every_order", .glo "_law_every_drawing", .glo "_law_how_many", .glo "_law_small", .glo "_law_long_pair", .glo "_law_asked"]
def faL2 : List He.Fa := [.glo "_law_told_right", .glo "_law_swapped", .glo "_law_small_right", .glo "_law_great_right", .glo "law", .glo "RingError", .glo "NoPaper", .free "all", .free "bool", .free "dict", .free "enumerate", .free "int", .free "isinstance", .free "len", .free "list", .free "max", .free "min", .free "range", .free "repr", .free "set", .free "sorted", .free "str", .free "tuple", .str "SMALL_letters" "abcdef", .str "SMALL_strands" "abcdef", .str "SMALL_drawings" "abcdef", .str "SMALL_tight" "abcdef"]
def faL : List He.Fa := faL0 ++ faL1 ++ faL2
def loose0 : List Str := ["SMALL_letters", "back_of", "back", "SMALL_strands", "moved", "letter_at", "strands_of", "strands_through", "is_strand", "room_of", "SMALL_drawings", "is_drawing", "points", "chords", "do_cross", "crossings", "RingError", "NoPaper", "comes_first", "is_beside", "is_along", "is_against", "is_long", "is_link", "lets_crossing", "run_along", "run_against", "links_of", "links", "all_links"]
def loose1 : List Str := ["SMALL_tight", "met_at", "run_on", "stands_first", "order_of", "tight", "crossing_paper", "_law_tape", "_law_draw", "_law_back", "_law_any_row", "_law_inner", "_law_rooted", "_law_any_way", "_law_some_ways", "_law_sooner", "_law_sign", "_law_four_ends", "_law_run", "_law_parted", "_law_linked_at", "_law_linked", "_law_every_link", "_law_all_strands", "_law_all_spots", "_law_all_chords", "_law_crosses", "_law_all_crossings", "_law_is_strand", "_law_is_drawing"]
def loose2 : List Str := ["_law_every_order", "_law_every_drawing", "_law_how_many", "_law_small", "_law_long_pair", "_law_asked", "_law_told_right", "_law_swapped", "_law_small_right", "_law_great_right"]
def loose : List Str := loose0 ++ loose1 ++ loose2
abbrev R : PySem.W.OpenRow := PySem.W.OpenLaw.row PySem.Challenge.rw_ringwords_k42_whole_crossing_papers_of_a
abbrev hkN : PySem.W.Hook := hookN 4 faL fnL
def ob (s : PySem.W.SharedT) : AlN := obsN faL fnL (frN 4 (HandSHeadRun.getT s))
theorem ob_eq (s : PySem.W.SharedT) : ob s = hkN.obs s.abs := by
  have e : HandSHeadRun.getT s = s.abs.heap.get? := funext fun a => HandSHeadRun.getT_eq s a
  unfold ob
  rw [e]
  rfl
theorem run (w : World) : HandSHeadRun.RunEq R (PySem.W.view R.prog [80]) hkN ob 3000 loose w := by
  intro os
  kernel_rfl
section
variable {P : Program} {w : World} {K : PySem.W.Frag} {h : Heap} {mg : Str → Option Value} {base : Heap}
theorem at_of (X : K.In h) (G : h.Ns mainGlobals mg) (c : He.SaysD faL fnL K) {x : Str} {n : Nat} (i : Nat) (hd : fnL[i]? = some ⟨(x, none), x, x, defArgs (top n), defBody (top n), defScope (top n), [], []⟩) (hg : faL[i]? = some (.glo x)) : At ⟨P, w, K, mg, base⟩ x n := by
  obtain ⟨fd, F⟩ := c.def_ i hd
  exact ⟨_, fd, F, He.glo_ok X G (c.fact i hg)⟩
theorem facts (X : K.In h) (G : h.Ns mainGlobals mg) (c : He.SaysD faL fnL K) : Facts ⟨P, w, K, mg, base⟩ where
  a_back_of := at_of X G c 0 rfl rfl
  a_back := at_of X G c 1 rfl rfl
  a_moved := at_of X G c 2 rfl rfl
  a_letter_at := at_of X G c 3 rfl rfl
  a_strands_of := at_of X G c 4 rfl rfl
  a_strands_through := at_of X G c 5 rfl rfl
  a_is_strand := at_of X G c 6 rfl rfl
  a_room_of := at_of X G c 7 rfl rfl
  a_is_drawing := at_of X G c 8 rfl rfl
  a_points := at_of X G c 9 rfl rfl
  a_chords := at_of X G c 10 rfl rfl
  a_do_cross := at_of X G c 11 rfl rfl
  a_crossings := at_of X G c 12 rfl rfl
  a_comes_first := at_of X G c 13 rfl rfl
  a_is_beside := at_of X G c 14 rfl rfl
  a_is_along := at_of X G c 15 rfl rfl
  a_is_against := at_of X G c 16 rfl rfl
  a_is_long := at_of X G c 17 rfl rfl
  a_is_link := at_of X G c 18 rfl rfl
  a_lets_crossing := at_of X G c 19 rfl rfl
  a_run_along := at_of X G c 20 rfl rfl
  a_run_against := at_of X G c 21 rfl rfl
  a_links_of := at_of X G c 22 rfl rfl
  a_links := at_of X G c 23 rfl rfl
  a_all_links := at_of X G c 24 rfl rfl
  a_met_at := at_of X G c 25 rfl rfl
  a_run_on := at_of X G c 26 rfl rfl
  a_stands_first := at_of X G c 27 rfl rfl
  a_order_of := at_of X G c 28 rfl rfl
  a_tight := at_of X G c 29 rfl rfl
  a_crossing_paper := at_of X G c 30 rfl rfl
  a_l_tape := at_of X G c 31 rfl rfl
  a_l_draw := at_of X G c 32 rfl rfl
  a_l_back := at_of X G c 33 rfl rfl
  a_l_any_row := at_of X G c 34 rfl rfl
  a_l_inner := at_of X G c 35 rfl rfl
  a_l_rooted := at_of X G c 36 rfl rfl
  a_l_any_way := at_of X G c 37 rfl rfl
  a_l_some_ways := at_of X G c 38 rfl rfl
  a_l_sooner := at_of X G c 39 rfl rfl
  a_l_sign := at_of X G c 40 rfl rfl
  a_l_four_ends := at_of X G c 41 rfl rfl
  a_l_run := at_of X G c 42 rfl rfl
  a_l_parted := at_of X G c 43 rfl rfl
  a_l_linked_at := at_of X G c 44 rfl rfl
  a_l_linked := at_of X G c 45 rfl rfl
  a_l_every_link := at_of X G c 46 rfl rfl
  a_l_all_strands := at_of X G c 47 rfl rfl
  a_l_all_spots := at_of X G c 48 rfl rfl
  a_l_all_chords := at_of X G c 49 rfl rfl
  a_l_crosses := at_of X G c 50 rfl rfl
  a_l_all_crossings := at_of X G c 51 rfl rfl
  a_l_is_strand := at_of X G c 52 rfl rfl
  a_l_is_drawing := at_of X G c 53 rfl rfl
  a_l_every_order := at_of X G c 54 rfl rfl
  a_l_every_drawing := at_of X G c 55 rfl rfl
  a_l_how_many := at_of X G c 56 rfl rfl
  a_l_small := at_of X G c 57 rfl rfl
  a_l_long_pair := at_of X G c 58 rfl rfl
  a_l_asked := at_of X G c 59 rfl rfl
  a_l_told_right := at_of X G c 60 rfl rfl
  a_l_swapped := at_of X G c 61 rfl rfl
  a_l_small_right := at_of X G c 62 rfl rfl
  a_l_great_right := at_of X G c 63 rfl rfl
  a_law := at_of X G c 64 rfl rfl
  b_all := He.free_ok X G (c.fact 67 rfl)
  b_bool := He.free_ok X G (c.fact 68 rfl)
  b_dict := He.free_ok X G (c.fact 69 rfl)
  b_enumerate := He.free_ok X G (c.fact 70 rfl)
  b_int := He.free_ok X G (c.fact 71 rfl)
  b_isinstance := He.free_ok X G (c.fact 72 rfl)
  b_len := He.free_ok X G (c.fact 73 rfl)
  b_list := He.free_ok X G (c.fact 74 rfl)
  b_max := He.free_ok X G (c.fact 75 rfl)
  b_min := He.free_ok X G (c.fact 76 rfl)
  b_range := He.free_ok X G (c.fact 77 rfl)
  b_repr := He.free_ok X G (c.fact 78 rfl)
  b_set := He.free_ok X G (c.fact 79 rfl)
  b_sorted := He.free_ok X G (c.fact 80 rfl)
  b_str := He.free_ok X G (c.fact 81 rfl)
  b_tuple := He.free_ok X G (c.fact 82 rfl)
  s_SMALL_letters := He.str_ok X G (c.fact 83 rfl)
  s_SMALL_strands := He.str_ok X G (c.fact 84 rfl)
  s_SMALL_drawings := He.str_ok X G (c.fact 85 rfl)
  s_SMALL_tight := He.str_ok X G (c.fact 86 rfl)
end
theorem law_all {P : Program} {w : World} {K : PySem.W.Frag} {h : Heap} {mg : Str → Option Value} {f : Addr} (X : K.In h) (G : h.Ns mainGlobals mg) (hf : mg "law" = some (.ref f)) (c : obsN faL fnL K = (He.valD fnL, true)) :
    ∃ fd : FuncData, (∀ (s : Shared) (v : Value), BindsTo s fd ⟨[v], []⟩ [("_law_script", v)]) ∧ ∀ base : Heap, K.In base → base.Ns mainGlobals mg → FnG P w K mg base 11 f fd ["_law_script"] (spLaw K) := by
  have c1 : He.SaysD faL fnL K := congrArg (fun z : AlN => z.1) c
  have c2 : npB K = true := congrArg (fun z : AlN => z.2) c
  obtain ⟨fd0, F0⟩ := c1.def_ 65 (d := d_init) rfl
  have np : NpC K mg (cNp K) (cRe K) (iNp K) fd0 (.type "type") := npB_ok (He.glo_ok X G (c1.fact 66 rfl)) (He.glo_ok X G (c1.fact 65 rfl)) F0 c2
  obtain ⟨fd, F⟩ := c1.def_ 64 (d := d_law) rfl
  have e := hf.symm.trans (He.glo_ok X G (c1.fact 64 (f := .glo "law") rfl))
  cases e
  have b := FunD.bindsA (ps := ["_law_script"]) F bd_law
  exact ⟨fd, fun s v => b s [v] rfl, fun base _ _ => law_ok (G := ⟨P, w, K, mg, base⟩) (facts X G c1) np F⟩
end RW
open PySem PySem.W PySem.Calls PyProof.Rows
theorem PySem.Challenge.cw_ringwords_k42_whole_crossing_papers_of_a_holds : PySem.Challenge.rw_ringwords_k42_whole_crossing_papers_of_a.Holds := by
  w_on; o_law
  refine HandSHeadRun.head_any (r := RW.R) (q := view RW.R.prog [80]) (H := RW.hkN) (ob := RW.ob) (M := 3000) (loose := RW.loose) (d := HandSHeadRun.topDef RW.R.prog 80) (kwd := []) RW.ob_eq
    (by kernel_rfl) (fun s => by kernel_rfl) RW.run (by kernel_rfl) (by kernel_rfl) (by kernel_rfl) (by rfl) (by first | assumption | decide +kernel) (by decide +kernel) ⟨rfl, rfl, rfl, rfl, rfl, by decide +kernel⟩ ?hw ?hc
  case hw => w_witness2
  case hc =>
    refine DL.walk_g (l := PySem.Challenge.rw_ringwords_k42_whole_crossing_papers_of_a) (n := 63) (k := 11) (x := "_law_script") rfl (by decide) (by kernel_rfl) ⟨rfl, by decide, by decide⟩ ?F
    intro w mg fa h Y G hmg0
    obtain ⟨K, KX, c⟩ := Y
    have hmg : mg ("law" : PySem.Str) = some (.ref fa) := by
      have nm : (HandSHeadRun.topDef RW.R.prog 80).name = ("law" : PySem.Str) := by kernel_rfl
      rw [← nm]; exact hmg0
    obtain ⟨fd, hb, hF⟩ := RW.law_all (P := (PySem.Challenge.rw_ringwords_k42_whole_crossing_papers_of_a).prog) (w := w) KX G hmg c
    exact ⟨K, fd, RW.spLaw K, KX, hb, fun H a ns hl hS => ⟨a, ns, rfl, hS, hl, fun _ => rfl⟩, hF⟩
