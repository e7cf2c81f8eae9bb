import PyProof.Rows.All
import Wide.All
import OpenK.AllK
import Wide.FinOn
import KE.KStateDown
import Lean
import HandS.ForMost
import HandS.Defaults
import HandS.Head0
import HandS.Head1
import HandS.Head2
import HandS.HeadEnd
import HandS.HeadHook1
import HandS.HeadHook2
import HandS.Wide
import HandS.WideBits
import HandS.IsInst
import HandS.Zip
import HandS.Deep
import HandS.Flow
import HandS.Conv
import HandS.TupLen
import HandS.DictTup
import HandS.SortRule
import HandS.SortInts
import HandS.SetFor
import HandS.Strs
import HandS.Rev
import HandS.TupLe
import HandS.TupAny
import KE.SortData
import KE.KDictKeyed
import KE.KDictWalk
import KE.KIndexOf
import KE.GoesEnum
import KE.GoesMore
import KE.GoesZip
import HandS.Walk
import PySem.Challenge.RW_restdraw_k35_whole_renamed_and_mirrored
set_option linter.all false
/-! Rows in turn: the one right ahead of one. -/
namespace Gw
theorem snoc_cases (l : List Nat) : l = [] ∨ ∃ t z, l = t ++ [z] := by
  rcases List.eq_nil_or_concat l with h | ⟨t, z, h⟩
  · exact .inl h
  · exact .inr ⟨t, z, by simpa using h⟩
def prv (l : List Nat) (x : Nat) : Nat := (l.drop (l.idxOf x + 1) ++ l.take (l.idxOf x)).getLastD x

theorem prv_at {a b : List Nat} {x : Nat} (h : x ∉ a) : prv (a ++ x :: b) x = (b ++ a).getLastD x := by
  have e : (a ++ x :: b).idxOf x = a.length := by
    rw [List.idxOf_append, if_neg h]
    simp
  unfold prv
  rw [e]
  have e1 : (a ++ x :: b).drop (a.length + 1) = b := by
    rw [List.drop_append, List.drop_of_length_le (by omega)]
    simp
  have e2 : (a ++ x :: b).take a.length = a := by simp
  rw [e1, e2]

theorem split_at {l : List Nat} {x : Nat} (h : x ∈ l) : ∃ a b, l = a ++ x :: b ∧ x ∉ a := by
  induction l with
  | nil => exact absurd h (by simp)
  | cons y t ih =>
    by_cases e : y = x
    · exact ⟨[], t, by rw [e]; rfl, by simp⟩
    · rcases List.mem_cons.mp h with q | q
      · exact absurd q.symm e
      · obtain ⟨a, b, e1, e2⟩ := ih q
        refine ⟨y :: a, b, by rw [e1]; rfl, ?_⟩
        intro z
        rcases List.mem_cons.mp z with z | z
        · exact e z.symm
        · exact e2 z

theorem getLastD_mem {l : List Nat} {x : Nat} : l.getLastD x ∈ x :: l := by
  cases l with
  | nil => simp
  | cons y t =>
    rw [List.getLastD_cons]
    cases t with
    | nil => simp
    | cons z t =>
      have : (z :: t).getLastD y = (z :: t).getLast (by simp) := by
        simp [List.getLastD]
      rw [this]
      have := List.getLast_mem (l := z :: t) (by simp)
      exact List.mem_cons_of_mem _ (List.mem_cons_of_mem _ this)

theorem getLastD_snoc (l : List Nat) (y x : Nat) : (l ++ [y]).getLastD x = y := by simp

theorem rot_prv {l1 l2 : List Nat} (hn : (l1 ++ l2).Nodup) {x : Nat} (h : x ∈ l1 ++ l2) : prv (l2 ++ l1) x = prv (l1 ++ l2) x := by
  have hn2 : (l2 ++ l1).Nodup := (List.perm_append_comm.nodup_iff).mp hn
  rcases List.mem_append.mp h with q | q
  · obtain ⟨a, b, e, ha⟩ := split_at q
    subst e
    have h2 : x ∉ l2 ++ a := by
      intro z
      rcases List.mem_append.mp z with z | z
      · rw [List.nodup_append] at hn
        exact hn.2.2 x (by simp) x z rfl
      · exact ha z
    have e1 : (a ++ x :: b) ++ l2 = a ++ x :: (b ++ l2) := by simp
    have e2 : l2 ++ (a ++ x :: b) = (l2 ++ a) ++ x :: b := by simp
    rw [e1, e2, prv_at ha, prv_at h2]
    simp
  · obtain ⟨a, b, e, ha⟩ := split_at q
    subst e
    have h2 : x ∉ l1 ++ a := by
      intro z
      rcases List.mem_append.mp z with z | z
      · rw [List.nodup_append] at hn
        exact hn.2.2 x z x (by simp) rfl
      · exact ha z
    have e1 : (a ++ x :: b) ++ l1 = a ++ x :: (b ++ l1) := by simp
    have e2 : l1 ++ (a ++ x :: b) = (l1 ++ a) ++ x :: b := by simp
    rw [e1, e2, prv_at ha, prv_at h2]
    simp

/-- a row turned so that one stands first -/
theorem front {l : List Nat} {x : Nat} (hn : l.Nodup) (h : x ∈ l) : ∃ t, (x :: t).Nodup ∧ (∀ y, y ∈ x :: t ↔ y ∈ l) ∧ (∀ y, y ∈ l → prv (x :: t) y = prv l y) ∧ ∃ a b, l = a ++ x :: b ∧ t = b ++ a ∧ x ∉ a := by
  obtain ⟨a, b, e, ha⟩ := split_at h
  subst e
  refine ⟨b ++ a, ?_, fun y => ?_, fun y hy => ?_, a, b, rfl, rfl, ha⟩
  · have : ((x :: b) ++ a).Nodup := (List.perm_append_comm.nodup_iff).mp hn
    simpa using this
  · simp
    grind
  · have := rot_prv (l1 := a) (l2 := x :: b) hn hy
    simpa using this

theorem prv_front {x : Nat} {t : List Nat} : prv (x :: t) x = t.getLastD x := by
  have := prv_at (a := []) (b := t) (x := x) (by simp)
  simpa using this

theorem prv_in {x y : Nat} {a b : List Nat} (hn : (x :: (a ++ y :: b)).Nodup) : prv (x :: (a ++ y :: b)) y = a.getLastD x := by
  have h : y ∉ x :: a := by
    intro z
    have hn' : ((x :: a) ++ y :: b).Nodup := by simpa using hn
    rw [List.nodup_append] at hn'
    exact hn'.2.2 y z y (by simp) rfl
  have := prv_at (a := x :: a) (b := b) (x := y) h
  rw [show x :: (a ++ y :: b) = (x :: a) ++ y :: b by simp, this]
  rcases snoc_cases a with rfl | ⟨a, z, rfl⟩
  · simp
  · rw [getLastD_snoc, show b ++ x :: (a ++ [z]) = (b ++ x :: a) ++ [z] by simp, getLastD_snoc]

theorem prv_mem {l : List Nat} {x : Nat} (hn : l.Nodup) (h : x ∈ l) : prv l x ∈ l := by
  obtain ⟨t, h1, h2, h3, _⟩ := front hn h
  rw [← h3 x h, prv_front, ← h2]
  exact getLastD_mem

theorem prv_inj {l : List Nat} {x y : Nat} (hn : l.Nodup) (hx : x ∈ l) (hy : y ∈ l) (h : prv l x = prv l y) : x = y := by
  obtain ⟨t, h1, h2, h3, _⟩ := front hn hx
  rw [← h3 x hx, ← h3 y hy] at h
  by_cases e : x = y
  · exact e
  · have hy' : y ∈ t := by
      rcases List.mem_cons.mp ((h2 y).mpr hy) with q | q
      · exact absurd q.symm e
      · exact q
    obtain ⟨a, b, rfl, ha⟩ := split_at hy'
    rw [prv_front, prv_in h1] at h
    exfalso
    have l1 : (a ++ y :: b).getLastD x ∈ y :: b := by
      rcases snoc_cases b with rfl | ⟨b, z, rfl⟩
      · simp
      · rw [show a ++ y :: (b ++ [z]) = (a ++ y :: b) ++ [z] by simp, getLastD_snoc]
        simp
    have l2 : a.getLastD x ∈ x :: a := getLastD_mem
    rw [h] at l1
    have hn' : ((x :: a) ++ y :: b).Nodup := by simpa using h1
    rw [List.nodup_append] at hn'
    exact hn'.2.2 _ l2 _ l1 rfl

/-- the one of which one is ahead -/
theorem prv_surj {l : List Nat} {y : Nat} (hn : l.Nodup) (h : y ∈ l) : ∃ x, x ∈ l ∧ prv l x = y := by
  obtain ⟨t, h1, h2, h3, _⟩ := front hn h
  cases t with
  | nil => exact ⟨y, h, by rw [← h3 y h, prv_front]; rfl⟩
  | cons x t =>
    have hx : x ∈ l := (h2 x).mp (by simp)
    refine ⟨x, hx, ?_⟩
    rw [← h3 x hx]
    have := prv_in (x := y) (y := x) (a := []) (b := t) (by simpa using h1)
    simpa using this

/-! ### put in behind one -/
def ins (l : List Nat) (v w : Nat) : List Nat := l.take (l.idxOf v + 1) ++ w :: l.drop (l.idxOf v + 1)
theorem ins_at {a b : List Nat} {v w : Nat} (h : v ∉ a) : ins (a ++ v :: b) v w = a ++ v :: w :: b := by
  have e : (a ++ v :: b).idxOf v = a.length := by
    rw [List.idxOf_append, if_neg h]
    simp
  unfold ins
  rw [e, List.take_append, List.drop_append]
  simp [List.take_of_length_le]
theorem ins_mem {l : List Nat} {v w y : Nat} (h : v ∈ l) : y ∈ ins l v w ↔ y = w ∨ y ∈ l := by
  obtain ⟨a, b, e, ha⟩ := split_at h
  subst e
  rw [ins_at ha]
  simp
  grind
theorem ins_nodup {l : List Nat} {v w : Nat} (hn : l.Nodup) (h : v ∈ l) (hw : w ∉ l) : (ins l v w).Nodup := by
  obtain ⟨a, b, e, ha⟩ := split_at h
  subst e
  rw [ins_at ha]
  have p : (a ++ v :: w :: b).Perm (w :: (a ++ v :: b)) := by
    have e1 : a ++ v :: w :: b = (a ++ [v]) ++ w :: b := by simp
    have e2 : a ++ v :: b = (a ++ [v]) ++ b := by simp
    rw [e1, e2]
    exact List.perm_middle
  rw [p.nodup_iff]
  exact List.nodup_cons.mpr ⟨hw, hn⟩
theorem ins_length (l : List Nat) (v w : Nat) : (ins l v w).length = l.length + 1 := by
  unfold ins
  simp
  omega
/-- both turned so that v stands first -/
theorem ins_front {l : List Nat} {v w : Nat} (hn : l.Nodup) (h : v ∈ l) (hw : w ∉ l) : ∃ t, (v :: w :: t).Nodup ∧ (∀ y, y ∈ l → prv (v :: t) y = prv l y) ∧ (∀ y, y ∈ l ↔ y ∈ v :: t) ∧ ∀ y, y = w ∨ y ∈ l → prv (v :: w :: t) y = prv (ins l v w) y := by
  have hn' := ins_nodup hn h hw
  obtain ⟨a, b, e, ha⟩ := split_at h
  subst e
  rw [ins_at ha] at hn' ⊢
  refine ⟨b ++ a, ?_, fun y hy => ?_, fun y => ?_, fun y hy => ?_⟩
  · have : ((v :: w :: b) ++ a).Nodup := (List.perm_append_comm.nodup_iff).mp hn'
    simpa using this
  · have := rot_prv (l1 := a) (l2 := v :: b) hn hy
    simpa using this
  · simp
    grind
  · have := rot_prv (l1 := a) (l2 := v :: w :: b) hn' (x := y) (by simp at hy ⊢; grind)
    simpa using this
theorem prv_ins_new {l : List Nat} {v w : Nat} (hn : l.Nodup) (h : v ∈ l) (hw : w ∉ l) : prv (ins l v w) w = v := by
  obtain ⟨t, h1, _, _, h4⟩ := ins_front hn h hw
  rw [← h4 w (.inl rfl)]
  have := prv_in (x := v) (y := w) (a := []) (b := t) (by simpa using h1)
  simpa using this
theorem prv_ins {l : List Nat} {v w x : Nat} (hn : l.Nodup) (h : v ∈ l) (hw : w ∉ l) (hx : x ∈ l) : prv (ins l v w) x = if prv l x = v then w else prv l x := by
  obtain ⟨t, h1, h2, h3, h4⟩ := ins_front hn h hw
  rw [← h4 x (.inr hx), ← h2 x hx]
  have h5 : (v :: t).Nodup := by
    rw [List.nodup_cons] at h1 ⊢
    obtain ⟨a, b⟩ := h1
    rw [List.nodup_cons] at b
    exact ⟨fun q => a (List.mem_cons_of_mem _ q), b.2⟩
  by_cases e : x = v
  · subst e
    rw [prv_front, prv_front]
    rcases snoc_cases t with rfl | ⟨t, z, rfl⟩
    · simp
    · rw [getLastD_snoc, show w :: (t ++ [z]) = (w :: t) ++ [z] by simp, getLastD_snoc, if_neg]
      intro q
      subst q
      rw [List.nodup_cons] at h5
      exact h5.1 (by simp)
  · have hx' : x ∈ t := by
      rcases List.mem_cons.mp ((h3 x).mp hx) with q | q
      · exact absurd q e
      · exact q
    obtain ⟨a, b, rfl, ha⟩ := split_at hx'
    rw [prv_in h5]
    have g := prv_in (x := v) (y := x) (a := w :: a) (b := b) (by simpa using h1)
    rw [show v :: w :: (a ++ x :: b) = v :: ((w :: a) ++ x :: b) by simp, g]
    rcases snoc_cases a with rfl | ⟨a, z, rfl⟩
    · simp
    · rw [getLastD_snoc, show w :: (a ++ [z]) = (w :: a) ++ [z] by simp, getLastD_snoc, if_neg]
      intro q
      subst q
      rw [List.nodup_cons] at h5
      exact h5.1 (by simp)

/-! ### taken out -/
theorem erase_at {a b : List Nat} {v : Nat} (h : v ∉ a) : (a ++ v :: b).erase v = a ++ b := by
  rw [List.erase_append_right _ h]
  simp
theorem erase_mem {l : List Nat} {v y : Nat} (hn : l.Nodup) : y ∈ l.erase v ↔ y ≠ v ∧ y ∈ l := by
  rw [hn.mem_erase_iff]
theorem prv_erase {l : List Nat} {a x : Nat} (hn : l.Nodup) (ha : a ∈ l) (hx : x ∈ l) (hne : x ≠ a) : prv (l.erase a) x = if prv l x = a then prv l a else prv l x := by
  obtain ⟨p, q, e, hp⟩ := split_at ha
  subst e
  rw [erase_at hp]
  have hn1 : (a :: (q ++ p)).Nodup := by
    have : ((a :: q) ++ p).Nodup := (List.perm_append_comm.nodup_iff).mp hn
    simpa using this
  have hn2 : (p ++ q).Nodup := by
    rw [List.nodup_cons] at hn1
    exact (List.perm_append_comm.nodup_iff).mp hn1.2
  have hx2 : x ∈ p ++ q := by
    simp at hx ⊢
    grind
  have r1 : ∀ y, y ∈ p ++ a :: q → prv (a :: (q ++ p)) y = prv (p ++ a :: q) y := fun y hy => by
    have := rot_prv (l1 := p) (l2 := a :: q) hn hy
    simpa using this
  have r2 := rot_prv (l1 := p) (l2 := q) hn2 hx2
  rw [← r2, ← r1 x hx, ← r1 a ha]
  have hx3 : x ∈ q ++ p := by
    simp at hx2 ⊢
    grind
  generalize q ++ p = t at hn1 hx3
  obtain ⟨u, v, rfl, hu⟩ := split_at hx3
  rw [prv_in hn1, prv_front, prv_at hu]
  rcases snoc_cases u with rfl | ⟨u, z, rfl⟩
  · simp only [List.getLastD_nil, List.append_nil, List.nil_append, if_true]
    rcases snoc_cases v with rfl | ⟨v, z, rfl⟩
    · simp
    · rw [getLastD_snoc, show x :: (v ++ [z]) = (x :: v) ++ [z] by simp, getLastD_snoc]
  · rw [getLastD_snoc, show v ++ (u ++ [z]) = (v ++ u) ++ [z] by simp, getLastD_snoc, if_neg]
    intro h
    subst h
    rw [List.nodup_cons] at hn1
    exact hn1.1 (by simp)

/-! ### renamed, turned about -/
theorem getLastD_map (f : Nat → Nat) (l : List Nat) (x : Nat) : (l.map f).getLastD (f x) = f (l.getLastD x) := by
  rcases snoc_cases l with rfl | ⟨l, z, rfl⟩
  · simp
  · rw [List.map_append, List.map_singleton, getLastD_snoc, getLastD_snoc]
theorem prv_map {l : List Nat} {f : Nat → Nat} {x : Nat} (hx : x ∈ l) (hf : ∀ y, y ∈ l → f y = f x → y = x) : prv (l.map f) (f x) = f (prv l x) := by
  obtain ⟨a, b, e, ha⟩ := split_at hx
  subst e
  rw [List.map_append, List.map_cons, prv_at, prv_at ha, ← List.map_append, getLastD_map]
  intro q
  obtain ⟨y, hy, ey⟩ := List.mem_map.mp q
  have := hf y (by simp [hy]) ey
  exact ha (this ▸ hy)
theorem prv_rev {l : List Nat} {x : Nat} (hn : l.Nodup) (hx : x ∈ l) : prv l.reverse (prv l x) = x := by
  have hm := prv_mem hn hx
  have hnr : l.reverse.Nodup := (List.reverse_perm l).nodup_iff.mpr hn
  obtain ⟨t, h1, h2, h3, a, b, e1, e2, ha⟩ := front hn hx
  subst e1 e2
  have hr : (a ++ x :: b).reverse = b.reverse ++ (x :: a.reverse) := by simp
  have e : prv (a ++ x :: b) x = (b ++ a).getLastD x := prv_at ha
  have er : ∀ y, y ∈ a ++ x :: b → prv ((x :: a.reverse) ++ b.reverse) y = prv (a ++ x :: b).reverse y := fun y hy => by
    rw [hr]
    exact rot_prv (l1 := b.reverse) (l2 := x :: a.reverse) (by rw [← hr]; exact hnr) (by rw [← hr]; exact List.mem_reverse.mpr hy)
  rw [e] at hm ⊢
  rw [← er _ hm]
  have hn1 : (x :: (a.reverse ++ b.reverse)).Nodup := by
    have := (List.perm_append_comm (l₁ := b.reverse) (l₂ := x :: a.reverse)).nodup_iff.mp (by rw [← hr]; exact hnr)
    simpa using this
  show prv (x :: (a.reverse ++ b.reverse)) _ = x
  have e4 : a.reverse ++ b.reverse = (b ++ a).reverse := by simp
  rw [e4] at hn1 ⊢
  generalize b ++ a = t at hn1
  rcases snoc_cases t with rfl | ⟨t, z, rfl⟩
  · rw [show ([] : List Nat).getLastD x = x by rfl]; exact prv_front
  · rw [getLastD_snoc, List.reverse_append] at *
    have := prv_in (x := x) (y := z) (a := []) (b := t.reverse) (by simpa using hn1)
    simpa using this
end Gw
set_option linter.all false
/-! Webs as rows; ways; the three-tiedness of webs whose faces have three places; potentials. -/
namespace Gw
abbrev Rows := Nat → List Nat
structure Web (n : Nat) (R : Rows) : Prop where
  nd : ∀ p, (R p).Nodup
  lt : ∀ p q, q ∈ R p → p < n
  ne : ∀ p, p ∉ R p
  sym : ∀ p q, q ∈ R p → p ∈ R q
section
variable {n : Nat} {R : Rows}
theorem Web.lt2 (w : Web n R) {p q : Nat} (h : q ∈ R p) : q < n := w.lt q p (w.sym p q h)
theorem Web.neq (w : Web n R) {p q : Nat} (h : q ∈ R p) : q ≠ p := fun e => w.ne p (e ▸ h)
/-- the step behind (p, q) leads from q to: -/
def nx (R : Rows) (p q : Nat) : Nat := prv (R q) p
theorem Web.nx_mem (w : Web n R) {p q : Nat} (h : q ∈ R p) : nx R p q ∈ R q := prv_mem (w.nd q) (w.sym p q h)
theorem Web.nx_inj (w : Web n R) {p p' q : Nat} (h : q ∈ R p) (h' : q ∈ R p') (e : nx R p q = nx R p' q) : p = p' := prv_inj (w.nd q) (w.sym p q h) (w.sym p' q h') e

/-- ways that avoid some places -/
inductive Way (R : Rows) (G : Nat → Prop) : Nat → Nat → Prop
  | here {x} : Way R G x x
  | on {x y z} : Way R G x y → z ∈ R y → ¬ G z → Way R G x z
theorem Way.trans {G : Nat → Prop} {x y z : Nat} (a : Way R G x y) (b : Way R G y z) : Way R G x z := by
  induction b with
  | here => exact a
  | on _ h1 h2 ih => exact .on ih h1 h2
theorem Way.back (w : Web n R) {G : Nat → Prop} {x y : Nat} (a : Way R G x y) (hx : ¬ G x) : Way R G y x := by
  induction a with
  | here => exact .here
  | @on y z h h1 h2 ih =>
    have hy : ¬ G y := by
      cases h with
      | here => exact hx
      | on _ _ q => exact q
    exact Way.trans (.on .here (w.sym _ _ h1) hy) ih
theorem Way.mono {R' : Rows} {G G' : Nat → Prop} (hR : ∀ p q, q ∈ R p → q ∈ R' p) (hG : ∀ x, G' x → G x) {x y : Nat} (a : Way R G x y) : Way R' G' x y := by
  induction a with
  | here => exact .here
  | on _ h1 h2 ih => exact .on ih (hR _ _ h1) (fun q => h2 (hG _ q))
/-- all but some hang together -/
def Conn (n : Nat) (R : Rows) (G : Nat → Prop) : Prop := ∀ x y, x < n → y < n → ¬ G x → ¬ G y → Way R G x y
def Tied (n : Nat) (R : Rows) : Prop := ∀ a b, Conn n R fun x => x = a ∨ x = b
/-- each face has three places -/
structure Tri (n : Nat) (R : Rows) : Prop extends Web n R where
  tri : ∀ p q, q ∈ R p → nx R q (nx R p q) = p
theorem Tri.adj (w : Tri n R) {p q : Nat} (h : q ∈ R p) : nx R p q ∈ R p := by
  have h1 := w.nx_mem h
  have h2 := w.nx_mem h1
  rw [w.tri p q h] at h2
  exact w.sym _ _ h2
theorem Tri.tri2 (w : Tri n R) {p q : Nat} (h : q ∈ R p) : nx R (nx R p q) p = q := by
  have h1 := w.nx_mem h
  have := w.tri q (nx R p q) h1
  rw [w.tri p q h] at this
  exact this

/-- side by side in a row: a tie -/
theorem Tri.side (w : Tri n R) {a x : Nat} (h : x ∈ R a) : x ∈ R (prv (R a) x) := by
  -- step (x, a): nx R x a = prv (R a) x
  have h1 := w.sym a x h
  have := w.adj h1
  exact w.sym _ _ this

/-- along a part of a row, each next one is beside the one ahead -/
theorem chain_ways {G : Nat → Prop} (w : Web n R) : ∀ (l : List Nat), (∀ a x y b, l = a ++ x :: y :: b → y ∈ R x) → (∀ x, x ∈ l → ¬ G x) → ∀ x y, x ∈ l → y ∈ l → Way R G x y
  | [], _, _, x, _, h, _ => absurd h (by simp)
  | z :: t, hc, hg, x, y, hx, hy => by
    have key : ∀ v, v ∈ t → Way R G z v := by
      intro v hv
      cases t with
      | nil => exact absurd hv (by simp)
      | cons u t =>
        have h1 : u ∈ R z := hc [] z u t rfl
        have ih := chain_ways w (u :: t) (fun a x y b e => hc (z :: a) x y b (by rw [e]; rfl)) (fun x hx => hg x (List.mem_cons_of_mem _ hx)) u v (by simp) hv
        exact Way.trans (.on .here h1 (hg u (by simp))) ih
    rcases List.mem_cons.mp hx with ex | hx'
    · rw [ex]
      rcases List.mem_cons.mp hy with ey | hy'
      · rw [ey]; exact .here
      · exact key y hy'
    · rcases List.mem_cons.mp hy with ey | hy'
      · rw [ey]
        exact (key x hx').back w (hg z (by simp))
      · exact ((key x hx').back w (hg z (by simp))).trans (key y hy')

/-- about a place but for one: still on ways -/
theorem Tri.link (w : Tri n R) {a b : Nat} {G : Nat → Prop} (hG : ∀ x, G x → x = a ∨ x = b) {x y : Nat} (hx : x ∈ R a) (hy : y ∈ R a) (nx1 : x ≠ b) (ny1 : y ≠ b) : Way R G x y := by
  have hga : ∀ z, z ∈ R a → z ≠ b → ¬ G z := fun z hz hb hgz => by
    rcases hG z hgz with e | e
    · exact w.neq hz e
    · exact hb e
  by_cases hb : b ∈ R a
  · obtain ⟨t, h1, h2, h3, _⟩ := front (w.nd a) hb
    have hm : ∀ z, z ∈ R a → z ≠ b → z ∈ t := fun z hz hne => by
      rcases List.mem_cons.mp ((h2 z).mpr hz) with e | e
      · exact absurd e hne
      · exact e
    refine chain_ways w.toWeb t (fun p u v q e => ?_) (fun z hz => ?_) x y (hm x hx nx1) (hm y hy ny1)
    · have hv : v ∈ R a := (h2 v).mp (by rw [e]; simp)
      have := w.side hv
      rw [← h3 v hv] at this
      have e2 : b :: t = b :: ((p ++ [u]) ++ v :: q) := by rw [e]; simp
      rw [e2] at this h1
      rw [prv_in h1, getLastD_snoc] at this
      exact this
    · have hz' : z ∈ R a := (h2 z).mp (List.mem_cons_of_mem _ hz)
      refine hga z hz' fun e => ?_
      subst e
      rw [List.nodup_cons] at h1
      exact h1.1 hz
  · refine chain_ways w.toWeb (R a) (fun p u v q e => ?_) (fun z hz => hga z hz (fun q => hb (q ▸ hz))) x y hx hy
    have hv : v ∈ R a := by rw [e]; simp
    have := w.side hv
    have hn := w.nd a
    rw [e] at this hn
    have e2 : p ++ u :: v :: q = (p ++ [u]) ++ v :: q := by simp
    rw [e2] at this hn
    rw [prv_at] at this
    · rw [show q ++ (p ++ [u]) = (q ++ p) ++ [u] by simp, getLastD_snoc] at this
      exact this
    · intro z
      rw [List.nodup_append] at hn
      exact hn.2.2 v z v (by simp) rfl

/-- a web whose faces have three places hangs together without any two places -/
theorem Tri.tied (w : Tri n R) (hc : Conn n R fun _ => False) : Tied n R := by
  intro a b x y hx hy gx gy
  have gxa : x ≠ a := fun e => gx (.inl e)
  have gxb : x ≠ b := fun e => gx (.inr e)
  have key : ∀ z, Way R (fun _ => False) x z → (z ≠ a → z ≠ b → Way R (fun x => x = a ∨ x = b) x z) ∧ (z = a → ∀ u, u ∈ R a → u ≠ b → Way R (fun x => x = a ∨ x = b) x u) ∧ (z = b → ∀ u, u ∈ R b → u ≠ a → Way R (fun x => x = a ∨ x = b) x u) := by
    intro z hz
    induction hz with
    | here => exact ⟨fun _ _ => .here, fun e => absurd e gxa, fun e => absurd e gxb⟩
    | @on y z h h1 _ ih =>
      obtain ⟨i1, i2, i3⟩ := ih
      refine ⟨fun na nb => ?_, fun e u hu hne => ?_, fun e u hu hne => ?_⟩
      · by_cases ya : y = a
        · subst ya; exact i2 rfl z h1 nb
        · by_cases yb : y = b
          · subst yb; exact i3 rfl z h1 na
          · exact .on (i1 ya yb) h1 (fun q => q.elim na nb)
      · subst e
        have hyz : y ∈ R z := w.sym _ _ h1
        by_cases ya : y = z
        · exact absurd (ya ▸ h1) (w.ne y)
        · by_cases yb : y = b
          · subst yb
            -- y = b, z = a: the third place of a face on this tie
            have ha : z ∈ R y := h1
            have r1 := w.nx_mem hyz
            have r2 := w.adj hyz
            -- hyz : y ∈ R z, r = nx z y ∈ R y, ∈ R z
            have rn1 : nx R z y ≠ z := w.neq r2
            have rn2 : nx R z y ≠ y := w.neq r1
            have g1 := i3 rfl _ r1 rn1
            exact g1.trans (w.link (a := z) (b := y) (fun _ h => h) r2 hu rn2 hne)
          · exact (i1 ya yb).trans (w.link (a := z) (b := b) (fun _ h => h) hyz hu yb hne)
      · subst e
        have hyz : y ∈ R z := w.sym _ _ h1
        by_cases yb : y = z
        · exact absurd (yb ▸ h1) (w.ne y)
        · by_cases ya : y = a
          · subst ya
            have r1 := w.nx_mem hyz
            have r2 := w.adj hyz
            have rn1 : nx R z y ≠ z := w.neq r2
            have rn2 : nx R z y ≠ y := w.neq r1
            have g1 := i2 rfl _ r1 rn1
            exact g1.trans (w.link (a := z) (b := y) (fun _ h => h.elim .inr .inl) r2 hu rn2 hne)
          · exact (i1 ya yb).trans (w.link (a := z) (b := a) (fun _ h => h.elim .inr .inl) hyz hu ya hne)
  exact (key y (hc x y hx hy (fun q => q) (fun q => q))).1 (fun e => gy (.inl e)) (fun e => gy (.inr e))
end
end Gw
set_option linter.all false
/-! A place put into a face of three; a tie flipped. -/
namespace Gw
/-- each f that is even round each face of three is told by sides of the places -/
def H1t (n : Nat) (R : Rows) : Prop := ∀ f : Nat → Nat → Bool, (∀ p q, q ∈ R p → f p q = f q p) → (∀ p q, q ∈ R p → (f p q ^^ f q (nx R p q) ^^ f (nx R p q) p) = false) → ∃ s : Nat → Bool, ∀ p q, q ∈ R p → f p q = (s p ^^ s q)
def total : Nat → Rows → Nat
  | 0, _ => 0
  | n + 1, R => total n R + (R n).length
theorem total_congr {R R' : Rows} : ∀ n, (∀ x, x < n → (R x).length = (R' x).length) → total n R = total n R'
  | 0, _ => rfl
  | n + 1, h => by
    show total n R + _ = total n R' + _
    rw [total_congr n (fun x hx => h x (by omega)), h n (by omega)]
theorem total_set {R R' : Rows} {p : Nat} (h : ∀ x, x ≠ p → (R' x).length = (R x).length) : ∀ n, p < n → total n R' + (R p).length = total n R + (R' p).length
  | 0, hp => absurd hp (Nat.not_lt_zero p)
  | n + 1, hp => by
    show total n R' + (R' n).length + _ = total n R + (R n).length + _
    by_cases e : n = p
    · subst e
      have := total_congr (R := R') (R' := R) n (fun x hx => h x (by omega))
      omega
    · have := total_set h n (by omega)
      have := h n e
      omega

def put (R : Rows) (p : Nat) (l : List Nat) : Rows := fun x => if x = p then l else R x
theorem put_same {R : Rows} {p : Nat} {l : List Nat} : put R p l p = l := if_pos rfl
theorem put_ne {R : Rows} {p x : Nat} {l : List Nat} (h : x ≠ p) : put R p l x = R x := if_neg h
theorem total_put {R : Rows} {p n : Nat} {l : List Nat} (hp : p < n) : total n (put R p l) + (R p).length = total n R + l.length := by
  have := total_set (R := R) (R' := put R p l) (p := p) (fun x hx => by rw [put_ne hx]) n hp
  rw [put_same] at this
  exact this

/-- put in a place n in the face at the left of (p, q) -/
def addR (R : Rows) (n p q : Nat) : Rows := put (put (put (put R p (ins (R p) q n)) q (ins (R q) (nx R p q) n)) (nx R p q) (ins (R (nx R p q)) p n)) n [p, q, nx R p q]

section
variable {n : Nat} {R : Rows}
theorem prv3a {p q r : Nat} (h1 : p ≠ q) (h2 : q ≠ r) (h3 : p ≠ r) : prv [p, q, r] p = r ∧ prv [p, q, r] q = p ∧ prv [p, q, r] r = q := by
  have hn : (p :: [q, r]).Nodup := by
    simp
    grind
  refine ⟨?_, ?_, ?_⟩
  · exact prv_front (x := p) (t := [q, r])
  · have := prv_in (x := p) (y := q) (a := []) (b := [r]) (by simpa using hn)
    simpa using this
  · have := prv_in (x := p) (y := r) (a := [q]) (b := []) (by simpa using hn)
    simpa using this

theorem bx1 : ∀ pn np qn nq rn nr rp pq qr : Bool, (pn ^^ nr ^^ rp) = false → (qn ^^ np ^^ pq) = false → (rn ^^ nq ^^ qr) = false → pn = np → qn = nq → rn = nr → (pq ^^ qr ^^ rp) = false ∧ (qr ^^ rp ^^ pq) = false ∧ (rp ^^ pq ^^ qr) = false := by decide
theorem bx2 : ∀ pn np qn nq rn nr rp pq qr sp sq sr : Bool, (pn ^^ nr ^^ rp) = false → (qn ^^ np ^^ pq) = false → (rn ^^ nq ^^ qr) = false → pn = np → qn = nq → rn = nr → pq = (sp ^^ sq) → qr = (sq ^^ sr) → pn = (sp ^^ (sp ^^ pn)) ∧ qn = (sq ^^ (sp ^^ pn)) ∧ rn = (sr ^^ (sp ^^ pn)) ∧ np = ((sp ^^ pn) ^^ sp) ∧ nq = ((sp ^^ pn) ^^ sq) ∧ nr = ((sp ^^ pn) ^^ sr) := by
  intro pn np qn nq rn nr rp pq qr sp sq sr h1 h2 h3 e1 e2 e3 e4 e5
  subst e1 e2 e3 e4 e5
  revert h1 h2 h3
  cases sp <;> cases sq <;> cases sr <;> cases rp <;> revert pn qn rn <;> decide

structure AddD (R : Rows) (n p q r : Nat) (R' : Rows) : Prop where
  mem : ∀ x y, y ∈ R' x ↔ y ∈ R x ∨ (y = n ∧ (x = p ∨ x = q ∨ x = r)) ∨ (x = n ∧ (y = p ∨ y = q ∨ y = r))
  nd : ∀ x, (R' x).Nodup
  old : ∀ x y, y ∈ R x → nx R' x y = if (x = r ∧ y = p) ∨ (x = p ∧ y = q) ∨ (x = q ∧ y = r) then n else nx R x y
  np : nx R' n p = q ∧ nx R' n q = r ∧ nx R' n r = p
  pn : nx R' p n = r ∧ nx R' q n = p ∧ nx R' r n = q

theorem Tri.addD (w : Tri n R) {p q : Nat} (h : q ∈ R p) : AddD R n p q (nx R p q) (addR R n p q) := by
  have hr1 := w.nx_mem h
  have hr2 := w.adj h
  have t1 := w.tri p q h
  have t2 := w.tri2 h
  generalize er : nx R p q = r at hr1 hr2 t1 t2
  have pq : q ≠ p := w.neq h
  have rq : r ≠ q := w.neq hr1
  have rp : r ≠ p := w.neq hr2
  have fr : ∀ x, n ∉ R x := fun x hx => Nat.lt_irrefl _ (w.lt2 hx)
  have Rn : R n = [] := by
    cases e : R n with
    | nil => rfl
    | cons y t => exact absurd (w.lt n y (by rw [e]; simp)) (Nat.lt_irrefl n)
  have pn : p ≠ n := fun e => by rw [e, Rn] at h; simp at h
  have qn : q ≠ n := fun e => fr p (e ▸ h)
  have rn : r ≠ n := fun e => fr p (e ▸ hr2)
  have Ep : addR R n p q p = ins (R p) q n := by
    unfold addR
    rw [er, put_ne pn, put_ne rp.symm, put_ne pq.symm, put_same]
  have Eq' : addR R n p q q = ins (R q) r n := by
    unfold addR
    rw [er, put_ne qn, put_ne rq.symm, put_same]
  have Er : addR R n p q r = ins (R r) p n := by
    unfold addR
    rw [er, put_ne rn, put_same]
  have En : addR R n p q n = [p, q, r] := by
    unfold addR
    rw [er, put_same]
  have Eo : ∀ x, x ≠ p → x ≠ q → x ≠ r → x ≠ n → addR R n p q x = R x := fun x h1 h2 h3 h4 => by
    unfold addR
    rw [er, put_ne h4, put_ne h3, put_ne h2, put_ne h1]
  have mpr : p ∈ R r := w.sym _ _ hr2
  generalize addR R n p q = R' at Ep Eq' Er En Eo
  have e1 : prv (R p) r = q := t2
  have e2 : prv (R q) p = r := er
  have e3 : prv (R r) q = p := t1
  refine ⟨fun x y => ?_, fun x => ?_, fun x y hy => ?_, ⟨?_, ?_, ?_⟩, ?_⟩
  · by_cases h1 : x = p
    · subst h1
      rw [Ep, ins_mem h]
      grind
    · by_cases h2 : x = q
      · subst h2
        rw [Eq', ins_mem hr1]
        grind
      · by_cases h3 : x = r
        · subst h3
          rw [Er, ins_mem mpr]
          grind
        · by_cases h4 : x = n
          · subst h4
            rw [En, Rn]
            simp
            grind
          · rw [Eo x h1 h2 h3 h4]
            grind
  · by_cases h1 : x = p
    · subst h1
      rw [Ep]
      exact ins_nodup (w.nd _) h (fr _)
    · by_cases h2 : x = q
      · subst h2
        rw [Eq']
        exact ins_nodup (w.nd _) hr1 (fr _)
      · by_cases h3 : x = r
        · subst h3
          rw [Er]
          exact ins_nodup (w.nd _) mpr (fr _)
        · by_cases h4 : x = n
          · subst h4
            rw [En]
            simp
            grind
          · rw [Eo x h1 h2 h3 h4]
            exact w.nd x
  · have hx : x ∈ R y := w.sym _ _ hy
    show prv (R' y) x = _
    by_cases h1 : y = p
    · subst h1
      rw [Ep, prv_ins (w.nd _) h (fr _) hx]
      have : prv (R y) x = q ↔ x = r := ⟨fun e => prv_inj (w.nd y) hx hr2 (e.trans e1.symm), fun e => by rw [e]; exact e1⟩
      simp only [this]
      show _ = if _ then n else prv (R y) x
      grind
    · by_cases h2 : y = q
      · subst h2
        rw [Eq', prv_ins (w.nd _) hr1 (fr _) hx]
        have : prv (R y) x = r ↔ x = p := ⟨fun e => prv_inj (w.nd y) hx (w.sym _ _ h) (e.trans e2.symm), fun e => by rw [e]; exact e2⟩
        simp only [this]
        show _ = if _ then n else prv (R y) x
        grind
      · by_cases h3 : y = r
        · subst h3
          rw [Er, prv_ins (w.nd _) mpr (fr _) hx]
          have : prv (R y) x = p ↔ x = q := ⟨fun e => prv_inj (w.nd y) hx (w.sym _ _ hr1) (e.trans e3.symm), fun e => by rw [e]; exact e3⟩
          simp only [this]
          show _ = if _ then n else prv (R y) x
          grind
        · have h4 : y ≠ n := fun e => fr x (e ▸ hy)
          rw [Eo y h1 h2 h3 h4]
          show _ = if _ then n else prv (R y) x
          grind
  · show prv (R' p) n = q
    rw [Ep, prv_ins_new (w.nd _) h (fr _)]
  · show prv (R' q) n = r
    rw [Eq', prv_ins_new (w.nd _) hr1 (fr _)]
  · show prv (R' r) n = p
    rw [Er, prv_ins_new (w.nd _) mpr (fr _)]
  · show prv (R' n) p = r ∧ prv (R' n) q = p ∧ prv (R' n) r = q
    rw [En]
    exact prv3a pq.symm rq.symm rp.symm

/-- what is kept while places are put in and ties flipped -/
structure Cor (n : Nat) (R : Rows) : Prop extends Tri n R where
  h1 : H1t n R
  conn : Conn n R fun _ => False
  tot : total n R + 12 = 6 * n
  full : ∀ p, p < n → R p ≠ []

theorem Cor.add (c : Cor n R) {p q : Nat} (h : q ∈ R p) : Cor (n + 1) (addR R n p q) := by
  have w := c.toTri
  have A := w.addD h
  have hr1 := w.nx_mem h
  have hr2 := w.adj h
  have t1 := w.tri p q h
  have t2 := w.tri2 h
  have pq : q ≠ p := w.neq h
  have rq : nx R p q ≠ q := w.neq hr1
  have rp : nx R p q ≠ p := w.neq hr2
  have fr : ∀ x, n ∉ R x := fun x hx => Nat.lt_irrefl _ (w.lt2 hx)
  have pl : p < n := w.lt _ _ h
  have ql : q < n := w.lt2 h
  have rl : nx R p q < n := w.lt2 hr2
  have htot : total (n + 1) (addR R n p q) = total n R + 6 := by
    have e0 : ∀ x, x < n → (addR R n p q x).length = (put (put (put R p (ins (R p) q n)) q (ins (R q) (nx R p q) n)) (nx R p q) (ins (R (nx R p q)) p n) x).length := fun x hx => by
      unfold addR
      rw [put_ne (by omega)]
    show total n (addR R n p q) + (addR R n p q n).length = _
    rw [total_congr n e0]
    have a1 := total_put (R := R) (p := p) (n := n) (l := ins (R p) q n) pl
    have a2 := total_put (R := put R p (ins (R p) q n)) (p := q) (n := n) (l := ins (R q) (nx R p q) n) ql
    have a3 := total_put (R := put (put R p (ins (R p) q n)) q (ins (R q) (nx R p q) n)) (p := nx R p q) (n := n) (l := ins (R (nx R p q)) p n) rl
    rw [put_ne pq] at a2
    rw [put_ne rq, put_ne rp] at a3
    rw [ins_length] at a1 a2 a3
    have e4 : (addR R n p q n).length = 3 := by unfold addR; rw [put_same]; rfl
    omega
  generalize tq : nx R p q = r at *
  generalize addR R n p q = R' at *
  obtain ⟨mem, nd, old, ⟨n1, n2, n3⟩, m1, m2, m3⟩ := A
  have on : ∀ x y, y ∈ R x → y ∈ R' x := fun x y hy => (mem x y).mpr (.inl hy)
  have ml : ∀ x y, y ∈ R x → x < n ∧ y < n := fun x y hy => ⟨w.lt _ _ hy, w.lt2 hy⟩
  have T : ∀ x y, y ∈ R x → nx R y (nx R x y) = x := w.tri
  have hpq : q ∈ R p := h
  refine ⟨⟨⟨fun x => nd x, fun x y hy => ?_, fun x hx => ?_, fun x y hy => ?_⟩, fun x y hy => ?_⟩, fun f fs ft => ?_, ?_, by have := c.tot; omega, fun x hx => ?_⟩
  · rcases (mem x y).mp hy with g | g | g
    · have := w.lt _ _ g; omega
    · omega
    · omega
  · rcases (mem x x).mp hx with g | g | g
    · exact w.ne x g
    · omega
    · omega
  · rcases (mem x y).mp hy with g | g | g
    · exact (mem y x).mpr (.inl (w.sym _ _ g))
    · exact (mem y x).mpr (.inr (.inr g))
    · exact (mem y x).mpr (.inr (.inl g))
  · rcases (mem x y).mp hy with g | ⟨rfl, g⟩ | ⟨rfl, g⟩
    · have z := w.nx_mem g
      have tz := T x y g
      have o1 := old x y g
      have o2 := old y (nx R x y) z
      have tz2 := w.tri2 g
      by_cases c1 : (x = r ∧ y = p) ∨ (x = p ∧ y = q) ∨ (x = q ∧ y = r)
      · rw [o1, if_pos c1]
        rcases c1 with ⟨rfl, rfl⟩ | ⟨rfl, rfl⟩ | ⟨rfl, rfl⟩
        · exact m1
        · exact m2
        · exact m3
      · rw [o1, if_neg c1, o2, if_neg, tz]
        rintro (⟨e1, e2⟩ | ⟨e1, e2⟩ | ⟨e1, e2⟩)
        all_goals
          rw [e2, e1] at tz
          rw [e1] at c1
          grind
    · rcases g with rfl | rfl | rfl
      · rw [m1]; exact n3
      · rw [m2]; exact n1
      · rw [m3]; exact n2
    · rcases g with rfl | rfl | rfl
      · rw [n1, old _ _ hpq, if_pos (.inr (.inl ⟨rfl, rfl⟩))]
      · rw [n2, old _ _ hr1, if_pos (.inr (.inr ⟨rfl, rfl⟩))]
      · rw [n3, old _ _ (w.sym _ _ hr2), if_pos (.inl ⟨rfl, rfl⟩)]
  · have mpn : n ∈ R' p := (mem p n).mpr (.inr (.inl ⟨rfl, .inl rfl⟩))
    have mqn : n ∈ R' q := (mem q n).mpr (.inr (.inl ⟨rfl, .inr (.inl rfl)⟩))
    have mrn : n ∈ R' r := (mem r n).mpr (.inr (.inl ⟨rfl, .inr (.inr rfl)⟩))
    have k1 := ft _ _ mpn
    have k2 := ft _ _ mqn
    have k3 := ft _ _ mrn
    rw [m1] at k1
    rw [m2] at k2
    rw [m3] at k3
    have s1 := fs _ _ mpn
    have s2 := fs _ _ mqn
    have s3 := fs _ _ mrn
    have s4 := fs _ _ (on _ _ hpq)
    have s5 := fs _ _ (on _ _ hr1)
    have s6 := fs _ _ (on _ _ hr2)
    obtain ⟨s, hs⟩ := c.h1 f (fun x y hy => fs x y (on x y hy)) (fun x y hy => by
      by_cases c1 : (x = r ∧ y = p) ∨ (x = p ∧ y = q) ∨ (x = q ∧ y = r)
      · rcases c1 with ⟨rfl, rfl⟩ | ⟨rfl, rfl⟩ | ⟨rfl, rfl⟩
        · rw [t2]
          exact (bx1 _ _ _ _ _ _ _ _ _ k1 k2 k3 s1 s2 s3).2.2
        · rw [tq]
          exact (bx1 _ _ _ _ _ _ _ _ _ k1 k2 k3 s1 s2 s3).1
        · rw [t1]
          exact (bx1 _ _ _ _ _ _ _ _ _ k1 k2 k3 s1 s2 s3).2.1
      · have := ft x y (on x y hy)
        rw [old x y hy, if_neg c1] at this
        exact this)
    have a1 := hs _ _ hpq
    have a2 := hs _ _ hr1
    obtain ⟨b1, b2, b3, b4, b5, b6⟩ := bx2 _ _ _ _ _ _ _ _ _ _ _ _ k1 k2 k3 s1 s2 s3 a1 a2
    refine ⟨fun x => if x = n then (s p ^^ f p n) else s x, fun x y hy => ?_⟩
    rcases (mem x y).mp hy with g | ⟨rfl, g⟩ | ⟨rfl, g⟩
    · obtain ⟨l1, l2⟩ := ml x y g
      show f x y = ((if x = n then _ else s x) ^^ (if y = n then _ else s y))
      rw [if_neg (by omega), if_neg (by omega)]
      exact hs x y g
    · have xn : x ≠ y := by rcases g with rfl | rfl | rfl <;> omega
      show f x y = ((if x = y then _ else s x) ^^ (if y = y then _ else s y))
      rw [if_neg xn, if_pos rfl]
      rcases g with rfl | rfl | rfl
      · exact b1
      · exact b2
      · exact b3
    · have xn : y ≠ x := by rcases g with rfl | rfl | rfl <;> omega
      show f x y = ((if x = x then _ else s x) ^^ (if y = x then _ else s y))
      rw [if_neg xn, if_pos rfl]
      rcases g with rfl | rfl | rfl
      · exact b4
      · exact b5
      · exact b6
  · have npn : n ∈ R' p := (mem p n).mpr (.inr (.inl ⟨rfl, .inl rfl⟩))
    have nnp : p ∈ R' n := (mem n p).mpr (.inr (.inr ⟨rfl, .inl rfl⟩))
    have tp : ∀ x, x < n + 1 → Way R' (fun _ => False) x p := fun x hx => by
      by_cases e : x = n
      · subst e
        exact .on .here nnp (fun q => q)
      · exact (c.conn x p (by omega) pl (fun q => q) (fun q => q)).mono on (fun _ q => q)
    have fp : ∀ x, x < n + 1 → Way R' (fun _ => False) p x := fun x hx => by
      by_cases e : x = n
      · subst e
        exact .on .here npn (fun q => q)
      · exact (c.conn p x pl (by omega) (fun q => q) (fun q => q)).mono on (fun _ q => q)
    exact fun x y hx hy _ _ => (tp x hx).trans (fp y hy)
  · by_cases e : x = n
    · subst e
      intro z
      have : p ∈ R' x := (mem x p).mpr (.inr (.inr ⟨rfl, .inl rfl⟩))
      rw [z] at this
      simp at this
    · obtain ⟨y, hy⟩ := List.exists_mem_of_ne_nil _ (c.full x (by omega))
      intro z
      have := on x y hy
      rw [z] at this
      simp at this
end
end Gw
set_option linter.all false
/-! A tie flipped; the first three places. -/
namespace Gw
/-- the tie (p, q) taken out, the one between the places across it put in -/
def flipR (R : Rows) (p q r s : Nat) : Rows := put (put (put (put R p ((R p).erase q)) q ((R q).erase p)) r (ins (R r) p s)) s (ins (R s) q r)
structure FlipD (R : Rows) (p q r s : Nat) (R' : Rows) : Prop where
  mem : ∀ x y, y ∈ R' x ↔ (y ∈ R x ∧ ¬ (x = p ∧ y = q) ∧ ¬ (x = q ∧ y = p)) ∨ (x = r ∧ y = s) ∨ (x = s ∧ y = r)
  nd : ∀ x, (R' x).Nodup
  old : ∀ x y, y ∈ R x → ¬ (x = p ∧ y = q) → ¬ (x = q ∧ y = p) → nx R' x y = if (x = r ∧ y = p) ∨ (x = q ∧ y = r) then s else if (x = s ∧ y = q) ∨ (x = p ∧ y = s) then r else nx R x y
  new : nx R' s r = p ∧ nx R' r s = q
section
variable {n : Nat} {R : Rows}
theorem Tri.flipD (w : Tri n R) {p q r s : Nat} (h : q ∈ R p) (er : nx R p q = r) (es : nx R q p = s) (hrs : r ≠ s) (hno : s ∉ R r) : FlipD R p q r s (flipR R p q r s) := by
  have h' := w.sym _ _ h
  have hr1 := w.nx_mem h
  have hr2 := w.adj h
  have t1 := w.tri p q h
  have t2 := w.tri2 h
  have hs1 := w.nx_mem h'
  have hs2 := w.adj h'
  have u1 := w.tri q p h'
  have u2 := w.tri2 h'
  rw [er] at hr1 hr2 t1 t2
  rw [es] at hs1 hs2 u1 u2
  have pq : q ≠ p := w.neq h
  have rq : r ≠ q := w.neq hr1
  have rp : r ≠ p := w.neq hr2
  have sq : s ≠ q := w.neq hs2
  have sp : s ≠ p := w.neq hs1
  have hno' : r ∉ R s := fun z => hno (w.sym _ _ z)
  have Ep : flipR R p q r s p = (R p).erase q := by
    unfold flipR
    rw [put_ne sp.symm, put_ne rp.symm, put_ne pq.symm, put_same]
  have Eq' : flipR R p q r s q = (R q).erase p := by
    unfold flipR
    rw [put_ne sq.symm, put_ne rq.symm, put_same]
  have Er : flipR R p q r s r = ins (R r) p s := by
    unfold flipR
    rw [put_ne hrs, put_same]
  have Es : flipR R p q r s s = ins (R s) q r := by
    unfold flipR
    rw [put_same]
  have Eo : ∀ x, x ≠ p → x ≠ q → x ≠ r → x ≠ s → flipR R p q r s x = R x := fun x h1 h2 h3 h4 => by
    unfold flipR
    rw [put_ne h4, put_ne h3, put_ne h2, put_ne h1]
  have mpr : p ∈ R r := w.sym _ _ hr2
  have mqs : q ∈ R s := w.sym _ _ hs2
  generalize flipR R p q r s = R' at Ep Eq' Er Es Eo
  have e1 : prv (R p) r = q := t2
  have e2 : prv (R q) p = r := er
  have e3 : prv (R r) q = p := t1
  have f1 : prv (R q) s = p := u2
  have f2 : prv (R p) q = s := es
  have f3 : prv (R s) p = q := u1
  refine ⟨fun x y => ?_, fun x => ?_, fun x y hy n1 n2 => ?_, ?_, ?_⟩
  · by_cases h1 : x = p
    · subst h1
      rw [Ep, erase_mem (w.nd _)]
      grind
    · by_cases h2 : x = q
      · subst h2
        rw [Eq', erase_mem (w.nd _)]
        grind
      · by_cases h3 : x = r
        · subst h3
          rw [Er, ins_mem mpr]
          grind
        · by_cases h4 : x = s
          · subst h4
            rw [Es, ins_mem mqs]
            grind
          · rw [Eo x h1 h2 h3 h4]
            grind
  · by_cases h1 : x = p
    · subst h1
      rw [Ep]
      exact (w.nd _).erase _
    · by_cases h2 : x = q
      · subst h2
        rw [Eq']
        exact (w.nd _).erase _
      · by_cases h3 : x = r
        · subst h3
          rw [Er]
          exact ins_nodup (w.nd _) mpr hno
        · by_cases h4 : x = s
          · subst h4
            rw [Es]
            exact ins_nodup (w.nd _) mqs hno'
          · rw [Eo x h1 h2 h3 h4]
            exact w.nd x
  · have hx : x ∈ R y := w.sym _ _ hy
    show prv (R' y) x = _
    by_cases h1 : y = p
    · subst h1
      have xq : x ≠ q := fun e => n2 ⟨e, rfl⟩
      rw [Ep, prv_erase (w.nd _) h hx xq, f2]
      have : prv (R y) x = q ↔ x = r := ⟨fun e => prv_inj (w.nd y) hx hr2 (e.trans e1.symm), fun e => by rw [e]; exact e1⟩
      simp only [this]
      show _ = if _ then s else if _ then r else prv (R y) x
      grind
    · by_cases h2 : y = q
      · subst h2
        have xp : x ≠ p := fun e => n1 ⟨e, rfl⟩
        rw [Eq', prv_erase (w.nd _) h' hx xp, e2]
        have : prv (R y) x = p ↔ x = s := ⟨fun e => prv_inj (w.nd y) hx hs2 (e.trans f1.symm), fun e => by rw [e]; exact f1⟩
        simp only [this]
        show _ = if _ then s else if _ then r else prv (R y) x
        grind
      · by_cases h3 : y = r
        · subst h3
          rw [Er, prv_ins (w.nd _) mpr hno hx]
          have : prv (R y) x = p ↔ x = q := ⟨fun e => prv_inj (w.nd y) hx (w.sym _ _ hr1) (e.trans e3.symm), fun e => by rw [e]; exact e3⟩
          simp only [this]
          show _ = if _ then s else if _ then y else prv (R y) x
          grind
        · by_cases h4 : y = s
          · subst h4
            rw [Es, prv_ins (w.nd _) mqs hno' hx]
            have : prv (R y) x = q ↔ x = p := ⟨fun e => prv_inj (w.nd y) hx (w.sym _ _ hs1) (e.trans f3.symm), fun e => by rw [e]; exact f3⟩
            simp only [this]
            show _ = if _ then y else if _ then r else prv (R y) x
            grind
          · rw [Eo y h1 h2 h3 h4]
            show _ = if _ then s else if _ then r else prv (R y) x
            grind
  · show prv (R' r) s = p
    rw [Er, prv_ins_new (w.nd _) mpr hno]
  · show prv (R' s) r = q
    rw [Es, prv_ins_new (w.nd _) mqs hno']

theorem bx3 : ∀ rp pr ps sp sr rs qr rq sq qs : Bool, (rp ^^ ps ^^ sr) = false → (sq ^^ qr ^^ rs) = false → rp = pr → ps = sp → sr = rs → qr = rq → sq = qs →
    ((pr ^^ rq) ^^ qr ^^ rp) = false ∧ (qr ^^ rp ^^ (pr ^^ rq)) = false ∧ (rp ^^ (pr ^^ rq) ^^ qr) = false ∧ ((pr ^^ rq) ^^ ps ^^ sq) = false ∧ (ps ^^ sq ^^ (pr ^^ rq)) = false ∧ (sq ^^ (pr ^^ rq) ^^ ps) = false := by
  intro rp pr ps sp sr rs qr rq sq qs h1 h2 e1 e2 e3 e4 e5
  subst e1 e2 e3 e4 e5
  revert h1 h2
  cases rp <;> cases ps <;> cases sr <;> cases qr <;> cases sq <;> decide
theorem bx4 : ∀ rp ps sr Sr Sp Ss : Bool, (rp ^^ ps ^^ sr) = false → rp = (Sr ^^ Sp) → ps = (Sp ^^ Ss) → sr = (Ss ^^ Sr) := by decide

theorem Cor.flip (c : Cor n R) {p q r s : Nat} (h : q ∈ R p) (er : nx R p q = r) (es : nx R q p = s) (hrs : r ≠ s) (hno : s ∉ R r) : Cor n (flipR R p q r s) := by
  have w := c.toTri
  have A := w.flipD h er es hrs hno
  have h' := w.sym _ _ h
  have hr1 := w.nx_mem h
  have hr2 := w.adj h
  have t1 := w.tri p q h
  have t2 := w.tri2 h
  have hs1 := w.nx_mem h'
  have hs2 := w.adj h'
  have u1 := w.tri q p h'
  have u2 := w.tri2 h'
  rw [er] at hr1 hr2 t1 t2
  rw [es] at hs1 hs2 u1 u2
  have pq : q ≠ p := w.neq h
  have rq : r ≠ q := w.neq hr1
  have rp : r ≠ p := w.neq hr2
  have sq : s ≠ q := w.neq hs2
  have sp : s ≠ p := w.neq hs1
  have hno' : r ∉ R s := fun z => hno (w.sym _ _ z)
  have pl : p < n := w.lt _ _ h
  have ql : q < n := w.lt2 h
  have rl : r < n := w.lt2 hr2
  have sl : s < n := w.lt2 hs1
  have htot : total n (flipR R p q r s) = total n R := by
    have a1 := total_put (R := R) (p := p) (n := n) (l := (R p).erase q) pl
    have a2 := total_put (R := put R p ((R p).erase q)) (p := q) (n := n) (l := (R q).erase p) ql
    have a3 := total_put (R := put (put R p ((R p).erase q)) q ((R q).erase p)) (p := r) (n := n) (l := ins (R r) p s) rl
    have a4 := total_put (R := put (put (put R p ((R p).erase q)) q ((R q).erase p)) r (ins (R r) p s)) (p := s) (n := n) (l := ins (R s) q r) sl
    rw [put_ne pq] at a2
    rw [put_ne rq, put_ne rp] at a3
    rw [put_ne hrs.symm, put_ne sq, put_ne sp] at a4
    rw [List.length_erase_of_mem h] at a1
    rw [List.length_erase_of_mem h'] at a2
    rw [ins_length] at a3 a4
    have l1 := List.length_pos_of_mem h
    have l2 := List.length_pos_of_mem h'
    show total n (put (put (put (put R p ((R p).erase q)) q ((R q).erase p)) r (ins (R r) p s)) s (ins (R s) q r)) = _
    omega
  generalize flipR R p q r s = R' at *
  obtain ⟨mem, nd, old, m1, m2⟩ := A
  have on : ∀ x y, y ∈ R x → ¬ (x = p ∧ y = q) → ¬ (x = q ∧ y = p) → y ∈ R' x := fun x y hy a b => (mem x y).mpr (.inl ⟨hy, a, b⟩)
  have T : ∀ x y, y ∈ R x → nx R y (nx R x y) = x := w.tri
  have mrs : s ∈ R' r := (mem r s).mpr (.inr (.inl ⟨rfl, rfl⟩))
  have msr : r ∈ R' s := (mem s r).mpr (.inr (.inr ⟨rfl, rfl⟩))
  have mpr : r ∈ R' p := on p r hr2 (fun e => rq e.2) (fun e => rp e.2)
  have mrp : p ∈ R' r := on r p (w.sym _ _ hr2) (fun e => rp e.1) (fun e => rq e.1)
  have mqr : r ∈ R' q := on q r hr1 (fun e => rq e.2) (fun e => rp e.2)
  have mrq : q ∈ R' r := on r q (w.sym _ _ hr1) (fun e => rp e.1) (fun e => rq e.1)
  have mps : s ∈ R' p := on p s hs1 (fun e => sq e.2) (fun e => sp e.2)
  have msp : p ∈ R' s := on s p (w.sym _ _ hs1) (fun e => sp e.1) (fun e => sq e.1)
  have mqs : s ∈ R' q := on q s hs2 (fun e => sq e.2) (fun e => sp e.2)
  have msq : q ∈ R' s := on s q (w.sym _ _ hs2) (fun e => sp e.1) (fun e => sq e.1)
  have o1 : nx R' r p = s := by rw [old r p (w.sym _ _ hr2) (fun e => rp e.1) (fun e => rq e.1), if_pos (.inl ⟨rfl, rfl⟩)]
  have o2 : nx R' q r = s := by rw [old q r hr1 (fun e => rq e.2) (fun e => rp e.2), if_pos (.inr ⟨rfl, rfl⟩)]
  have o3 : nx R' s q = r := by
    rw [old s q (w.sym _ _ hs2) (fun e => sp e.1) (fun e => sq e.1), if_neg, if_pos (.inl ⟨rfl, rfl⟩)]
    rintro (⟨e, _⟩ | ⟨e, _⟩)
    · exact hrs e.symm
    · exact sq e
  have o4 : nx R' p s = r := by
    rw [old p s hs1 (fun e => sq e.2) (fun e => sp e.2), if_neg, if_pos (.inr ⟨rfl, rfl⟩)]
    rintro (⟨e, _⟩ | ⟨e, _⟩)
    · exact rp e.symm
    · exact pq e.symm
  refine ⟨⟨⟨fun x => nd x, fun x y hy => ?_, fun x hx => ?_, fun x y hy => ?_⟩, fun x y hy => ?_⟩, fun f fs ft => ?_, ?_, by have := c.tot; omega, fun x hx => ?_⟩
  · rcases (mem x y).mp hy with ⟨g, _⟩ | ⟨g, _⟩ | ⟨g, _⟩
    · exact w.lt _ _ g
    · omega
    · omega
  · rcases (mem x x).mp hx with ⟨g, _⟩ | ⟨g, g'⟩ | ⟨g, g'⟩
    · exact w.ne x g
    · omega
    · omega
  · rcases (mem x y).mp hy with ⟨g, a, b⟩ | ⟨g, g'⟩ | ⟨g, g'⟩
    · exact on y x (w.sym _ _ g) (fun e => b ⟨e.2, e.1⟩) (fun e => a ⟨e.2, e.1⟩)
    · rw [g, g']; exact msr
    · rw [g, g']; exact mrs
  · rcases (mem x y).mp hy with ⟨g, a, b⟩ | ⟨g, g'⟩ | ⟨g, g'⟩
    · by_cases c1 : x = r ∧ y = p
      · rw [c1.1, c1.2, o1, o4]
      · by_cases c2 : x = q ∧ y = r
        · rw [c2.1, c2.2, o2, m2]
        · by_cases c3 : x = s ∧ y = q
          · rw [c3.1, c3.2, o3, o2]
          · by_cases c4 : x = p ∧ y = s
            · rw [c4.1, c4.2, o4, m1]
            · have z := w.nx_mem g
              have tz := T x y g
              have tz2 := w.tri2 g
              have e : nx R' x y = nx R x y := by
                rw [old x y g a b, if_neg, if_neg]
                · rintro (e | e)
                  · exact c3 e
                  · exact c4 e
                · rintro (e | e)
                  · exact c1 e
                  · exact c2 e
              rw [e, old y (nx R x y) z, if_neg, if_neg, tz]
              · rintro (⟨e1, e2⟩ | ⟨e1, e2⟩)
                · rw [e2, e1, u2] at tz
                  exact c4 ⟨tz.symm, e1⟩
                · rw [e2, e1, u1] at tz
                  exact b ⟨tz.symm, e1⟩
              · rintro (⟨e1, e2⟩ | ⟨e1, e2⟩)
                · rw [e2, e1, t2] at tz
                  exact c2 ⟨tz.symm, e1⟩
                · rw [e2, e1, t1] at tz
                  exact a ⟨tz.symm, e1⟩
              · rintro ⟨e1, e2⟩
                rw [e2, e1, er] at tz
                exact c1 ⟨tz.symm, e1⟩
              · rintro ⟨e1, e2⟩
                rw [e2, e1, es] at tz
                exact c3 ⟨tz.symm, e1⟩
    · rw [g, g', m2, o3]
    · rw [g, g', m1, o1]
  · have k1 := ft _ _ mrp
    have k2 := ft _ _ msq
    rw [o1] at k1
    rw [o3] at k2
    have s1 := fs _ _ mrp
    have s2 := fs _ _ mps
    have s3 := fs _ _ msr
    have s4 := fs _ _ mqr
    have s5 := fs _ _ msq
    obtain ⟨b1, b2, b3, b4, b5, b6⟩ := bx3 _ _ _ _ _ _ _ _ _ _ k1 k2 s1 s2 s3 s4 s5
    let F : Nat → Nat → Bool := fun x y => if (x = p ∧ y = q) ∨ (x = q ∧ y = p) then (f p r ^^ f r q) else f x y
    have Fpq : F p q = (f p r ^^ f r q) := if_pos (.inl ⟨rfl, rfl⟩)
    have Fqp : F q p = (f p r ^^ f r q) := if_pos (.inr ⟨rfl, rfl⟩)
    have Fo : ∀ x y, ¬ (x = p ∧ y = q) → ¬ (x = q ∧ y = p) → F x y = f x y := fun x y a b => if_neg (fun z => z.elim a b)
    have g1 : F q r = f q r := Fo _ _ (fun e => rq e.2) (fun e => rp e.2)
    have g2 : F r p = f r p := Fo _ _ (fun e => rp e.1) (fun e => rq e.1)
    have g3 : F p s = f p s := Fo _ _ (fun e => sq e.2) (fun e => sp e.2)
    have g4 : F s q = f s q := Fo _ _ (fun e => sp e.1) (fun e => sq e.1)
    obtain ⟨S, hS⟩ := c.h1 F (fun x y hy => by
      by_cases a : x = p ∧ y = q
      · rw [a.1, a.2, Fpq, Fqp]
      · by_cases b : x = q ∧ y = p
        · rw [b.1, b.2, Fpq, Fqp]
        · rw [Fo x y a b, Fo y x (fun e => b ⟨e.2, e.1⟩) (fun e => a ⟨e.2, e.1⟩)]
          exact fs x y (on x y hy a b)) (fun x y hy => by
      by_cases a : x = p ∧ y = q
      · rw [a.1, a.2, er, Fpq, g1, g2]; exact b1
      · by_cases b : x = q ∧ y = p
        · rw [b.1, b.2, es, Fqp, g3, g4]; exact b4
        · by_cases c1 : x = r ∧ y = p
          · rw [c1.1, c1.2, t2, Fpq, g1, g2]; exact b3
          · by_cases c2 : x = q ∧ y = r
            · rw [c2.1, c2.2, t1, Fpq, g1, g2]; exact b2
            · by_cases c3 : x = s ∧ y = q
              · rw [c3.1, c3.2, u2, Fqp, g3, g4]; exact b6
              · by_cases c4 : x = p ∧ y = s
                · rw [c4.1, c4.2, u1, Fqp, g3, g4]; exact b5
                · have e : nx R' x y = nx R x y := by
                    rw [old x y hy a b, if_neg, if_neg]
                    · rintro (e | e)
                      · exact c3 e
                      · exact c4 e
                    · rintro (e | e)
                      · exact c1 e
                      · exact c2 e
                  have k := ft x y (on x y hy a b)
                  rw [e] at k
                  have tz := T x y hy
                  have tz2 := w.tri2 hy
                  rw [Fo x y a b, Fo, Fo]
                  · exact k
                  · rintro ⟨e1, e2⟩
                    rw [e1, e2, er] at tz2
                    exact c2 ⟨e2, tz2.symm⟩
                  · rintro ⟨e1, e2⟩
                    rw [e1, e2, es] at tz2
                    exact c4 ⟨e2, tz2.symm⟩
                  · rintro ⟨e1, e2⟩
                    rw [e2, e1, er] at tz
                    exact c1 ⟨tz.symm, e1⟩
                  · rintro ⟨e1, e2⟩
                    rw [e2, e1, es] at tz
                    exact c3 ⟨tz.symm, e1⟩)
    have a1 := hS r p (w.sym _ _ hr2)
    have a2 := hS p s hs1
    rw [g2] at a1
    rw [g3] at a2
    have a3 := bx4 _ _ _ _ _ _ k1 a1 a2
    refine ⟨S, fun x y hy => ?_⟩
    rcases (mem x y).mp hy with ⟨g, a, b⟩ | ⟨g, g'⟩ | ⟨g, g'⟩
    · rw [← Fo x y a b]
      exact hS x y g
    · rw [g, g', ← s3, a3]
      exact Bool.xor_comm _ _
    · rw [g, g']
      exact a3
  · have st : ∀ x y, y ∈ R x → Way R' (fun _ => False) x y := fun x y hy => by
      by_cases a : x = p ∧ y = q
      · rw [a.1, a.2]
        exact .on (.on .here mpr (fun q => q)) mrq (fun q => q)
      · by_cases b : x = q ∧ y = p
        · rw [b.1, b.2]
          exact .on (.on .here mqr (fun q => q)) mrp (fun q => q)
        · exact .on .here (on x y hy a b) (fun q => q)
    have wy : ∀ x y, Way R (fun _ => False) x y → Way R' (fun _ => False) x y := fun x y k => by
      induction k with
      | here => exact .here
      | on _ h1 _ ih => exact ih.trans (st _ _ h1)
    exact fun x y hx hy _ _ => wy x y (c.conn x y hx hy (fun q => q) (fun q => q))
  · intro z
    by_cases a : x = p
    · rw [a] at z; rw [z] at mpr; simp at mpr
    · by_cases b : x = q
      · rw [b] at z; rw [z] at mqr; simp at mqr
      · obtain ⟨y, hy⟩ := List.exists_mem_of_ne_nil _ (c.full x hx)
        have := on x y hy (fun e => a e.1) (fun e => b e.1)
        rw [z] at this
        simp at this
end
/-- the first three places -/
def R3 : Rows := fun x => if x = 0 then [1, 2] else if x = 1 then [2, 0] else if x = 2 then [0, 1] else []
theorem R3_mem (x y : Nat) : y ∈ R3 x ↔ x < 3 ∧ y < 3 ∧ x ≠ y := by
  by_cases h0 : x = 0
  · subst h0; simp [R3]; omega
  · by_cases h1 : x = 1
    · subst h1; simp [R3]; omega
    · by_cases h2 : x = 2
      · subst h2; simp [R3]; omega
      · simp [R3, h0, h1, h2]; omega
theorem lt3 {x : Nat} (h : x < 3) : x = 0 ∨ x = 1 ∨ x = 2 := by omega
theorem cor3 : Cor 3 R3 := by
  refine ⟨⟨⟨fun p => ?_, fun p q h => ((R3_mem p q).mp h).1, fun p h => ((R3_mem p p).mp h).2.2 rfl, fun p q h => (R3_mem q p).mpr ?_⟩, fun p q h => ?_⟩, fun f fs ft => ?_, ?_, by decide, fun p hp => ?_⟩
  · by_cases h0 : p = 0
    · subst h0; decide
    · by_cases h1 : p = 1
      · subst h1; decide
      · by_cases h2 : p = 2
        · subst h2; decide
        · simp [R3, h0, h1, h2]
  · have := (R3_mem p q).mp h
    exact ⟨this.2.1, this.1, this.2.2.symm⟩
  · have := (R3_mem p q).mp h
    rcases lt3 this.1 with rfl | rfl | rfl <;> rcases lt3 this.2.1 with rfl | rfl | rfl <;> first | (exfalso; omega) | decide
  · have k := ft 0 1 (by decide)
    have e : nx R3 0 1 = 2 := by decide
    rw [e] at k
    have s1 := fs 0 1 (by decide)
    have s2 := fs 1 2 (by decide)
    have s3 := fs 2 0 (by decide)
    refine ⟨fun x => if x = 0 then false else f 0 x, fun p q h => ?_⟩
    have := (R3_mem p q).mp h
    have b : ∀ a b c : Bool, (a ^^ b ^^ c) = false → b = (a ^^ c) ∧ b = (c ^^ a) := by decide
    obtain ⟨b1, b2⟩ := b _ _ _ k
    rcases lt3 this.1 with rfl | rfl | rfl <;> rcases lt3 this.2.1 with rfl | rfl | rfl <;> first | (exfalso; omega) | simp
    · exact s1.symm
    · rw [← s3]; exact b1
    · exact s3
    · rw [← s2, ← s3]; exact b2
  · have : ∀ x y, x < 3 → y < 3 → Way R3 (fun _ => False) x y := fun x y hx hy => by
      by_cases e : x = y
      · rw [e]; exact .here
      · exact .on .here ((R3_mem x y).mpr ⟨hx, hy, e⟩) (fun q => q)
    exact fun x y hx hy _ _ => this x y hx hy
  · rcases lt3 hp with rfl | rfl | rfl <;> decide
end Gw
set_option linter.all false
/-! Faces as cycles of steps; how many there are. -/
namespace Gw
abbrev S := Nat × Nat
def phi (R : Rows) (s : S) : S := (s.2, nx R s.1 s.2)
def stp (R : Rows) (s : S) : Prop := s.2 ∈ R s.1
def lnk (f : S → S) : List S → S → Prop
  | [], _ => True
  | s :: t, e => f s = t.headD e ∧ lnk f t e
theorem lnk_app {f : S → S} : ∀ {l1 l2 : List S} {e : S}, lnk f (l1 ++ l2) e ↔ lnk f l1 (l2.headD e) ∧ lnk f l2 e
  | [], l2, e => by simp [lnk]
  | s :: t, l2, e => by
    show (f s = (t ++ l2).headD e ∧ lnk f (t ++ l2) e) ↔ (f s = t.headD (l2.headD e) ∧ lnk f t (l2.headD e)) ∧ lnk f l2 e
    rw [lnk_app]
    have : (t ++ l2).headD e = t.headD (l2.headD e) := by cases t <;> rfl
    rw [this, and_assoc]
theorem lnk_map {f g h : S → S} (k : ∀ s, h (f s) = g (h s)) : ∀ {l : List S} {e : S}, lnk f l e → lnk g (l.map h) (h e)
  | [], _, _ => trivial
  | s :: t, e, ⟨a, b⟩ => ⟨by
      rw [← k, a]
      cases t <;> rfl, lnk_map k b⟩
theorem lnk_congr {f g : S → S} : ∀ {l : List S} {e : S}, (∀ s, s ∈ l → f s = g s) → lnk f l e → lnk g l e
  | [], _, _, _ => trivial
  | s :: t, e, h, ⟨a, b⟩ => ⟨by rw [← h s (by simp), a], lnk_congr (fun s hs => h s (List.mem_cons_of_mem _ hs)) b⟩
/-- all that is linked behind one of a closed set is in it -/
theorem lnk_in {f : S → S} {P : S → Prop} (hP : ∀ s, P s → P (f s)) : ∀ {t : List S} {s e : S}, lnk f (s :: t) e → P s → (∀ x, x ∈ s :: t → P x) ∧ P e
  | [], s, e, h, hs => ⟨fun x hx => by rw [List.mem_singleton.mp hx]; exact hs, by have := hP s hs; rw [h.1] at this; exact this⟩
  | y :: t, s, e, h, hs => by
    have e1 : f s = y := h.1
    have hy : P y := e1 ▸ hP s hs
    obtain ⟨a, b⟩ := lnk_in hP h.2 hy
    refine ⟨fun x hx => ?_, b⟩
    rcases List.mem_cons.mp hx with q | q
    · rw [q]; exact hs
    · exact a x q
theorem lnk_det {f : S → S} {x : S} : ∀ {t1 t2 : List S} {a : S}, lnk f (a :: t1) x → lnk f (a :: t2) x → x ∉ t1 → x ∉ t2 → t1 = t2
  | [], [], _, _, _, _, _ => rfl
  | [], y :: t2, a, h1, h2, _, n2 => by
    have e1 : f a = x := h1.1
    have e2 : f a = y := h2.1
    exact absurd (List.mem_cons.mpr (.inl (e1.symm.trans e2))) n2
  | y :: t1, [], a, h1, h2, n1, _ => by
    have e1 : f a = y := h1.1
    have e2 : f a = x := h2.1
    exact absurd (List.mem_cons.mpr (.inl (e2.symm.trans e1))) n1
  | y :: t1, z :: t2, a, h1, h2, n1, n2 => by
    have e1 : f a = y := h1.1
    have e2 : f a = z := h2.1
    have e : y = z := e1.symm.trans e2
    subst e
    rw [lnk_det h1.2 h2.2 (fun q => n1 (List.mem_cons_of_mem _ q)) (fun q => n2 (List.mem_cons_of_mem _ q))]

structure Cyc (R : Rows) (c : List S) : Prop where
  ne : c ≠ []
  nd : c.Nodup
  st : ∀ s, s ∈ c → stp R s
  lk : lnk (phi R) c (c.headD (0, 0))
section
variable {n : Nat} {R : Rows}
theorem Cyc.rot {l1 l2 : List S} (h : Cyc R (l1 ++ l2)) : Cyc R (l2 ++ l1) := by
  refine ⟨?_, (List.perm_append_comm).nodup_iff.mp h.nd, fun s hs => h.st s (by simp at hs ⊢; exact hs.symm), ?_⟩
  · have := h.ne
    simp at this ⊢
    grind
  · have k := h.lk
    rw [lnk_app] at k ⊢
    cases l1 with
    | nil => simpa [lnk] using k.2
    | cons a l1 =>
      cases l2 with
      | nil => simpa [lnk] using k.1
      | cons b l2 => exact ⟨k.2, k.1⟩
theorem Cyc.at {c : List S} {s : S} (h : Cyc R c) (hs : s ∈ c) : ∃ t, Cyc R (s :: t) ∧ ∃ a b, c = a ++ s :: b ∧ t = b ++ a := by
  obtain ⟨a, b, e⟩ := List.append_of_mem hs
  rw [e] at h
  exact ⟨b ++ a, by simpa using h.rot, a, b, e, rfl⟩
theorem Cyc.mem_rot {c t : List S} {s : S} (h : ∃ a b, c = a ++ s :: b ∧ t = b ++ a) (x : S) : x ∈ s :: t ↔ x ∈ c := by
  obtain ⟨a, b, e1, e2⟩ := h
  rw [e1, e2]
  simp
  grind
theorem Cyc.next {c : List S} {s : S} (h : Cyc R c) (hs : s ∈ c) : phi R s ∈ c := by
  obtain ⟨t, ht, e⟩ := h.at hs
  rw [← Cyc.mem_rot e]
  have := ht.lk.1
  rw [this]
  cases t <;> simp
theorem Cyc.pred {c : List S} {s : S} (h : Cyc R c) (hs : s ∈ c) : ∃ s', s' ∈ c ∧ phi R s' = s := by
  obtain ⟨t, ht, e⟩ := h.at hs
  have k := ht.lk
  rcases List.eq_nil_or_concat t with rfl | ⟨u, z, rfl⟩
  · exact ⟨s, hs, k.1⟩
  · rw [show s :: u.concat z = (s :: u) ++ [z] by simp, lnk_app] at k
    refine ⟨z, (Cyc.mem_rot e z).mp (by simp), k.2.1⟩
theorem Cyc.sub {c c' : List S} {s : S} (h : Cyc R c) (h' : Cyc R c') (hs : s ∈ c) (hs' : s ∈ c') : ∀ x, x ∈ c → x ∈ c' := by
  obtain ⟨t, ht, e⟩ := h.at hs
  have := (lnk_in (P := fun x => x ∈ c') (fun x hx => h'.next hx) ht.lk hs').1
  exact fun x hx => this x ((Cyc.mem_rot e x).mpr hx)
theorem Cyc.same {s : S} {t t' : List S} (h : Cyc R (s :: t)) (h' : Cyc R (s :: t')) : t = t' :=
  lnk_det h.lk h'.lk (List.nodup_cons.mp h.nd).1 (List.nodup_cons.mp h'.nd).1

theorem Web.phi_stp (w : Web n R) {s : S} (h : stp R s) : stp R (phi R s) := w.nx_mem h
theorem Web.phi_inj (w : Web n R) {s s' : S} (h : stp R s) (h' : stp R s') (e : phi R s = phi R s') : s = s' := by
  obtain ⟨p, q⟩ := s
  obtain ⟨p', q'⟩ := s'
  have e1 : q = q' := congrArg Prod.fst e
  subst e1
  have e2 : nx R p q = nx R p' q := congrArg Prod.snd e
  have e3 : p = p' := w.nx_inj (q := q) h h' e2
  rw [e3]

/-- a way round a face grows by the next step, till it comes back -/
theorem Web.grow (w : Web n R) {s h : S} {t : List S} (k : lnk (phi R) (s :: t) h) (nd : (s :: t).Nodup) (st : ∀ x, x ∈ s :: t → stp R x) (hne : h ≠ s) : h ∉ s :: t ∧ stp R h ∧ lnk (phi R) (s :: (t ++ [h])) (phi R h) := by
  have hst : stp R h := (lnk_in (P := stp R) (fun x hx => w.phi_stp hx) k (st s (by simp))).2
  refine ⟨fun hm => ?_, hst, ?_⟩
  · have hm : h ∈ t := by
      rcases List.mem_cons.mp hm with q | q
      · exact absurd q hne
      · exact q
    obtain ⟨a, b, e⟩ := List.append_of_mem hm
    -- the one ahead of h
    obtain ⟨u, y, eu⟩ : ∃ u y, s :: a = u ++ [y] := by
      rcases List.eq_nil_or_concat (s :: a) with q | ⟨u, y, q⟩
      · exact absurd q (by simp)
      · exact ⟨u, y, by simpa using q⟩
    have e2 : s :: t = u ++ (y :: h :: b) := by
      rw [e, ← List.cons_append, eu]
      simp
    -- the last one
    obtain ⟨v, z, ez⟩ : ∃ v z, h :: b = v ++ [z] := by
      rcases List.eq_nil_or_concat (h :: b) with q | ⟨u, y, q⟩
      · exact absurd q (by simp)
      · exact ⟨u, y, by simpa using q⟩
    have e3 : s :: t = (u ++ y :: v) ++ [z] := by
      rw [e2, ez]
      simp
    have k1 := k
    rw [e2, lnk_app] at k1
    have f1 : phi R y = h := k1.2.1
    have k2 := k
    rw [e3, lnk_app] at k2
    have f2 : phi R z = h := k2.2.1
    have ey : stp R y := st y (by rw [e2]; simp)
    have ezs : stp R z := st z (by rw [e3]; simp)
    have eq := w.phi_inj ey ezs (f1.trans f2.symm)
    rw [e2, List.nodup_append] at nd
    have := nd.2.1
    rw [List.nodup_cons, ez, eq] at this
    exact this.1 (by simp)
  · rw [← List.cons_append, lnk_app]
    exact ⟨k, rfl, trivial⟩

def stepsOf (n : Nat) (R : Rows) : List S := (List.range n).flatMap fun p => (R p).map fun q => (p, q)
theorem mem_stepsOf (w : Web n R) (s : S) : s ∈ stepsOf n R ↔ stp R s := by
  unfold stepsOf
  rw [List.mem_flatMap]
  constructor
  · rintro ⟨p, _, h⟩
    obtain ⟨q, hq, e⟩ := List.mem_map.mp h
    rw [← e]
    exact hq
  · intro h
    exact ⟨s.1, List.mem_range.mpr (w.lt _ _ h), List.mem_map.mpr ⟨s.2, h, rfl⟩⟩
theorem len_stepsOf (R : Rows) : ∀ n, (stepsOf n R).length = total n R
  | 0 => rfl
  | n + 1 => by
    have ih := len_stepsOf R n
    unfold stepsOf at ih ⊢
    rw [List.range_succ, List.flatMap_append, List.length_append, ih]
    simp [total]
theorem nodup_stepsOf (w : Web n R) : (stepsOf n R).Nodup := by
  have : ∀ m, (stepsOf m R).Nodup := fun m => by
    induction m with
    | zero => exact List.nodup_nil
    | succ m ih =>
      unfold stepsOf at ih ⊢
      rw [List.range_succ, List.flatMap_append, List.nodup_append]
      refine ⟨ih, ?_, fun a ha b hb e => ?_⟩
      · simp only [List.flatMap_cons, List.flatMap_nil, List.append_nil]
        refine List.Pairwise.map _ (fun x y hxy e => hxy (congrArg Prod.snd e)) (w.nd m)
      · obtain ⟨p, hp, h⟩ := List.mem_flatMap.mp ha
        obtain ⟨q, _, e1⟩ := List.mem_map.mp h
        simp only [List.flatMap_cons, List.flatMap_nil, List.append_nil] at hb
        obtain ⟨q', _, e2⟩ := List.mem_map.mp hb
        have := congrArg Prod.fst ((e1.trans e).trans e2.symm)
        have lt := List.mem_range.mp hp
        simp at this
        omega
  exact this n
theorem nodup_len {α : Type} [DecidableEq α] : ∀ {l m : List α}, l.Nodup → (∀ x, x ∈ l → x ∈ m) → l.length ≤ m.length
  | [], m, _, _ => Nat.zero_le _
  | x :: l, m, hn, hs => by
    have hx := hs x (by simp)
    rw [List.nodup_cons] at hn
    have ih := nodup_len (m := m.erase x) hn.2 fun y hy => by
      have : y ≠ x := fun e => hn.1 (e ▸ hy)
      rw [List.mem_erase_of_ne this]
      exact hs y (List.mem_cons_of_mem _ hy)
    rw [List.length_erase_of_mem hx] at ih
    have := List.length_pos_of_mem hx
    show l.length + 1 ≤ _
    omega
theorem Web.cyc_go (w : Web n R) : ∀ (k : Nat) {s h : S} {t : List S}, total n R - (s :: t).length = k → lnk (phi R) (s :: t) h → (s :: t).Nodup → (∀ x, x ∈ s :: t → stp R x) → ∃ t', Cyc R (s :: t')
  | k, s, h, t, hk, lk, nd, st => by
    by_cases e : h = s
    · subst e
      exact ⟨t, by simp, nd, st, lk⟩
    · obtain ⟨h1, h2, h3⟩ := w.grow lk nd st e
      have nd' : (s :: (t ++ [h])).Nodup := by
        rw [← List.cons_append]
        refine List.nodup_append.mpr ⟨nd, by simp, fun a ha b hb e => ?_⟩
        rw [List.mem_singleton.mp hb] at e
        exact h1 (e ▸ ha)
      have st' : ∀ x, x ∈ s :: (t ++ [h]) → stp R x := fun x hx => by
        rw [← List.cons_append] at hx
        rcases List.mem_append.mp hx with q | q
        · exact st x q
        · rw [List.mem_singleton.mp q]; exact h2
      have hl : (s :: (t ++ [h])).length ≤ total n R := by
        rw [← len_stepsOf]
        exact nodup_len nd' fun x hx => (mem_stepsOf w x).mpr (st' x hx)
      have hl2 : (s :: (t ++ [h])).length = (s :: t).length + 1 := by simp
      exact w.cyc_go (k - 1) (by omega) h3 nd' st'
  termination_by k => k
  decreasing_by
    have hl2 : (s :: (t ++ [h])).length = (s :: t).length + 1 := by simp
    omega
theorem Web.cyc_of (w : Web n R) {s : S} (h : stp R s) : ∃ t, Cyc R (s :: t) :=
  w.cyc_go _ (s := s) (h := phi R s) (t := []) rfl ⟨rfl, trivial⟩ (by simp) (fun x hx => by rw [List.mem_singleton.mp hx]; exact h)

structure Cycs (R : Rows) (cs : List (List S)) : Prop where
  cyc : ∀ c, c ∈ cs → Cyc R c
  nd : cs.flatten.Nodup
structure Dec (R : Rows) (cs : List (List S)) : Prop extends Cycs R cs where
  all : ∀ s, stp R s → s ∈ cs.flatten
theorem Cycs.add {cs : List (List S)} {c : List S} {s : S} (h : Cycs R cs) (hc : Cyc R c) (hs : s ∈ c) (hn : s ∉ cs.flatten) : Cycs R (cs ++ [c]) := by
  refine ⟨fun c' hc' => ?_, ?_⟩
  · rcases List.mem_append.mp hc' with q | q
    · exact h.cyc c' q
    · rw [List.mem_singleton.mp q]; exact hc
  · rw [List.flatten_append, List.nodup_append]
    refine ⟨h.nd, by simpa using hc.nd, fun a ha b hb e => ?_⟩
    rw [show [c].flatten = c by simp, ← e] at hb
    obtain ⟨c', hc', ha'⟩ := List.mem_flatten.mp ha
    exact hn (List.mem_flatten.mpr ⟨c', hc', hc.sub (h.cyc c' hc') hb ha' s hs⟩)
theorem Web.dec_go (w : Web n R) : ∀ (l : List S) (cs : List (List S)), (∀ x, x ∈ l → stp R x) → Cycs R cs → ∃ cs', Cycs R cs' ∧ (∀ x, x ∈ cs.flatten → x ∈ cs'.flatten) ∧ ∀ x, x ∈ l → x ∈ cs'.flatten
  | [], cs, _, h => ⟨cs, h, fun _ q => q, fun _ q => absurd q (by simp)⟩
  | s :: l, cs, hl, h => by
    by_cases hs : s ∈ cs.flatten
    · obtain ⟨cs', a, b, c⟩ := w.dec_go l cs (fun x hx => hl x (List.mem_cons_of_mem _ hx)) h
      refine ⟨cs', a, b, fun x hx => ?_⟩
      rcases List.mem_cons.mp hx with q | q
      · rw [q]; exact b s hs
      · exact c x q
    · obtain ⟨t, ht⟩ := w.cyc_of (hl s (by simp))
      obtain ⟨cs', a, b, c⟩ := w.dec_go l (cs ++ [s :: t]) (fun x hx => hl x (List.mem_cons_of_mem _ hx)) (h.add ht (by simp) hs)
      refine ⟨cs', a, fun x hx => b x (by rw [List.flatten_append]; exact List.mem_append_left _ hx), fun x hx => ?_⟩
      rcases List.mem_cons.mp hx with q | q
      · rw [q]; exact b s (by rw [List.flatten_append]; exact List.mem_append_right _ (by simp))
      · exact c x q
theorem Web.dec_ex (w : Web n R) : ∃ cs, Dec R cs := by
  obtain ⟨cs, a, _, c⟩ := w.dec_go (stepsOf n R) [] (fun x hx => (mem_stepsOf w x).mp hx) ⟨fun _ q => absurd q (by simp), by simp⟩
  exact ⟨cs, a, fun s hs => c s ((mem_stepsOf w s).mpr hs)⟩

/-- two cycles of one list that share a step are one -/
theorem Cycs.uniq : ∀ {cs : List (List S)} {i j : Nat} {c c' : List S} {s : S}, cs.flatten.Nodup → cs[i]? = some c → cs[j]? = some c' → s ∈ c → s ∈ c' → i = j
  | [], i, j, _, _, _, _, h, _, _, _ => by simp at h
  | d :: cs, 0, 0, _, _, _, _, _, _, _, _ => rfl
  | d :: cs, 0, j + 1, c, c', s, hn, h1, h2, s1, s2 => by
    rw [List.flatten_cons, List.nodup_append] at hn
    have e : d = c := Option.some.inj h1
    rw [← e] at s1
    exact absurd rfl (hn.2.2 s s1 s (List.mem_flatten.mpr ⟨c', List.mem_of_getElem? h2, s2⟩))
  | d :: cs, i + 1, 0, c, c', s, hn, h1, h2, s1, s2 => by
    rw [List.flatten_cons, List.nodup_append] at hn
    have e : d = c' := Option.some.inj h2
    rw [← e] at s2
    exact absurd rfl (hn.2.2 s s2 s (List.mem_flatten.mpr ⟨c, List.mem_of_getElem? h1, s1⟩))
  | d :: cs, i + 1, j + 1, c, c', s, hn, h1, h2, s1, s2 => by
    rw [List.flatten_cons, List.nodup_append] at hn
    rw [Cycs.uniq hn.2.1 (i := i) (j := j) h1 h2 s1 s2]
/-- at which place of the second list each cycle of the first one stands -/
theorem places {cs ds : List (List S)} (hc : Cycs R cs) (hd : Dec R ds) : ∀ k, k ≤ cs.length → ∃ l : List Nat, l.length = k ∧ l.Nodup ∧ (∀ x, x ∈ l → x < ds.length) ∧ ∀ x, x ∈ l → ∃ i c d, i < k ∧ cs[i]? = some c ∧ ds[x]? = some d ∧ ∀ s, s ∈ c → s ∈ d
  | 0, _ => ⟨[], rfl, by simp, fun _ h => absurd h (by simp), fun _ h => absurd h (by simp)⟩
  | k + 1, hk => by
    obtain ⟨l, h1, h2, h3, h4⟩ := places hc hd k (by omega)
    obtain ⟨c, ec⟩ : ∃ c, cs[k]? = some c := ⟨cs[k], List.getElem?_eq_getElem (by omega)⟩
    have cc := hc.cyc c (List.mem_of_getElem? ec)
    obtain ⟨s, hs⟩ := List.exists_mem_of_ne_nil _ cc.ne
    obtain ⟨d, hd1, hd2⟩ := List.mem_flatten.mp (hd.all s (cc.st s hs))
    obtain ⟨x, hx, ex⟩ := List.mem_iff_getElem.mp hd1
    have ex' : ds[x]? = some d := by rw [List.getElem?_eq_getElem hx, ex]
    have cd := hd.cyc d hd1
    have sub := cc.sub cd hs hd2
    refine ⟨x :: l, by simp [h1], List.nodup_cons.mpr ⟨fun q => ?_, h2⟩, fun y hy => ?_, fun y hy => ?_⟩
    · obtain ⟨i, c', d', hi, e1, e2, e3⟩ := h4 x q
      rw [ex'] at e2
      cases e2
      have cc' := hc.cyc c' (List.mem_of_getElem? e1)
      obtain ⟨s', hs'⟩ := List.exists_mem_of_ne_nil _ cc'.ne
      have back := cd.sub cc' (e3 s' hs') hs' s hd2
      have := Cycs.uniq hc.nd e1 ec back hs
      omega
    · rcases List.mem_cons.mp hy with q | q
      · rw [q]; exact hx
      · exact h3 y q
    · rcases List.mem_cons.mp hy with q | q
      · exact ⟨k, c, d, by omega, ec, by rw [q]; exact ex', sub⟩
      · obtain ⟨i, c', d', hi, e⟩ := h4 y q
        exact ⟨i, c', d', by omega, e⟩
theorem Cycs.le {cs ds : List (List S)} (hc : Cycs R cs) (hd : Dec R ds) : cs.length ≤ ds.length := by
  obtain ⟨l, h1, h2, h3, _⟩ := places hc hd cs.length (Nat.le_refl _)
  have := nodup_len (m := List.range ds.length) h2 fun x hx => List.mem_range.mpr (h3 x hx)
  rw [List.length_range] at this
  omega
theorem Dec.len {cs ds : List (List S)} (hc : Dec R cs) (hd : Dec R ds) : cs.length = ds.length :=
  Nat.le_antisymm (hc.toCycs.le hd) (hd.toCycs.le hc)
theorem Dec.flat_len (w : Web n R) {cs : List (List S)} (h : Dec R cs) : cs.flatten.length = total n R := by
  rw [← len_stepsOf]
  refine Nat.le_antisymm (nodup_len h.nd fun x hx => ?_) (nodup_len (nodup_stepsOf w) fun x hx => h.all x ((mem_stepsOf w x).mp hx))
  obtain ⟨c, hc, hx⟩ := List.mem_flatten.mp hx
  exact (mem_stepsOf w x).mpr ((h.cyc c hc).st x hx)
end
end Gw
set_option linter.all false
/-! A tie taken out; what a web of the law is. -/
namespace Gw
/-- each f that comes to nothing round each face is told by sides of the places -/
def H1 (n : Nat) (R : Rows) : Prop := ∀ f : Nat → Nat → Bool, (∀ p q, q ∈ R p → f p q = f q p) → (∃ g : S → Bool, ∀ p q, q ∈ R p → g (q, nx R p q) = (g (p, q) ^^ f p q)) → ∃ s : Nat → Bool, ∀ p q, q ∈ R p → f p q = (s p ^^ s q)
theorem bx5 : ∀ a b c fa fb fc : Bool, b = (a ^^ fa) → c = (b ^^ fb) → a = (c ^^ fc) → (fa ^^ fb ^^ fc) = false := by decide
structure Net (n : Nat) (R : Rows) : Prop extends Web n R where
  h1 : H1 n R
  tied : Tied n R
  full : ∀ p, p < n → R p ≠ []
  flat : ∀ cs, Dec R cs → 2 * (n + cs.length) = total n R + 4
section
variable {n : Nat} {R : Rows}
theorem Cor.three (c : Cor n R) {s : S} {t : List S} (h : Cyc R (s :: t)) : t.length = 2 := by
  have w := c.toTri
  obtain ⟨p, q⟩ := s
  have hs : q ∈ R p := h.st (p, q) (by simp)
  have pq := w.neq hs
  have e3 : phi R (phi R (phi R (p, q))) = (p, q) := by
    show (nx R q (nx R p q), nx R (nx R p q) (nx R q (nx R p q))) = (p, q)
    rw [w.tri p q hs, w.tri2 hs]
  have k := h.lk
  match t, h, k with
  | [], h, k =>
    have : phi R (p, q) = (p, q) := k.1
    have : q = p := congrArg Prod.fst this
    exact absurd this pq
  | [a], h, k =>
    have k1 : phi R (p, q) = a := k.1
    have k2 : phi R a = (p, q) := k.2.1
    rw [← k1] at k2
    have e : nx R p q = p := congrArg Prod.fst k2
    exact absurd e (w.neq (w.adj hs))
  | [a, b], h, k => rfl
  | a :: b :: d :: t, h, k =>
    have k1 : phi R (p, q) = a := k.1
    have k2 : phi R a = b := k.2.1
    have k3 : phi R b = d := k.2.2.1
    rw [← k2, ← k1, e3] at k3
    have nd := (List.nodup_cons.mp h.nd).1
    exact absurd (by rw [← k3]; simp) nd
theorem Cor.net (c : Cor n R) : Net n R := by
  refine ⟨c.toWeb, fun f fs ⟨g, hg⟩ => c.h1 f fs fun p q h => ?_, c.toTri.tied c.conn, c.full, fun cs h => ?_⟩
  · have a1 := hg p q h
    have h2 := c.nx_mem h
    have a2 := hg q _ h2
    have h3 := c.nx_mem h2
    have a3 := hg _ _ h3
    rw [c.tri p q h] at a2 a3
    rw [c.toTri.tri2 h] at a3
    exact bx5 _ _ _ _ _ _ a1 a2 a3
  · have e := h.flat_len c.toWeb
    have : ∀ ds : List (List S), (∀ d, d ∈ ds → Cyc R d) → ds.flatten.length = 3 * ds.length := fun ds hd => by
      induction ds with
      | nil => rfl
      | cons d ds ih =>
        rw [List.flatten_cons, List.length_append, ih (fun d h => hd d (List.mem_cons_of_mem _ h))]
        have hc := hd d (by simp)
        cases d with
        | nil => exact absurd rfl hc.ne
        | cons s t =>
          have := c.three hc
          simp only [List.length_cons] at this ⊢
          omega
    rw [this cs h.cyc] at e
    have := c.tot
    omega

/-- a tie taken out -/
def cutR (R : Rows) (a b : Nat) : Rows := put (put R a ((R a).erase b)) b ((R b).erase a)
theorem cut_mem (w : Web n R) {a b : Nat} (h : b ∈ R a) (x y : Nat) : y ∈ cutR R a b x ↔ y ∈ R x ∧ ¬ (x = a ∧ y = b) ∧ ¬ (x = b ∧ y = a) := by
  have ne := w.neq h
  unfold cutR
  by_cases h1 : x = b
  · subst h1
    rw [put_same, erase_mem (w.nd _)]
    grind
  · rw [put_ne h1]
    by_cases h2 : x = a
    · subst h2
      rw [put_same, erase_mem (w.nd _)]
      grind
    · rw [put_ne h2]
      grind
theorem cut_nd (w : Web n R) {a b : Nat} (x : Nat) : (cutR R a b x).Nodup := by
  unfold cutR
  by_cases h1 : x = b
  · subst h1
    rw [put_same]
    exact (w.nd _).erase _
  · rw [put_ne h1]
    by_cases h2 : x = a
    · subst h2
      rw [put_same]
      exact (w.nd _).erase _
    · rw [put_ne h2]
      exact w.nd x
theorem cut_nx (w : Web n R) {a b : Nat} (h : b ∈ R a) {x y : Nat} (hy : y ∈ R x) (n1 : ¬ (x = a ∧ y = b)) (n2 : ¬ (x = b ∧ y = a)) :
    nx (cutR R a b) x y = if y = b ∧ nx R x y = a then nx R a b else if y = a ∧ nx R x y = b then nx R b a else nx R x y := by
  have ne := w.neq h
  have hx := w.sym _ _ hy
  have h' := w.sym _ _ h
  show prv (cutR R a b y) x = _
  unfold cutR
  by_cases h1 : y = b
  · subst h1
    have xa : x ≠ a := fun e => n1 ⟨e, rfl⟩
    rw [put_same, prv_erase (w.nd _) h' hx xa]
    show _ = if _ ∧ prv (R y) x = a then prv (R y) a else if _ then _ else prv (R y) x
    grind
  · rw [put_ne h1]
    by_cases h2 : y = a
    · subst h2
      have xb : x ≠ b := fun e => n2 ⟨e, rfl⟩
      rw [put_same, prv_erase (w.nd _) h hx xb]
      show _ = if _ then _ else if _ ∧ prv (R y) x = b then prv (R y) b else prv (R y) x
      grind
    · rw [put_ne h2]
      show _ = if _ then _ else if _ then _ else prv (R y) x
      grind
theorem cut_web (w : Web n R) {a b : Nat} (h : b ∈ R a) : Web n (cutR R a b) := by
  refine ⟨fun x => cut_nd w x, fun x y hy => w.lt _ _ ((cut_mem w h x y).mp hy).1, fun x hx => w.ne _ ((cut_mem w h x x).mp hx).1, fun x y hy => ?_⟩
  obtain ⟨g, n1, n2⟩ := (cut_mem w h x y).mp hy
  exact (cut_mem w h y x).mpr ⟨w.sym _ _ g, fun e => n2 ⟨e.2, e.1⟩, fun e => n1 ⟨e.2, e.1⟩⟩
theorem cut_total (w : Web n R) {a b : Nat} (h : b ∈ R a) : total n (cutR R a b) + 2 = total n R := by
  have ne := w.neq h
  have h' := w.sym _ _ h
  have a1 := total_put (R := R) (p := a) (n := n) (l := (R a).erase b) (w.lt _ _ h)
  have a2 := total_put (R := put R a ((R a).erase b)) (p := b) (n := n) (l := (R b).erase a) (w.lt2 h)
  rw [put_ne ne] at a2
  rw [List.length_erase_of_mem h] at a1
  rw [List.length_erase_of_mem h'] at a2
  have l1 := List.length_pos_of_mem h
  have l2 := List.length_pos_of_mem h'
  show total n (put (put R a ((R a).erase b)) b ((R b).erase a)) + 2 = _
  omega

theorem bx6 : ∀ A B C D : Bool, D = (C ^^ (C ^^ D)) ∧ C = (D ^^ (C ^^ D)) := by decide
/-- the potentials come over -/
theorem cut_h1 (w : Web n R) (hh : H1 n R) {a b : Nat} (h : b ∈ R a) (d1 : nx R a b ≠ a) (d2 : nx R b a ≠ b) : H1 n (cutR R a b) := by
  intro f fs ⟨g, hg⟩
  have ne := w.neq h
  have h' := w.sym _ _ h
  -- C, D: the potentials behind (a, b) and (b, a)
  let C := g (b, nx R a b)
  let Dd := g (a, nx R b a)
  let F : Nat → Nat → Bool := fun x y => if (x = a ∧ y = b) ∨ (x = b ∧ y = a) then (C ^^ Dd) else f x y
  let G : S → Bool := fun s => if s = (a, b) then Dd else if s = (b, a) then C else g s
  have Fo : ∀ x y, ¬ (x = a ∧ y = b) → ¬ (x = b ∧ y = a) → F x y = f x y := fun x y p q => if_neg (fun z => z.elim p q)
  have Fab : F a b = (C ^^ Dd) := if_pos (.inl ⟨rfl, rfl⟩)
  have Fba : F b a = (C ^^ Dd) := if_pos (.inr ⟨rfl, rfl⟩)
  have Gab : G (a, b) = Dd := if_pos rfl
  have Gba : G (b, a) = C := by
    show (if (b, a) = (a, b) then Dd else if (b, a) = (b, a) then C else g _) = C
    rw [if_neg (fun e => ne (congrArg Prod.fst e)), if_pos rfl]
  have Go : ∀ x y, ¬ (x = a ∧ y = b) → ¬ (x = b ∧ y = a) → G (x, y) = g (x, y) := fun x y p q => by
    show (if (x, y) = (a, b) then Dd else if (x, y) = (b, a) then C else g _) = _
    rw [if_neg, if_neg]
    · intro e
      exact q ⟨congrArg Prod.fst e, congrArg Prod.snd e⟩
    · intro e
      exact p ⟨congrArg Prod.fst e, congrArg Prod.snd e⟩
  have Cg : G (b, nx R a b) = C := Go _ _ (fun e => ne e.1) (fun e => d1 e.2)
  have Dg : G (a, nx R b a) = Dd := Go _ _ (fun e => d2 e.2) (fun e => ne e.1.symm)
  obtain ⟨s, hs⟩ := hh F (fun x y hy => by
    by_cases p : x = a ∧ y = b
    · rw [p.1, p.2, Fab, Fba]
    · by_cases q : x = b ∧ y = a
      · rw [q.1, q.2, Fab, Fba]
      · rw [Fo x y p q, Fo y x (fun e => q ⟨e.2, e.1⟩) (fun e => p ⟨e.2, e.1⟩)]
        exact fs x y ((cut_mem w h x y).mpr ⟨hy, p, q⟩)) ⟨G, fun x y hy => by
    by_cases p : x = a ∧ y = b
    · rw [p.1, p.2, Cg, Gab, Fab]
      exact (bx6 false false C Dd).2
    · by_cases q : x = b ∧ y = a
      · rw [q.1, q.2, Dg, Gba, Fba]
        exact (bx6 false false C Dd).1
      · rw [Fo x y p q, Go x y p q]
        have k := hg x y ((cut_mem w h x y).mpr ⟨hy, p, q⟩)
        rw [cut_nx w h hy p q] at k
        by_cases c1 : y = b ∧ nx R x y = a
        · rw [if_pos c1] at k
          rw [c1.2]
          rw [c1.1] at k ⊢
          rw [Gba]
          exact k
        · rw [if_neg c1] at k
          by_cases c2 : y = a ∧ nx R x y = b
          · rw [if_pos c2] at k
            rw [c2.2]
            rw [c2.1] at k ⊢
            rw [Gab]
            exact k
          · rw [if_neg c2] at k
            rw [Go y _ (fun e => c2 e) (fun e => c1 e)]
            exact k⟩
  refine ⟨s, fun x y hy => ?_⟩
  obtain ⟨g1, n1, n2⟩ := (cut_mem w h x y).mp hy
  rw [← Fo x y n1 n2]
  exact hs x y g1

theorem bx7 : ∀ a b : Bool, false = (a ^^ b) → a = b := by decide
/-- a tie that parts nothing has unlike faces at its sides -/
theorem two_faces (w : Web n R) (hh : H1 n R) {a b : Nat} (h : b ∈ R a) (hc : Way (cutR R a b) (fun _ => False) a b) {t : List S} (cy : Cyc R ((a, b) :: t)) : (b, a) ∉ t := by
  intro hm
  have ne := w.neq h
  obtain ⟨u, v, e⟩ := List.append_of_mem hm
  subst e
  let f : Nat → Nat → Bool := fun x y => decide ((x = a ∧ y = b) ∨ (x = b ∧ y = a))
  let g : S → Bool := fun s => decide (s ∈ u ++ [(b, a)])
  have nd := cy.nd
  have k := cy.lk
  have e0 : (a, b) :: (u ++ (b, a) :: v) = (a, b) :: ((u ++ [(b, a)]) ++ v) := by simp
  have nd2 : ((u ++ [(b, a)]) ++ v).Nodup := by
    have := (List.nodup_cons.mp nd).2
    simpa using this
  have nv : ∀ s, s ∈ v → s ∉ u ++ [(b, a)] := fun s hs q => by
    rw [List.nodup_append] at nd2
    exact nd2.2.2 s q s hs rfl
  have nab : (a, b) ∉ u ++ [(b, a)] := fun q => (List.nodup_cons.mp nd).1 (by
    have : (a, b) ∈ (u ++ [(b, a)]) ++ v := List.mem_append_left _ q
    simpa using this)
  -- behind (a, b) up to (b, a): true; behind (b, a): false
  have k1 : ∀ s, s ∈ (a, b) :: u → phi R s ∈ u ++ [(b, a)] := fun s hs => by
    have k' := k
    rw [show (a, b) :: (u ++ (b, a) :: v) = ((a, b) :: u) ++ ((b, a) :: v) by simp, lnk_app] at k'
    have kk := k'.1
    have : ∀ (l : List S) (x : S) (e : S), lnk (phi R) (x :: l) e → ∀ s, s ∈ x :: l → phi R s ∈ l ++ [e] := fun l => by
      induction l with
      | nil =>
        intro x e q s hs
        rw [List.mem_singleton.mp hs, q.1]
        simp
      | cons y l ih =>
        intro x e q s hs
        rcases List.mem_cons.mp hs with z | z
        · rw [z, q.1]; simp
        · have := ih y e q.2 s z
          exact List.mem_cons_of_mem _ this
    exact this u (a, b) (b, a) kk s hs
  have k2 : ∀ s, s ∈ (b, a) :: v → phi R s ∈ v ++ [(a, b)] := fun s hs => by
    have k' := k
    rw [show (a, b) :: (u ++ (b, a) :: v) = ((a, b) :: u) ++ ((b, a) :: v) by simp, lnk_app] at k'
    have kk := k'.2
    have : ∀ (l : List S) (x : S) (e : S), lnk (phi R) (x :: l) e → ∀ s, s ∈ x :: l → phi R s ∈ l ++ [e] := fun l => by
      induction l with
      | nil =>
        intro x e q s hs
        rw [List.mem_singleton.mp hs, q.1]
        simp
      | cons y l ih =>
        intro x e q s hs
        rcases List.mem_cons.mp hs with z | z
        · rw [z, q.1]; simp
        · have := ih y e q.2 s z
          exact List.mem_cons_of_mem _ this
    exact this v (b, a) _ kk s hs
  have gt : ∀ s, s ∈ u ++ [(b, a)] → g s = true := fun s hs => decide_eq_true hs
  have gf : ∀ s, s ∉ u ++ [(b, a)] → g s = false := fun s hs => decide_eq_false hs
  obtain ⟨s, hs⟩ := hh f (fun x y _ => by
    show decide _ = decide _
    rw [decide_eq_decide]
    grind) ⟨g, fun x y hy => by
      show g (phi R (x, y)) = _
      by_cases c1 : (x, y) = (a, b)
      · rw [gt _ (k1 _ (by rw [c1]; simp)), gf (x, y) (by rw [c1]; exact nab)]
        have : f x y = true := decide_eq_true (.inl ⟨congrArg Prod.fst c1, congrArg Prod.snd c1⟩)
        rw [this]
        rfl
      · by_cases c2 : (x, y) = (b, a)
        · have : f x y = true := decide_eq_true (.inr ⟨congrArg Prod.fst c2, congrArg Prod.snd c2⟩)
          rw [gt (x, y) (by rw [c2]; simp), this]
          have m := k2 (x, y) (by rw [c2]; simp)
          rw [gf]
          · rfl
          · rcases List.mem_append.mp m with q | q
            · exact nv _ q
            · rw [List.mem_singleton.mp q]; exact nab
        · have ff : f x y = false := decide_eq_false (by
            rintro (⟨e1, e2⟩ | ⟨e1, e2⟩)
            · exact c1 (by rw [e1, e2])
            · exact c2 (by rw [e1, e2]))
          rw [ff, Bool.xor_false]
          by_cases c3 : (x, y) ∈ u
          · rw [gt (x, y) (List.mem_append_left _ c3), gt _ (k1 _ (List.mem_cons_of_mem _ c3))]
          · by_cases c4 : (x, y) ∈ v
            · rw [gf (x, y) (nv _ c4), gf]
              have m := k2 _ (List.mem_cons_of_mem _ c4)
              rcases List.mem_append.mp m with q | q
              · exact nv _ q
              · rw [List.mem_singleton.mp q]; exact nab
            · -- not in the cycle
              rw [gf (x, y), gf]
              · intro m
                have m' : phi R (x, y) ∈ (a, b) :: (u ++ (b, a) :: v) := by
                  rw [e0]
                  exact List.mem_cons_of_mem _ (List.mem_append_left _ m)
                obtain ⟨s', hs', e'⟩ := cy.pred m'
                have := w.phi_inj (s := s') (s' := (x, y)) (cy.st s' hs') hy e'
                rw [this] at hs'
                rw [e0] at hs'
                rcases List.mem_cons.mp hs' with q | q
                · exact c1 q
                · rcases List.mem_append.mp q with q | q
                  · rcases List.mem_append.mp q with q | q
                    · exact c3 q
                    · exact c2 (List.mem_singleton.mp q)
                  · exact c4 q
              · intro m
                rcases List.mem_append.mp m with q | q
                · exact c3 q
                · exact c2 (List.mem_singleton.mp q)⟩
  have way : ∀ x y, Way (cutR R a b) (fun _ => False) x y → s x = s y := fun x y q => by
    induction q with
    | here => rfl
    | @on y z _ h1 _ ih =>
      obtain ⟨g1, n1, n2⟩ := (cut_mem w h y z).mp h1
      have := hs y z g1
      have ff : f y z = false := decide_eq_false (fun q => q.elim n1 n2)
      rw [ff] at this
      rw [ih]
      exact bx7 _ _ this
  have e1 := way a b hc
  have e2 := hs a b h
  have : f a b = true := decide_eq_true (.inl ⟨rfl, rfl⟩)
  rw [this, e1] at e2
  simp at e2

/-- the faces at its sides become one -/
theorem cut_dec (w : Web n R) {a b : Nat} (h : b ∈ R a) (d1 : nx R a b ≠ a) (d2 : nx R b a ≠ b) (two : ∀ t, Cyc R ((a, b) :: t) → (b, a) ∉ t) {cs : List (List S)} (hd : Dec R cs) : ∃ cs', Dec (cutR R a b) cs' ∧ cs'.length + 1 = cs.length := by
  have ne := w.neq h
  have h' := w.sym _ _ h
  have nab : (a, b) ≠ (b, a) := fun e => ne (congrArg Prod.fst e).symm
  obtain ⟨c1, hc1, m1⟩ := List.mem_flatten.mp (hd.all (a, b) h)
  obtain ⟨t1, y1, r1⟩ := (hd.cyc c1 hc1).at m1
  have no1 := two t1 y1
  obtain ⟨l1, l2, e1⟩ := List.append_of_mem hc1
  have nb : (b, a) ∉ c1 := fun q => by
    rcases List.mem_cons.mp ((Cyc.mem_rot r1 _).mpr q) with z | z
    · exact nab z.symm
    · exact no1 z
  have mb : (b, a) ∈ (l1 ++ l2).flatten := by
    have := hd.all (b, a) h'
    rw [e1] at this
    simp only [List.flatten_append, List.flatten_cons, List.mem_append] at this ⊢
    rcases this with q | q | q
    · exact .inl q
    · exact absurd q nb
    · exact .inr q
  obtain ⟨c2, hc2, m2⟩ := List.mem_flatten.mp mb
  have hc2' : c2 ∈ cs := by
    rw [e1]
    simp at hc2 ⊢
    grind
  obtain ⟨t2, y2, r2⟩ := (hd.cyc c2 hc2').at m2
  obtain ⟨k1, k2, e2⟩ := List.append_of_mem hc2
  have fl : ∀ s, s ∈ cs.flatten ↔ s ∈ (a, b) :: t1 ∨ s ∈ (b, a) :: t2 ∨ s ∈ (k1 ++ k2).flatten := fun s => by
    rw [e1, Cyc.mem_rot r1, Cyc.mem_rot r2]
    have : s ∈ (l1 ++ l2).flatten ↔ s ∈ c2 ∨ s ∈ (k1 ++ k2).flatten := by
      rw [e2]
      simp only [List.flatten_append, List.flatten_cons, List.mem_append]
      grind
    simp only [List.flatten_append, List.flatten_cons, List.mem_append] at this ⊢
    grind
  have pm : (((a, b) :: t1) ++ ((b, a) :: t2) ++ (k1 ++ k2).flatten).Nodup := by
    have p1 : cs.flatten.Perm (c1 ++ (c2 ++ (k1 ++ k2).flatten)) := by
      rw [e1]
      refine (List.Perm.flatten (l₁ := l1 ++ c1 :: l2) (l₂ := c1 :: (l1 ++ l2)) List.perm_middle).trans ?_
      rw [List.flatten_cons, e2]
      refine List.Perm.append_left _ ?_
      refine (List.Perm.flatten (l₁ := k1 ++ c2 :: k2) (l₂ := c2 :: (k1 ++ k2)) List.perm_middle).trans ?_
      rw [List.flatten_cons]
    have q1 : c1.Perm ((a, b) :: t1) := by
      obtain ⟨u, v, x1, x2⟩ := r1
      rw [x1, x2]
      exact (List.perm_append_comm (l₁ := u) (l₂ := (a, b) :: v))
    have q2 : c2.Perm ((b, a) :: t2) := by
      obtain ⟨u, v, x1, x2⟩ := r2
      rw [x1, x2]
      exact (List.perm_append_comm (l₁ := u) (l₂ := (b, a) :: v))
    have := (p1.trans (List.Perm.append q1 (List.Perm.append_right _ q2))).nodup_iff.mp hd.nd
    rw [List.append_assoc]
    exact this
  have oldnx : ∀ s, stp R s → s ≠ (a, b) → s ≠ (b, a) → phi R s ≠ (a, b) → phi R s ≠ (b, a) → phi R s = phi (cutR R a b) s := fun s hs n1 n2 n3 n4 => by
    obtain ⟨x, y⟩ := s
    show (y, nx R x y) = (y, nx (cutR R a b) x y)
    rw [cut_nx w h hs (fun e => n1 (Prod.ext e.1 e.2)) (fun e => n2 (Prod.ext e.1 e.2)), if_neg, if_neg]
    · rintro ⟨e1, e2⟩
      exact n3 (Prod.ext e1 e2)
    · rintro ⟨e1, e2⟩
      exact n4 (Prod.ext e1 e2)
  have stp' : ∀ s, stp (cutR R a b) s ↔ stp R s ∧ s ≠ (a, b) ∧ s ≠ (b, a) := fun s => by
    obtain ⟨x, y⟩ := s
    show y ∈ cutR R a b x ↔ _
    rw [cut_mem w h]
    show _ ↔ y ∈ R x ∧ _
    grind
  obtain ⟨A, B, pmN⟩ := List.nodup_append.mp pm
  obtain ⟨A1, A2, A3⟩ := List.nodup_append.mp A
  have nt1 : ∀ s, s ∈ t1 → s ≠ (a, b) ∧ s ≠ (b, a) := fun s hs => ⟨fun e => (List.nodup_cons.mp A1).1 (e ▸ hs), fun e => A3 s (List.mem_cons_of_mem _ hs) (b, a) (by simp) e⟩
  have nt2 : ∀ s, s ∈ t2 → s ≠ (a, b) ∧ s ≠ (b, a) := fun s hs => ⟨fun e => A3 (a, b) (by simp) s (List.mem_cons_of_mem _ hs) e.symm, fun e => (List.nodup_cons.mp A2).1 (e ▸ hs)⟩
  have nk : ∀ s, s ∈ (k1 ++ k2).flatten → s ≠ (a, b) ∧ s ≠ (b, a) := fun s hs => ⟨fun e => pmN (a, b) (by simp) s hs e.symm, fun e => pmN (b, a) (by simp) s hs e.symm⟩
  -- neither side is empty
  have ne1 : t1 ≠ [] := fun e => by
    subst e
    have : phi R (a, b) = (a, b) := y1.lk.1
    exact ne (congrArg Prod.fst this)
  have ne2 : t2 ≠ [] := fun e => by
    subst e
    have : phi R (b, a) = (b, a) := y2.lk.1
    exact ne (congrArg Prod.fst this).symm
  have hd1 : phi R (a, b) = t1.headD (a, b) := y1.lk.1
  have hd2 : phi R (b, a) = t2.headD (b, a) := y2.lk.1
  -- the links of the two sides
  have lk1 : lnk (phi (cutR R a b)) t1 (phi R (b, a)) := by
    have k := y1.lk.2
    obtain ⟨u, z, rfl⟩ : ∃ u z, t1 = u ++ [z] := by
      rcases List.eq_nil_or_concat t1 with q | ⟨u, z, q⟩
      · exact absurd q ne1
      · exact ⟨u, z, by simpa using q⟩
    rw [lnk_app] at k ⊢
    refine ⟨?_, ?_, trivial⟩
    · have k1 : lnk (phi R) u z := k.1
      refine lnk_congr (fun s hs => ?_) k1
      have hs1 : s ∈ u ++ [z] := List.mem_append_left _ hs
      have st := y1.st s (List.mem_cons_of_mem _ hs1)
      have nx1 : phi R s ∈ u ++ [z] := by
        have : ∀ (l : List S) (e : S), lnk (phi R) l e → ∀ s, s ∈ l → phi R s ∈ l.tail ++ [e] := fun l => by
          induction l with
          | nil => intro e _ s hs; exact absurd hs (by simp)
          | cons x l ih =>
            intro e q s hs
            rcases List.mem_cons.mp hs with q2 | q2
            · rw [q2, q.1]
              cases l <;> simp
            · have := ih e q.2 s q2
              cases l with
              | nil => exact absurd q2 (by simp)
              | cons y l => exact List.mem_cons_of_mem _ this
        have := this u z k1 s hs
        rcases List.mem_append.mp this with q | q
        · exact List.mem_append_left _ (List.mem_of_mem_tail q)
        · exact List.mem_append_right _ q
      exact oldnx s st (nt1 s hs1).1 (nt1 s hs1).2 (nt1 _ nx1).1 (nt1 _ nx1).2
    · have k1 : phi R z = (a, b) := k.2.1
      have hz := y1.st z (by simp)
      obtain ⟨x, y⟩ := z
      have ey : y = a := congrArg Prod.fst k1
      have en : nx R x y = b := congrArg Prod.snd k1
      have nz := nt1 (x, y) (by simp)
      show (y, nx (cutR R a b) x y) = (a, nx R b a)
      rw [cut_nx w h hz (fun e => nz.1 (Prod.ext e.1 e.2)) (fun e => nz.2 (Prod.ext e.1 e.2)), if_neg (fun e => ne (e.1.symm.trans ey)), if_pos ⟨ey, en⟩, ey]
  have lk2 : lnk (phi (cutR R a b)) t2 (phi R (a, b)) := by
    have k := y2.lk.2
    obtain ⟨u, z, rfl⟩ : ∃ u z, t2 = u ++ [z] := by
      rcases List.eq_nil_or_concat t2 with q | ⟨u, z, q⟩
      · exact absurd q ne2
      · exact ⟨u, z, by simpa using q⟩
    rw [lnk_app] at k ⊢
    refine ⟨?_, ?_, trivial⟩
    · have k1 : lnk (phi R) u z := k.1
      refine lnk_congr (fun s hs => ?_) k1
      have hs1 : s ∈ u ++ [z] := List.mem_append_left _ hs
      have st := y2.st s (List.mem_cons_of_mem _ hs1)
      have nx1 : phi R s ∈ u ++ [z] := by
        have : ∀ (l : List S) (e : S), lnk (phi R) l e → ∀ s, s ∈ l → phi R s ∈ l.tail ++ [e] := fun l => by
          induction l with
          | nil => intro e _ s hs; exact absurd hs (by simp)
          | cons x l ih =>
            intro e q s hs
            rcases List.mem_cons.mp hs with q2 | q2
            · rw [q2, q.1]
              cases l <;> simp
            · have := ih e q.2 s q2
              cases l with
              | nil => exact absurd q2 (by simp)
              | cons y l => exact List.mem_cons_of_mem _ this
        have := this u z k1 s hs
        rcases List.mem_append.mp this with q | q
        · exact List.mem_append_left _ (List.mem_of_mem_tail q)
        · exact List.mem_append_right _ q
      exact oldnx s st (nt2 s hs1).1 (nt2 s hs1).2 (nt2 _ nx1).1 (nt2 _ nx1).2
    · have k1 : phi R z = (b, a) := k.2.1
      have hz := y2.st z (by simp)
      obtain ⟨x, y⟩ := z
      have ey : y = b := congrArg Prod.fst k1
      have en : nx R x y = a := congrArg Prod.snd k1
      have nz := nt2 (x, y) (by simp)
      show (y, nx (cutR R a b) x y) = (b, nx R a b)
      rw [cut_nx w h hz (fun e => nz.1 (Prod.ext e.1 e.2)) (fun e => nz.2 (Prod.ext e.1 e.2)), if_pos ⟨ey, en⟩, ey]
  refine ⟨(t1 ++ t2) :: (k1 ++ k2), ⟨⟨fun c hc => ?_, ?_⟩, fun s hs => ?_⟩, ?_⟩
  · rcases List.mem_cons.mp hc with q | q
    · rw [q]
      refine ⟨by simp [ne1], ?_, fun s hs => ?_, ?_⟩
      · refine List.nodup_append.mpr ⟨(List.nodup_cons.mp A1).2, (List.nodup_cons.mp A2).2, fun x hx y hy => A3 x (List.mem_cons_of_mem _ hx) y (List.mem_cons_of_mem _ hy)⟩
      · rw [stp']
        rcases List.mem_append.mp hs with q | q
        · exact ⟨y1.st s (List.mem_cons_of_mem _ q), nt1 s q⟩
        · exact ⟨y2.st s (List.mem_cons_of_mem _ q), nt2 s q⟩
      · rw [lnk_app]
        refine ⟨?_, ?_⟩
        · have : t2.headD ((t1 ++ t2).headD (0, 0)) = phi R (b, a) := by
            rw [hd2]
            cases t2 with
            | nil => exact absurd rfl ne2
            | cons _ _ => rfl
          rw [this]
          exact lk1
        · have : (t1 ++ t2).headD (0, 0) = phi R (a, b) := by
            rw [hd1]
            cases t1 with
            | nil => exact absurd rfl ne1
            | cons _ _ => rfl
          rw [this]
          exact lk2
    · have hc' : c ∈ cs := by
        have : c ∈ l1 ++ l2 := by
          rw [e2]
          simp at q ⊢
          grind
        rw [e1]
        simp at this ⊢
        grind
      have cy := hd.cyc c hc'
      have sub : ∀ s, s ∈ c → s ∈ (k1 ++ k2).flatten := fun s hs => List.mem_flatten.mpr ⟨c, q, hs⟩
      refine ⟨cy.ne, cy.nd, fun s hs => (stp' s).mpr ⟨cy.st s hs, nk s (sub s hs)⟩, lnk_congr (fun s hs => ?_) cy.lk⟩
      exact oldnx s (cy.st s hs) (nk s (sub s hs)).1 (nk s (sub s hs)).2 (nk _ (sub _ (cy.next hs))).1 (nk _ (sub _ (cy.next hs))).2
  · rw [List.flatten_cons]
    refine List.nodup_append.mpr ⟨List.nodup_append.mpr ⟨(List.nodup_cons.mp A1).2, (List.nodup_cons.mp A2).2, fun x hx y hy => A3 x (List.mem_cons_of_mem _ hx) y (List.mem_cons_of_mem _ hy)⟩, B, fun x hx y hy => pmN x ?_ y hy⟩
    rcases List.mem_append.mp hx with q | q
    · exact List.mem_append_left _ (List.mem_cons_of_mem _ q)
    · exact List.mem_append_right _ (List.mem_cons_of_mem _ q)
  · obtain ⟨s1, s2, s3⟩ := (stp' s).mp hs
    rw [List.flatten_cons]
    rcases (fl s).mp (hd.all s s1) with q | q | q
    · rcases List.mem_cons.mp q with z | z
      · exact absurd z s2
      · exact List.mem_append_left _ (List.mem_append_left _ z)
    · rcases List.mem_cons.mp q with z | z
      · exact absurd z s3
      · exact List.mem_append_left _ (List.mem_append_right _ z)
    · exact List.mem_append_right _ q
  · have x1 : cs.length = l1.length + l2.length + 1 := by rw [e1]; simp; omega
    have x2 : (l1 ++ l2).length = k1.length + k2.length + 1 := by rw [e2]; simp; omega
    simp at x2 ⊢
    omega

theorem other3 {l : List Nat} (y z : Nat) (nd : l.Nodup) (hl : 3 < l.length) : ∃ u, u ∈ l ∧ u ≠ y ∧ u ≠ z := by
  match l, nd, hl with
  | [], _, h => simp at h
  | [_], _, h => simp at h
  | [_, _], _, h => simp at h
  | p :: q :: r :: t, nd, _ =>
    have n1 := List.nodup_cons.mp nd
    have n2 := List.nodup_cons.mp n1.2
    have a1 : p ≠ q := fun e => n1.1 (e ▸ by simp)
    have a2 : p ≠ r := fun e => n1.1 (e ▸ by simp)
    have a3 : q ≠ r := fun e => n2.1 (e ▸ by simp)
    by_cases e1 : p = y ∨ p = z
    · by_cases e2 : q = y ∨ q = z
      · exact ⟨r, by simp, by omega, by omega⟩
      · exact ⟨q, by simp, by omega, by omega⟩
    · exact ⟨p, by simp, by omega, by omega⟩

/-- THE STEP: a tie of places of four neighbours at least taken out, three tied still -/
theorem Net.cut (N : Net n R) {a b : Nat} (h : b ∈ R a) (ga : 3 < (R a).length) (gb : 3 < (R b).length) (ht : Tied n (cutR R a b)) : Net n (cutR R a b) := by
  have w := N.toWeb
  have h' := w.sym _ _ h
  have ne := w.neq h
  have d1 : nx R a b ≠ a := fun e => by
    -- a would be alone in the row of b
    obtain ⟨u, hu, u1, _⟩ := other3 a a (w.nd b) gb
    obtain ⟨t, k1, k2, k3, _⟩ := front (w.nd b) h'
    have : prv (a :: t) a = a := by rw [k3 a h']; exact e
    rw [prv_front] at this
    rcases snoc_cases t with rfl | ⟨t, z, rfl⟩
    · have := (k2 u).mpr hu
      simp at this
      exact u1 this
    · rw [getLastD_snoc] at this
      rw [this, List.nodup_cons] at k1
      exact k1.1 (by simp)
  have d2 : nx R b a ≠ b := fun e => by
    obtain ⟨u, hu, u1, _⟩ := other3 b b (w.nd a) ga
    obtain ⟨t, k1, k2, k3, _⟩ := front (w.nd a) h
    have : prv (b :: t) b = b := by rw [k3 b h]; exact e
    rw [prv_front] at this
    rcases snoc_cases t with rfl | ⟨t, z, rfl⟩
    · have := (k2 u).mpr hu
      simp at this
      exact u1 this
    · rw [getLastD_snoc] at this
      rw [this, List.nodup_cons] at k1
      exact k1.1 (by simp)
  have w' := cut_web w h
  have way : Way (cutR R a b) (fun _ => False) a b := by
    obtain ⟨u, hu, u1, _⟩ := other3 b b (w.nd a) ga
    have ua : u ≠ a := w.neq hu
    exact (ht u u a b (w.lt _ _ h) (w.lt2 h) (by rintro (e | e) <;> exact ua e.symm) (by rintro (e | e) <;> exact u1 e.symm)).mono (fun _ _ q => q) (fun _ q => q.elim)
  refine ⟨w', cut_h1 w N.h1 h d1 d2, ht, fun p hp z => ?_, fun cs hcs => ?_⟩
  · obtain ⟨u, hu, u1, u2⟩ : ∃ u, u ∈ R p ∧ ¬ (p = a ∧ u = b) ∧ ¬ (p = b ∧ u = a) := by
      by_cases e : p = a
      · subst e
        obtain ⟨u, hu, u1, _⟩ := other3 b b (w.nd p) ga
        exact ⟨u, hu, fun q => u1 q.2, fun q => ne q.1.symm⟩
      · by_cases e2 : p = b
        · subst e2
          obtain ⟨u, hu, u1, _⟩ := other3 a a (w.nd p) gb
          exact ⟨u, hu, fun q => e q.1, fun q => u1 q.2⟩
        · obtain ⟨u, hu⟩ := List.exists_mem_of_ne_nil _ (N.full p hp)
          exact ⟨u, hu, fun q => e q.1, fun q => e2 q.1⟩
    have := (cut_mem w h p u).mpr ⟨hu, u1, u2⟩
    rw [z] at this
    simp at this
  · obtain ⟨ds, hds⟩ := w.dec_ex
    obtain ⟨cs', h1, h2⟩ := cut_dec w h d1 d2 (fun t ht => two_faces w N.h1 h way ht) hds
    have e1 := N.flat ds hds
    have e2 := hcs.len h1
    have e3 := cut_total w h
    omega
end
end Gw
set_option linter.all false
/-! Places renamed, rows turned about; faces told from the least step on. -/
namespace Gw
/-- what at_rest asks of a web -/
structure Good (n : Nat) (R : Rows) : Prop extends Web n R where
  tied : Tied n R
  full : ∀ p, p < n → R p ≠ []
  flat : ∀ cs, Dec R cs → 2 * (n + cs.length) = total n R + 4
theorem Net.good {n : Nat} {R : Rows} (N : Net n R) : Good n R := ⟨N.toWeb, N.tied, N.full, N.flat⟩
def tur (m : Bool) (l : List Nat) : List Nat := if m then l.reverse else l
theorem tur_perm (m : Bool) (l : List Nat) : (tur m l).Perm l := by
  cases m
  · exact List.Perm.refl _
  · exact List.reverse_perm l
structure Ren (n : Nat) (R R2 : Rows) (π : Nat → Nat) (m : Bool) : Prop where
  lt : ∀ p, p < n → π p < n
  inj : ∀ p q, p < n → q < n → π p = π q → p = q
  sur : ∀ y, y < n → ∃ p, p < n ∧ π p = y
  row : ∀ p, p < n → ∃ l1 l2, (tur m (R p)).map π = l1 ++ l2 ∧ R2 (π p) = l2 ++ l1
  out : ∀ y, n ≤ y → R2 y = []
/-- a step's new name -/
def hst (π : Nat → Nat) (m : Bool) (s : S) : S := if m then (π s.2, π s.1) else (π s.1, π s.2)
section
variable {n : Nat} {R R2 : Rows} {π : Nat → Nat} {m : Bool}
theorem Ren.mem (r : Ren n R R2 π m) (w : Web n R) (x y : Nat) : y ∈ R2 x ↔ ∃ p q, q ∈ R p ∧ x = π p ∧ y = π q := by
  constructor
  · intro h
    by_cases hx : x < n
    · obtain ⟨p, hp, e⟩ := r.sur x hx
      obtain ⟨l1, l2, e1, e2⟩ := r.row p hp
      rw [← e, e2] at h
      have : y ∈ (tur m (R p)).map π := by
        rw [e1]
        simp at h ⊢
        exact h.symm
      obtain ⟨q, hq, eq⟩ := List.mem_map.mp this
      exact ⟨p, q, (tur_perm m _).mem_iff.mp hq, e.symm, eq.symm⟩
    · rw [r.out x (by omega)] at h
      exact absurd h (by simp)
  · rintro ⟨p, q, h, rfl, rfl⟩
    obtain ⟨l1, l2, e1, e2⟩ := r.row p (w.lt _ _ h)
    have : π q ∈ (tur m (R p)).map π := List.mem_map.mpr ⟨q, (tur_perm m _).mem_iff.mpr h, rfl⟩
    rw [e1] at this
    rw [e2]
    simp at this ⊢
    exact this.symm
theorem Ren.mem' (r : Ren n R R2 π m) (w : Web n R) {p q : Nat} (hp : p < n) (hq : q < n) : π q ∈ R2 (π p) ↔ q ∈ R p := by
  rw [r.mem w]
  constructor
  · rintro ⟨p', q', h, e1, e2⟩
    have a := r.inj p p' hp (w.lt _ _ h) e1
    have b := r.inj q q' hq (w.lt2 h) e2
    rw [a, b]
    exact h
  · intro h
    exact ⟨p, q, h, rfl, rfl⟩
theorem Ren.nodup_row (r : Ren n R R2 π m) (w : Web n R) {p : Nat} : ((tur m (R p)).map π).Nodup := by
  have h : (tur m (R p)).Nodup := (tur_perm m _).nodup_iff.mpr (w.nd p)
  refine List.pairwise_map.mpr ?_
  refine List.Pairwise.imp_of_mem (fun {a b} ha hb hab e => ?_) h
  exact hab (r.inj a b (w.lt2 ((tur_perm m _).mem_iff.mp ha)) (w.lt2 ((tur_perm m _).mem_iff.mp hb)) e)
theorem Ren.web (r : Ren n R R2 π m) (w : Web n R) : Web n R2 := by
  refine ⟨fun x => ?_, fun x y h => ?_, fun x h => ?_, fun x y h => ?_⟩
  · by_cases hx : x < n
    · obtain ⟨p, hp, e⟩ := r.sur x hx
      obtain ⟨l1, l2, e1, e2⟩ := r.row p hp
      rw [← e, e2]
      have := r.nodup_row w (p := p)
      rw [e1] at this
      exact List.perm_append_comm.nodup_iff.mp this
    · rw [r.out x (by omega)]
      exact List.nodup_nil
  · obtain ⟨p, q, h', rfl, rfl⟩ := (r.mem w x y).mp h
    exact r.lt p (w.lt _ _ h')
  · obtain ⟨p, q, h, e1, e2⟩ := (r.mem w x x).mp h
    have := r.inj p q (w.lt _ _ h) (w.lt2 h) (e1.symm.trans e2)
    exact w.neq h this.symm
  · obtain ⟨p, q, h', rfl, rfl⟩ := (r.mem w x y).mp h
    exact (r.mem w _ _).mpr ⟨q, p, w.sym _ _ h', rfl, rfl⟩
theorem Ren.way (r : Ren n R R2 π m) (w : Web n R) {G G2 : Nat → Prop} (hG : ∀ p, p < n → G2 (π p) → G p) {x y : Nat} (h : Way R G x y) : Way R2 G2 (π x) (π y) := by
  induction h with
  | here => exact .here
  | on _ h1 h2 ih => exact .on ih ((r.mem w _ _).mpr ⟨_, _, h1, rfl, rfl⟩) (fun q => h2 (hG _ (w.lt2 h1) q))
theorem Ren.tied (r : Ren n R R2 π m) (w : Web n R) (t : Tied n R) : Tied n R2 := by
  intro a b x y hx hy gx gy
  obtain ⟨p, hp, rfl⟩ := r.sur x hx
  obtain ⟨q, hq, rfl⟩ := r.sur y hy
  -- the places that are gone, by their old names (or none)
  have pre : ∀ a, ∃ a', ∀ u, u < n → π u = a → u = a' := fun a => by
    by_cases h : ∃ u, u < n ∧ π u = a
    · obtain ⟨u, hu, e⟩ := h
      exact ⟨u, fun v hv e' => r.inj v u hv hu (e'.trans e.symm)⟩
    · exact ⟨n, fun u hu e => absurd ⟨u, hu, e⟩ h⟩
  by_cases ha : ∃ u, u < n ∧ π u = a
  · obtain ⟨a', ha', ea⟩ := ha
    by_cases hb : ∃ u, u < n ∧ π u = b
    · obtain ⟨b', hb', eb⟩ := hb
      refine r.way w (G := fun x => x = a' ∨ x = b') (fun u hu z => ?_) (t a' b' p q hp hq ?_ ?_)
      · rcases z with z | z
        · exact .inl (r.inj u a' hu ha' (z.trans ea.symm))
        · exact .inr (r.inj u b' hu hb' (z.trans eb.symm))
      · rintro (z | z)
        · exact gx (.inl (by rw [z, ea]))
        · exact gx (.inr (by rw [z, eb]))
      · rintro (z | z)
        · exact gy (.inl (by rw [z, ea]))
        · exact gy (.inr (by rw [z, eb]))
    · refine r.way w (G := fun x => x = a' ∨ x = a') (fun u hu z => ?_) (t a' a' p q hp hq ?_ ?_)
      · rcases z with z | z
        · exact .inl (r.inj u a' hu ha' (z.trans ea.symm))
        · exact absurd ⟨u, hu, z⟩ hb
      · rintro (z | z) <;> exact gx (.inl (by rw [z, ea]))
      · rintro (z | z) <;> exact gy (.inl (by rw [z, ea]))
  · by_cases hb : ∃ u, u < n ∧ π u = b
    · obtain ⟨b', hb', eb⟩ := hb
      refine r.way w (G := fun x => x = b' ∨ x = b') (fun u hu z => ?_) (t b' b' p q hp hq ?_ ?_)
      · rcases z with z | z
        · exact absurd ⟨u, hu, z⟩ ha
        · exact .inl (r.inj u b' hu hb' (z.trans eb.symm))
      · rintro (z | z) <;> exact gx (.inr (by rw [z, eb]))
      · rintro (z | z) <;> exact gy (.inr (by rw [z, eb]))
    · refine r.way w (G := fun x => x = n ∨ x = n) (fun u hu z => ?_) (t n n p q hp hq ?_ ?_)
      · rcases z with z | z
        · exact absurd ⟨u, hu, z⟩ ha
        · exact absurd ⟨u, hu, z⟩ hb
      · omega
      · omega
theorem Ren.prv_row (r : Ren n R R2 π m) (w : Web n R) {p x : Nat} (hx : x ∈ R p) : prv (R2 (π p)) (π x) = π (prv (tur m (R p)) x) := by
  obtain ⟨l1, l2, e1, e2⟩ := r.row p (w.lt _ _ hx)
  have hx' : x ∈ tur m (R p) := (tur_perm m _).mem_iff.mpr hx
  have nd := r.nodup_row w (p := p)
  rw [e1] at nd
  rw [e2, rot_prv nd (by rw [← e1]; exact List.mem_map.mpr ⟨x, hx', rfl⟩), ← e1]
  refine prv_map hx' fun y hy e => ?_
  exact r.inj y x (w.lt2 ((tur_perm m _).mem_iff.mp hy)) (w.lt2 hx) e
/-- steps behind steps, renamed -/
theorem Ren.phi0 (r : Ren n R R2 π false) (w : Web n R) {s : S} (h : stp R s) : phi R2 (hst π false s) = hst π false (phi R s) := by
  show (π s.2, prv (R2 (π s.2)) (π s.1)) = (π s.2, π (prv (R s.2) s.1))
  rw [r.prv_row w (w.sym _ _ h)]
  rfl
theorem Ren.phi1 (r : Ren n R R2 π true) (w : Web n R) {s : S} (h : stp R s) : phi R2 (hst π true (phi R s)) = hst π true s := by
  show (π s.2, prv (R2 (π s.2)) (π (prv (R s.2) s.1))) = (π s.2, π s.1)
  have e := r.prv_row w (x := prv (R s.2) s.1) (w.nx_mem h)
  rw [e]
  show (π s.2, π (prv (R s.2).reverse (prv (R s.2) s.1))) = _
  rw [prv_rev (w.nd _) (w.sym _ _ h)]
theorem Ren.stp_h (r : Ren n R R2 π m) (w : Web n R) {s : S} (h : stp R s) : stp R2 (hst π m s) := by
  cases m
  · exact (r.mem w _ _).mpr ⟨s.1, s.2, h, rfl, rfl⟩
  · exact (r.mem w _ _).mpr ⟨s.2, s.1, w.sym _ _ h, rfl, rfl⟩
theorem Ren.h_inj (r : Ren n R R2 π m) (w : Web n R) {s s' : S} (h : stp R s) (h' : stp R s') (e : hst π m s = hst π m s') : s = s' := by
  cases m
  · exact Prod.ext (r.inj _ _ (w.lt _ _ h) (w.lt _ _ h') (congrArg Prod.fst e)) (r.inj _ _ (w.lt2 h) (w.lt2 h') (congrArg Prod.snd e))
  · exact Prod.ext (r.inj _ _ (w.lt _ _ h) (w.lt _ _ h') (congrArg Prod.snd e)) (r.inj _ _ (w.lt2 h) (w.lt2 h') (congrArg Prod.fst e))
theorem lnk_mapm {f g h : S → S} : ∀ {l : List S} {e : S}, (∀ s, s ∈ l → g (h s) = h (f s)) → lnk f l e → lnk g (l.map h) (h e)
  | [], _, _, _ => trivial
  | s :: t, e, k, ⟨a, b⟩ => ⟨by
      rw [k s (by simp), a]
      cases t <;> rfl, lnk_mapm (fun s hs => k s (List.mem_cons_of_mem _ hs)) b⟩
theorem lnk_rev {f g h : S → S} : ∀ {t : List S} {s e : S}, (∀ x, x ∈ s :: t → g (h (f x)) = h x) → lnk f (s :: t) e → lnk g (h e :: (t.map h).reverse) (h s)
  | [], s, e, k, hl => ⟨by rw [← k s (by simp), hl.1]; rfl, trivial⟩
  | s' :: t, s, e, k, hl => by
    have ih := lnk_rev (t := t) (s := s') (e := e) (fun x hx => k x (List.mem_cons_of_mem _ hx)) hl.2
    have e1 : h e :: ((s' :: t).map h).reverse = (h e :: (t.map h).reverse) ++ [h s'] := by simp
    rw [e1, lnk_app]
    refine ⟨ih, ?_, trivial⟩
    have : f s = s' := hl.1
    rw [← this, k s (by simp)]
    rfl
theorem Ren.nd_map (r : Ren n R R2 π m) (w : Web n R) {l : List S} (nd : l.Nodup) (st : ∀ s, s ∈ l → stp R s) : (l.map (hst π m)).Nodup := by
  refine List.pairwise_map.mpr ?_
  exact List.Pairwise.imp_of_mem (fun {a b} ha hb hab e => hab (r.h_inj w (st a ha) (st b hb) e)) nd
theorem Ren.cyc0 (r : Ren n R R2 π false) (w : Web n R) {c : List S} (h : Cyc R c) : Cyc R2 (c.map (hst π false)) := by
  refine ⟨by simp [h.ne], r.nd_map w h.nd h.st, fun s hs => ?_, ?_⟩
  · obtain ⟨s', h', e⟩ := List.mem_map.mp hs
    rw [← e]
    exact r.stp_h w (h.st s' h')
  · have := lnk_mapm (g := phi R2) (h := hst π false) (fun s hs => r.phi0 w (h.st s hs)) h.lk
    cases c with
    | nil => exact absurd rfl h.ne
    | cons s t => exact this
theorem Ren.cyc1 (r : Ren n R R2 π true) (w : Web n R) {c : List S} (h : Cyc R c) : Cyc R2 (c.map (hst π true)).reverse := by
  cases c with
  | nil => exact absurd rfl h.ne
  | cons s t =>
    have k := lnk_rev (g := phi R2) (h := hst π true) (fun x hx => r.phi1 w (h.st x hx)) h.lk
    have nd := r.nd_map w h.nd h.st
    have st : ∀ x, x ∈ (s :: t).map (hst π true) → stp R2 x := fun x hx => by
      obtain ⟨s', h', e⟩ := List.mem_map.mp hx
      rw [← e]
      exact r.stp_h w (h.st s' h')
    have c1 : Cyc R2 ([hst π true s] ++ (t.map (hst π true)).reverse) := by
      refine ⟨by simp, ?_, fun x hx => st x ?_, k⟩
      · refine ((List.reverse_perm _).cons _).nodup_iff.mpr ?_
        exact nd
      · simp at hx ⊢
        exact hx
    have := c1.rot
    rw [List.map_cons, List.reverse_cons]
    exact this
def ren1 (π : Nat → Nat) (m : Bool) (c : List S) : List S := tur1 m (c.map (hst π m))
where tur1 (m : Bool) (l : List S) : List S := if m then l.reverse else l
theorem Ren.cyc (r : Ren n R R2 π m) (w : Web n R) {c : List S} (h : Cyc R c) : Cyc R2 (ren1 π m c) := by
  cases m
  · exact r.cyc0 w h
  · exact r.cyc1 w h
theorem ren1_perm (c : List S) : (ren1 π m c).Perm (c.map (hst π m)) := by
  cases m
  · exact List.Perm.refl _
  · exact List.reverse_perm _
theorem ren1_flat : ∀ cs : List (List S), ((cs.map (ren1 π m)).flatten).Perm (cs.flatten.map (hst π m))
  | [] => by simp
  | c :: cs => by
    rw [List.map_cons, List.flatten_cons, List.flatten_cons, List.map_append]
    exact (ren1_perm c).append (ren1_flat cs)
theorem Ren.dec (r : Ren n R R2 π m) (w : Web n R) {cs : List (List S)} (h : Dec R cs) : Dec R2 (cs.map (ren1 π m)) := by
  refine ⟨⟨fun c hc => ?_, ?_⟩, fun s hs => ?_⟩
  · obtain ⟨c', hc', e⟩ := List.mem_map.mp hc
    rw [← e]
    exact r.cyc w (h.cyc c' hc')
  · rw [(ren1_flat cs).nodup_iff]
    refine r.nd_map w h.nd fun s hs => ?_
    obtain ⟨c, hc, hs⟩ := List.mem_flatten.mp hs
    exact (h.cyc c hc).st s hs
  · rw [(ren1_flat cs).mem_iff]
    obtain ⟨p, q, hq, e1, e2⟩ := (r.mem w _ _).mp hs
    cases m
    · exact List.mem_map.mpr ⟨(p, q), h.all _ hq, Prod.ext e1.symm e2.symm⟩
    · exact List.mem_map.mpr ⟨(q, p), h.all _ (w.sym _ _ hq), Prod.ext e1.symm e2.symm⟩
theorem Ren.total (r : Ren n R R2 π m) (w : Web n R) : Gw.total n R2 = Gw.total n R := by
  obtain ⟨cs, h⟩ := w.dec_ex
  rw [← h.flat_len w, ← (r.dec w h).flat_len (r.web w), (ren1_flat cs).length_eq, List.length_map]
theorem Ren.good (r : Ren n R R2 π m) (g : Good n R) : Good n R2 := by
  have w := g.toWeb
  refine ⟨r.web w, r.tied w g.tied, fun y hy => ?_, fun ds hd => ?_⟩
  · obtain ⟨p, hp, rfl⟩ := r.sur y hy
    obtain ⟨q, hq⟩ := List.exists_mem_of_ne_nil _ (g.full p hp)
    intro z
    have := (r.mem w (π p) (π q)).mpr ⟨p, q, hq, rfl, rfl⟩
    rw [z] at this
    simp at this
  · obtain ⟨cs, h⟩ := w.dec_ex
    have e1 := g.flat cs h
    have e2 := hd.len (r.dec w h)
    rw [List.length_map] at e2
    have e3 := r.total w
    omega

/-! ### faces told -/
def lexS (a b : S) : Prop := a.1 < b.1 ∨ (a.1 = b.1 ∧ a.2 ≤ b.2)
theorem lexS_anti {a b : S} (h : lexS a b) (h' : lexS b a) : a = b := by
  refine Prod.ext ?_ ?_ <;> unfold lexS at h h' <;> omega
theorem lexS_trans {a b c : S} (h : lexS a b) (h' : lexS b c) : lexS a c := by
  unfold lexS at *
  omega
theorem lexS_total (a b : S) : lexS a b ∨ lexS b a := by
  unfold lexS
  omega
/-- a face, from its least step on: the places -/
structure Told (R : Rows) (c : List S) (l : List Nat) : Prop where
  ex : ∃ s t, Cyc R (s :: t) ∧ (∀ x, x ∈ s :: t ↔ x ∈ c) ∧ (∀ x, x ∈ t → lexS s x) ∧ l = (s :: t).map (·.1)
theorem Told.uniq {c c' : List S} {l l' : List Nat} (h : Told R c l) (h' : Told R c' l') {x : S} (hx : x ∈ c) (hx' : x ∈ c') : l = l' := by
  obtain ⟨s, t, k, m, le, e⟩ := h.ex
  obtain ⟨s', t', k', m', le', e'⟩ := h'.ex
  have hx1 := (m x).mpr hx
  have hx2 := (m' x).mpr hx'
  have sub := k.sub k' hx1 hx2
  have sub' := k'.sub k hx2 hx1
  have e1 : s = s' := by
    have a := sub s (by simp)
    have b := sub' s' (by simp)
    rcases List.mem_cons.mp a with q | q
    · exact q
    · rcases List.mem_cons.mp b with q2 | q2
      · exact q2.symm
      · exact lexS_anti (le s' q2) (le' s q)
  subst e1
  rw [e, e', k.same k']
/-- the steps from each place of a row to the next one -/
def prs (l : List Nat) : List S := l.zip (l.drop 1 ++ l.take 1)
theorem lnk_zip : ∀ {t : List S} {s e : S}, lnk (phi R) (s :: t) e → s :: t = ((s :: t).map (·.1)).zip (t.map (·.1) ++ [e.1])
  | [], s, e, h => by
    have : phi R s = e := h.1
    have e2 : s.2 = e.1 := congrArg Prod.fst this
    show [s] = [(s.1, e.1)]
    rw [← e2]
  | y :: t, s, e, h => by
    have h1 : phi R s = y := h.1
    have e2 : s.2 = y.1 := congrArg Prod.fst h1
    have ih := lnk_zip h.2
    rw [List.map_cons, List.map_cons, List.cons_append, List.zip_cons_cons, ← List.map_cons, ← ih, ← e2]
theorem Cyc.prs {c : List S} (h : Cyc R c) : c = Gw.prs (c.map (·.1)) := by
  cases c with
  | nil => exact absurd rfl h.ne
  | cons s t =>
    have := lnk_zip h.lk
    show s :: t = ((s :: t).map (·.1)).zip (t.map (·.1) ++ [s.1])
    exact this
theorem prs_fst : ∀ {l : List Nat}, (prs l).map (·.1) = l := by
  intro l
  unfold prs
  rw [List.map_fst_zip]
  cases l <;> simp
end
end Gw
set_option linter.all false
/-! A face meets no place twice. Plain Lean, no program. -/
namespace Gw
section
variable {n : Nat} {R : Rows}
theorem lnk_succ {f : S → S} : ∀ {l : List S} {e s : S}, lnk f l e → s ∈ l → f s ∈ l ∨ f s = e
  | a :: t, e, s, h, hs => by
    obtain ⟨h1, h2⟩ := h
    rcases List.mem_cons.mp hs with q | q
    · subst q
      cases t with
      | nil => exact .inr h1
      | cons b t => exact .inl (by rw [h1]; simp)
    · rcases lnk_succ h2 q with z | z
      · exact .inl (List.mem_cons_of_mem _ z)
      · exact .inr z
theorem lnk_head {f : S → S} {h : S} {t : List S} {e : S} (k : lnk f (h :: t) e) : f h ∈ t ∨ f h = e := by
  cases t with
  | nil => exact .inr k.1
  | cons b t => exact .inl (by rw [k.1]; simp)
theorem lnk_pred {f : S → S} : ∀ {t : List S} {h e s : S}, lnk f (h :: t) e → s ∈ t → ∃ s', s' ∈ h :: t ∧ f s' = s
  | b :: t, h, e, s, k, hs => by
    obtain ⟨h1, h2⟩ := k
    rcases List.mem_cons.mp hs with q | q
    · subst q
      exact ⟨h, by simp, h1⟩
    · obtain ⟨s', m, e'⟩ := lnk_pred h2 q
      exact ⟨s', List.mem_cons_of_mem _ m, e'⟩
theorem lnk_last {f : S → S} : ∀ {t : List S} {h e : S}, lnk f (h :: t) e → ∃ s, s ∈ h :: t ∧ f s = e
  | [], h, e, k => ⟨h, by simp, k.1⟩
  | b :: t, h, e, k => by
    obtain ⟨s, m, e'⟩ := lnk_last k.2
    exact ⟨s, List.mem_cons_of_mem _ m, e'⟩
theorem first_step {v : Nat} : ∀ {m : List S}, v ∈ m.map (·.1) → ∃ t1 s t2, m = t1 ++ s :: t2 ∧ s.1 = v ∧ ∀ x, x ∈ t1 → x.1 ≠ v
  | [], h => by simp at h
  | a :: m, h => by
    by_cases e : a.1 = v
    · exact ⟨[], a, m, rfl, e, by simp⟩
    · rw [List.map_cons] at h
      obtain ⟨t1, s, t2, h1, h2, h3⟩ := first_step (m := m) ((List.mem_cons.mp h).resolve_left fun z => e z.symm)
      refine ⟨a :: t1, s, t2, by rw [h1]; rfl, h2, fun x hx => ?_⟩
      rcases List.mem_cons.mp hx with q | q
      · rw [q]; exact e
      · exact h3 x q
theorem dup_split : ∀ {m : List S}, ¬ (m.map (·.1)).Nodup → ∃ a s1 t1 s2 t2, m = a ++ s1 :: (t1 ++ s2 :: t2) ∧ s2.1 = s1.1 ∧ ∀ s, s ∈ t1 → s.1 ≠ s1.1
  | [], h => absurd List.nodup_nil h
  | s :: m, h => by
    by_cases e : s.1 ∈ m.map (·.1)
    · obtain ⟨t1, s2, t2, h1, h2, h3⟩ := first_step e
      exact ⟨[], s, t1, s2, t2, by rw [h1]; rfl, h2, h3⟩
    · have : ¬ (m.map (·.1)).Nodup := fun z => h (by rw [List.map_cons, List.nodup_cons]; exact ⟨e, z⟩)
      obtain ⟨a, s1, t1, s2, t2, h1, h2, h3⟩ := dup_split this
      exact ⟨s :: a, s1, t1, s2, t2, by rw [h1]; rfl, h2, h3⟩
theorem bx8 : ∀ a b c : Bool, b = c → a = false → a = ((a ^^ b) ^^ c) := by decide
theorem Net.simp (N : Net n R) {c : List S} (cy : Cyc R c) : (c.map (·.1)).Nodup := by
  refine Classical.byContradiction fun hn => ?_
  have W := N.toWeb
  obtain ⟨a, ⟨v, x⟩, t1, ⟨v', y⟩, t2, hc, hv, ht⟩ := dup_split hn
  have hv : v' = v := hv
  subst hv
  have ht : ∀ s, s ∈ t1 → s.1 ≠ v' := ht
  rw [hc] at cy
  have cy2 := Cyc.rot cy
  have ec : (v', x) :: (t1 ++ (v', y) :: t2) ++ a = ((v', x) :: t1) ++ ((v', y) :: (t2 ++ a)) := by simp
  rw [ec] at cy2
  generalize t2 ++ a = t3 at cy2
  clear cy hc ec
  generalize v' = v at *
  have sx : x ∈ R v := cy2.st (v, x) (by simp)
  have sy : y ∈ R v := cy2.st (v, y) (by simp)
  have xv : x ≠ v := W.neq sx
  have yv : y ≠ v := W.neq sy
  have lk := lnk_app.mp cy2.lk
  have l1 : lnk (phi R) ((v, x) :: t1) (v, y) := lk.1
  have l2 : lnk (phi R) ((v, y) :: t3) (v, x) := lk.2
  have nd := cy2.nd
  rw [List.nodup_append] at nd
  obtain ⟨nd1, nd2, nd3⟩ := nd
  have xy : x ≠ y := fun e => nd3 (v, x) (by simp) (v, y) (by simp) (by rw [e])
  have st1 : ∀ s, s ∈ t1 → stp R s := fun s hs => cy2.st s (by simp [hs])
  have st3 : ∀ s, s ∈ t3 → stp R s := fun s hs => cy2.st s (by simp [hs])
  -- who comes to v ahead of x, ahead of y
  obtain ⟨s2, m2, e2⟩ := lnk_last l1
  obtain ⟨s1, m1, e1⟩ := lnk_last l2
  obtain ⟨u2, w2⟩ := s2
  obtain ⟨u1, w1⟩ := s1
  have g2 : w2 = v := congrArg Prod.fst e2
  have g1 : w1 = v := congrArg Prod.fst e1
  subst w2
  subst w1
  have p2 : prv (R v) u2 = y := congrArg Prod.snd e2
  have p1 : prv (R v) u1 = x := congrArg Prod.snd e1
  have m2' : (u2, v) ∈ t1 := by
    rcases List.mem_cons.mp m2 with q | q
    · exact absurd (congrArg Prod.snd q).symm xv
    · exact q
  have m1' : (u1, v) ∈ t3 := by
    rcases List.mem_cons.mp m1 with q | q
    · exact absurd (congrArg Prod.snd q).symm yv
    · exact q
  have hu2 : u2 ∈ R v := W.sym _ _ (st1 _ m2')
  have hu1 : u1 ∈ R v := W.sym _ _ (st3 _ m1')
  have u12 : u1 ≠ u2 := fun e => xy (by rw [← p1, ← p2, e])
  have off : ∀ s, s ∈ t1 → s ∉ t3 := fun s h1 h3 => nd3 s (by simp [h1]) s (by simp [h3]) rfl
  -- the row at v, from u1 on
  obtain ⟨t, tn, tm, tp, _⟩ := front (W.nd v) hu1
  have u2t : u2 ∈ t := by
    rcases List.mem_cons.mp ((tm u2).mpr hu2) with q | q
    · exact absurd q.symm u12
    · exact q
  obtain ⟨tb, ta, et, ub⟩ := split_at u2t
  subst et
  have tn' := tn
  rw [List.nodup_cons, List.nodup_append] at tn'
  obtain ⟨n1, n2, n3, n4⟩ := tn'
  have dis : ∀ z, z ∈ u1 :: tb → z ∉ u2 :: ta := fun z hz hz2 => by
    rcases List.mem_cons.mp hz with q | q
    · subst q
      exact n1 (List.mem_append_right _ hz2)
    · exact n4 z q z hz2 rfl
  have xA : x ∈ u2 :: ta := by
    have := tp u1 hu1
    rw [prv_front, p1] at this
    rw [← this]
    rcases snoc_cases ta with q | ⟨ta', z, q⟩
    · subst q
      rw [getLastD_snoc]; simp
    · subst q
      rw [← List.cons_append, ← List.append_assoc, getLastD_snoc]; simp
  have yB : y ∈ u1 :: tb := by
    have := tp u2 hu2
    rw [prv_in tn, p2] at this
    rw [← this]
    exact getLastD_mem
  have same : ∀ u, u ∈ R v → u ≠ u1 → u ≠ u2 → (prv (R v) u ∈ u2 :: ta ↔ u ∈ u2 :: ta) := by
    intro u hu h1 h2
    have hu' := (tm u).mpr hu
    rcases List.mem_cons.mp hu' with q | q
    · exact absurd q h1
    · rcases List.mem_append.mp q with q | q
      · obtain ⟨b1, b2, eb, ubn⟩ := split_at q
        have e : prv (R v) u ∈ u1 :: b1 := by
          rw [← tp u hu, eb]
          have tn2 : (u1 :: (b1 ++ u :: (b2 ++ u2 :: ta))).Nodup := by rw [eb] at tn; simpa using tn
          have := prv_in tn2
          rw [show (b1 ++ u :: b2) ++ u2 :: ta = b1 ++ u :: (b2 ++ u2 :: ta) by simp, this]
          exact getLastD_mem
        have e' : prv (R v) u ∈ u1 :: tb := by
          rw [eb]
          rcases List.mem_cons.mp e with z | z
          · rw [z]; simp
          · simp [z]
        exact ⟨fun z => absurd z (dis _ e'), fun z => absurd z (dis _ (List.mem_cons_of_mem _ q))⟩
      · rcases List.mem_cons.mp q with q | q
        · exact absurd q h2
        · obtain ⟨b1, b2, eb, ubn⟩ := split_at q
          have e : prv (R v) u ∈ u2 :: b1 := by
            rw [← tp u hu, eb]
            have tn2 : (u1 :: ((tb ++ u2 :: b1) ++ u :: b2)).Nodup := by rw [eb] at tn; simpa using tn
            have := prv_in tn2
            rw [show tb ++ u2 :: (b1 ++ u :: b2) = (tb ++ u2 :: b1) ++ u :: b2 by simp, this]
            rcases snoc_cases b1 with z | ⟨b', z, z'⟩
            · subst z
              rw [getLastD_snoc]; simp
            · subst z'
              rw [← List.cons_append, ← List.append_assoc, getLastD_snoc]; simp
          have e' : prv (R v) u ∈ u2 :: ta := by
            rw [eb]
            rcases List.mem_cons.mp e with z | z
            · rw [z]; simp
            · simp [z]
          exact ⟨fun _ => List.mem_cons_of_mem _ q, fun _ => e'⟩
  generalize hA : u2 :: ta = Al at xA same dis
  have u2A : u2 ∈ Al := by rw [← hA]; simp
  have yA : y ∉ Al := dis y yB
  have u1A : u1 ∉ Al := dis u1 (by simp)
  obtain ⟨sc, hsc⟩ : ∃ sc : Nat → Nat, ∀ q, q ∈ R v → sc q ∈ R v ∧ prv (R v) (sc q) = q := by
    have : ∀ q, ∃ u, q ∈ R v → u ∈ R v ∧ prv (R v) u = q := fun q => by
      by_cases h : q ∈ R v
      · obtain ⟨u, h1, h2⟩ := prv_surj (W.nd v) h
        exact ⟨u, fun _ => ⟨h1, h2⟩⟩
      · exact ⟨0, fun z => absurd z h⟩
    exact ⟨fun q => Classical.choose (this q), fun q => Classical.choose_spec (this q)⟩
  obtain ⟨s, hs⟩ := N.h1 (fun p q => if p = v then decide (q ∈ Al) else if q = v then decide (p ∈ Al) else false) (fun p q hq => by
      have := W.neq hq
      by_cases h1 : p = v
      · have h2 : q ≠ v := fun e => this (e.trans h1.symm)
        simp [h1, h2]
      · simp [h1])
    ⟨fun z => if z.1 = v then (decide ((sc z.2, v) ∈ t1) ^^ decide (sc z.2 ∈ Al)) else decide (z ∈ t1), fun p q hq => by
      have pq := W.neq hq
      by_cases h1 : q = v
      · subst h1
        have hp : p ∈ R q := W.sym _ _ hq
        have e : sc (nx R p q) = p := by
          obtain ⟨z1, z2⟩ := hsc (nx R p q) (prv_mem (W.nd q) hp)
          exact prv_inj (W.nd q) z1 hp z2
        have hpq : ¬ p = q := fun z => pq z.symm
        simp [e, hpq]
      · by_cases h2 : p = v
        · subst h2
          obtain ⟨z1, z2⟩ := hsc q hq
          simp only [h1, if_false, if_true]
          have e3 : (q, nx R p q) = phi R (p, q) := rfl
          have e4 : phi R (sc q, p) = (p, q) := by
            show (p, prv (R p) (sc q)) = _
            rw [z2]
          rw [e3]
          by_cases c1 : sc q = u1
          · have qx : q = x := by rw [← z2, c1, p1]
            have i1 : phi R (p, q) ∈ t1 := by
              rw [qx]
              rcases lnk_head l1 with z | z
              · exact z
              · exact absurd (congrArg Prod.fst z) xv
            have i2 : (u1, p) ∉ t1 := fun z => off _ z m1'
            rw [c1, qx] at *
            simp [i1, i2, u1A, xA]
          · by_cases c2 : sc q = u2
            · have qy : q = y := by rw [← z2, c2, p2]
              have i1 : phi R (p, q) ∉ t1 := by
                rw [qy]
                rcases lnk_head l2 with z | z
                · exact fun h => off _ h z
                · exact absurd (congrArg Prod.fst z) yv
              rw [c2, qy] at *
              simp [i1, m2', u2A, yA]
            · have i1 : (sc q, p) ∉ t1 := fun h => by
                rcases lnk_succ l1.2 h with z | z
                · rw [e4] at z
                  exact ht _ z rfl
                · have := W.phi_inj (st1 _ h) (st1 _ m2') (z.trans e2.symm)
                  exact c2 (congrArg Prod.fst this)
              have i2 : phi R (p, q) ∉ t1 := fun h => by
                obtain ⟨s', hs', es'⟩ := lnk_pred l1 h
                have ss : stp R s' := by
                  rcases List.mem_cons.mp hs' with z | z
                  · rw [z]; exact sx
                  · exact st1 _ z
                have e5 := W.phi_inj ss (show stp R (p, q) from hq) es'
                subst e5
                rcases List.mem_cons.mp hs' with z | z
                · have : q = x := congrArg Prod.snd z
                  exact c1 (prv_inj (W.nd p) z1 hu1 (by rw [z2, this, p1]))
                · exact ht _ z rfl
              have i3 := same (sc q) z1 c1 c2
              rw [z2] at i3
              by_cases i4 : q ∈ Al
              · have i5 := i3.mp i4
                simp [i1, i2, i4, i5]
              · have i5 : sc q ∉ Al := fun z => i4 (i3.mpr z)
                simp [i1, i2, i4, i5]
        · simp only [h1, h2, if_false]
          have e3 : (q, nx R p q) = phi R (p, q) := rfl
          rw [e3]
          have : phi R (p, q) ∈ t1 ↔ (p, q) ∈ t1 := by
            constructor
            · intro h
              obtain ⟨s', hs', es'⟩ := lnk_pred l1 h
              have ss : stp R s' := by
                rcases List.mem_cons.mp hs' with z | z
                · rw [z]; exact sx
                · exact st1 _ z
              have e5 := W.phi_inj ss (show stp R (p, q) from hq) es'
              subst e5
              rcases List.mem_cons.mp hs' with z | z
              · exact absurd (congrArg Prod.fst z) h2
              · exact z
            · intro h
              rcases lnk_succ l1.2 h with z | z
              · exact z
              · exact absurd (congrArg Prod.fst z) h1
          simp [this]⟩
  have way : ∀ z, Way R (fun q => q = v ∨ q = v) x z → s x = s z ∧ z ≠ v := by
    intro z hz
    induction hz with
    | here => exact ⟨rfl, xv⟩
    | @on y' z' _ hz hg ih =>
      obtain ⟨i1, i2⟩ := ih
      have zv : z' ≠ v := fun e => hg (.inl e)
      have := hs y' z' hz
      simp only [i2, zv, if_false] at this
      refine ⟨?_, zv⟩
      rw [i1]
      revert this
      cases s y' <;> cases s z' <;> simp
  have w := (way y (N.tied v v x y (W.lt2 sx) (W.lt2 sy) (fun e => e.elim xv xv) (fun e => e.elim yv yv))).1
  have f1 := hs v x sx
  have f2 := hs v y sy
  simp only [if_true, xA, yA, decide_true, decide_false] at f1 f2
  rw [w] at f1
  rw [← f2] at f1
  cases f1
/-- the same of the renamed web -/
def Plain (R : Rows) : Prop := ∀ c, Cyc R c → (c.map (·.1)).Nodup
theorem Net.plain (N : Net n R) : Plain R := fun _ h => N.simp h
theorem nodup_on {α β : Type} {f : α → β} : ∀ {l : List α}, l.Nodup → (∀ x, x ∈ l → ∀ y, y ∈ l → f x = f y → x = y) → (l.map f).Nodup
  | [], _, _ => .nil
  | a :: l, h, hf => by
    rw [List.nodup_cons] at h
    rw [List.map_cons, List.nodup_cons]
    refine ⟨fun hm => h.1 ?_, nodup_on h.2 fun x hx y hy => hf x (List.mem_cons_of_mem _ hx) y (List.mem_cons_of_mem _ hy)⟩
    obtain ⟨x, hx, e⟩ := List.mem_map.mp hm
    have := hf x (List.mem_cons_of_mem _ hx) a (by simp) e
    rwa [this] at hx
theorem on_nodup {α β : Type} {f : α → β} : ∀ {l : List α}, (l.map f).Nodup → ∀ x, x ∈ l → ∀ y, y ∈ l → f x = f y → x = y
  | [], _, _, h, _, _, _ => nomatch h
  | a :: l, n, x, hx, y, hy, e => by
    rw [List.map_cons, List.nodup_cons] at n
    rcases List.mem_cons.mp hx with e1 | hx2
    · rcases List.mem_cons.mp hy with e2 | hy2
      · rw [e1, e2]
      · exact absurd (List.mem_map.mpr ⟨y, hy2, by rw [← e, e1]⟩) n.1
    · rcases List.mem_cons.mp hy with e2 | hy2
      · exact absurd (List.mem_map.mpr ⟨x, hx2, by rw [e, e2]⟩) n.1
      · exact on_nodup n.2 x hx2 y hy2 e
variable {R2 : Rows} {π : Nat → Nat} {m : Bool}
theorem Ren.plain (r : Ren n R R2 π m) (w : Web n R) (h : Plain R) : Plain R2 := by
  intro c2 cy2
  obtain ⟨cs, dec⟩ := w.dec_ex
  have dec2 := r.dec w dec
  obtain ⟨s0, hs0⟩ : ∃ s0, s0 ∈ c2 := by
    cases c2 with
    | nil => exact absurd rfl cy2.ne
    | cons s0 c => exact ⟨s0, by simp⟩
  obtain ⟨c', hc', hs'⟩ := List.mem_flatten.mp (dec2.all s0 (cy2.st s0 hs0))
  obtain ⟨c, hc, rfl⟩ := List.mem_map.mp hc'
  have cy := dec.cyc c hc
  have inj1 : ∀ x, x ∈ c → ∀ y, y ∈ c → x.1 = y.1 → x = y := on_nodup (h c cy)
  have inj2 : ∀ x, x ∈ c → ∀ y, y ∈ c → x.2 = y.2 → x = y := fun x hx y hy e => by
    have := inj1 _ (cy.next hx) _ (cy.next hy) e
    exact w.phi_inj (cy.st x hx) (cy.st y hy) this
  have sub := Cyc.sub cy2 (r.cyc w cy) hs0 hs'
  refine nodup_on cy2.nd fun x hx y hy e => ?_
  obtain ⟨x', hx', rfl⟩ := List.mem_map.mp ((ren1_perm c).mem_iff.mp (sub x hx))
  obtain ⟨y', hy', rfl⟩ := List.mem_map.mp ((ren1_perm c).mem_iff.mp (sub y hy))
  have sx := cy.st x' hx'
  have sy := cy.st y' hy'
  cases m with
  | false =>
    have e' : π x'.1 = π y'.1 := e
    rw [inj1 x' hx' y' hy' (r.inj _ _ (w.lt _ _ sx) (w.lt _ _ sy) e')]
  | true =>
    have e' : π x'.2 = π y'.2 := e
    rw [inj2 x' hx' y' hy' (r.inj _ _ (w.lt2 sx) (w.lt2 sy) e')]
end
end Gw
set_option linter.all false
/-! Elimination among whole numbers: why each division comes out even. Plain Lean, no program. -/
namespace Gj
abbrev Vec := Nat → Int
def sg : Nat → Int
  | 0 => 1
  | n + 1 => - sg n
def lap (f : List Vec → Int) (k : Nat) : List Vec → List Vec → Int
  | _, [] => 0
  | pre, v :: post => sg post.length * v k * f (pre ++ post) + lap f k (pre ++ [v]) post
def D : Nat → List Vec → Int
  | 0, _ => 1
  | k + 1, vs => lap (D k) k [] vs

def comb (a : Int) (x : Vec) (b : Int) (y : Vec) : Vec := fun t => a * x t + b * y t

theorem lap_lin_pre {f : List Vec → Int} {k : Nat} {a b : Int} {x y : Vec}
    (hf : ∀ l1 l2 : List Vec, l1.length + 1 + l2.length = k → f (l1 ++ comb a x b y :: l2) = a * f (l1 ++ x :: l2) + b * f (l1 ++ y :: l2)) :
    ∀ (post p1 p2 : List Vec), p1.length + 1 + p2.length + post.length = k + 1 →
      lap f k (p1 ++ comb a x b y :: p2) post = a * lap f k (p1 ++ x :: p2) post + b * lap f k (p1 ++ y :: p2) post
  | [], p1, p2, _ => by simp [lap]
  | v :: post, p1, p2, h => by
    have e : ∀ w : Vec, (p1 ++ w :: p2) ++ post = p1 ++ w :: (p2 ++ post) := fun w => by simp
    have e2 : ∀ w : Vec, (p1 ++ w :: p2) ++ [v] = p1 ++ w :: (p2 ++ [v]) := fun w => by simp
    simp only [lap, e, e2]
    rw [hf p1 (p2 ++ post) (by simp at h ⊢; omega), lap_lin_pre hf post p1 (p2 ++ [v]) (by simp at h ⊢; omega)]
    grind

theorem lap_lin {f : List Vec → Int} {k : Nat} {a b : Int} {x y : Vec}
    (hf : ∀ l1 l2 : List Vec, l1.length + 1 + l2.length = k → f (l1 ++ comb a x b y :: l2) = a * f (l1 ++ x :: l2) + b * f (l1 ++ y :: l2)) :
    ∀ (q1 pre q2 : List Vec), pre.length + q1.length + 1 + q2.length = k + 1 →
      lap f k pre (q1 ++ comb a x b y :: q2) = a * lap f k pre (q1 ++ x :: q2) + b * lap f k pre (q1 ++ y :: q2)
  | [], pre, q2, h => by
    have := lap_lin_pre hf q2 pre [] (by simp at h ⊢; omega)
    simp only [List.nil_append, lap]
    rw [this]
    simp only [comb]
    grind
  | v :: q1, pre, q2, h => by
    have e : ∀ w : Vec, pre ++ (q1 ++ w :: q2) = (pre ++ q1) ++ w :: q2 := fun w => by simp
    have e3 : ∀ w : Vec, (q1 ++ w :: q2).length = q1.length + (q2.length + 1) := fun w => by simp
    simp only [List.cons_append, lap, e, e3]
    rw [hf (pre ++ q1) q2 (by simp at h ⊢; omega), lap_lin hf q1 (pre ++ [v]) q2 (by simp at h ⊢; omega)]
    grind

theorem D_lin : ∀ {k : Nat} {a b : Int} {x y : Vec} (l1 l2 : List Vec), l1.length + 1 + l2.length = k →
    D k (l1 ++ comb a x b y :: l2) = a * D k (l1 ++ x :: l2) + b * D k (l1 ++ y :: l2)
  | 0, _, _, _, _, l1, l2, h => by omega
  | k + 1, a, b, x, y, l1, l2, h => by
    show lap (D k) k [] _ = a * lap (D k) k [] _ + b * lap (D k) k [] _
    exact lap_lin (fun l1 l2 h => D_lin l1 l2 h) l1 [] l2 (by simp at h ⊢; omega)

theorem lap_alt_pre {f : List Vec → Int} {k : Nat} {x : Vec}
    (hf : ∀ l1 l2 : List Vec, l1.length + 2 + l2.length = k → f (l1 ++ x :: x :: l2) = 0) :
    ∀ (post p1 p2 : List Vec), p1.length + 2 + p2.length + post.length = k + 1 → lap f k (p1 ++ x :: x :: p2) post = 0
  | [], p1, p2, _ => by simp [lap]
  | v :: post, p1, p2, h => by
    have e : (p1 ++ x :: x :: p2) ++ post = p1 ++ x :: x :: (p2 ++ post) := by simp
    have e2 : (p1 ++ x :: x :: p2) ++ [v] = p1 ++ x :: x :: (p2 ++ [v]) := by simp
    simp only [lap, e, e2]
    rw [hf p1 (p2 ++ post) (by simp at h ⊢; omega), lap_alt_pre hf post p1 (p2 ++ [v]) (by simp at h ⊢; omega)]
    grind

theorem lap_alt {f : List Vec → Int} {k : Nat} {x : Vec}
    (hf : ∀ l1 l2 : List Vec, l1.length + 2 + l2.length = k → f (l1 ++ x :: x :: l2) = 0) :
    ∀ (q1 pre q2 : List Vec), pre.length + q1.length + 2 + q2.length = k + 1 → lap f k pre (q1 ++ x :: x :: q2) = 0
  | [], pre, q2, h => by
    have := lap_alt_pre hf q2 pre [] (by simp at h ⊢; omega)
    simp only [List.nil_append, lap, List.length_cons, sg]
    have e : (pre ++ [x]) ++ [x] = pre ++ [x, x] := by simp
    have e2 : (pre ++ [x]) ++ q2 = pre ++ x :: q2 := by simp
    rw [e, e2, this]
    grind
  | v :: q1, pre, q2, h => by
    have e : pre ++ (q1 ++ x :: x :: q2) = (pre ++ q1) ++ x :: x :: q2 := by simp
    simp only [List.cons_append, lap, e]
    rw [hf (pre ++ q1) q2 (by simp at h ⊢; omega), lap_alt hf q1 (pre ++ [v]) q2 (by simp at h ⊢; omega)]
    grind

theorem D_alt : ∀ {k : Nat} {x : Vec} (l1 l2 : List Vec), l1.length + 2 + l2.length = k → D k (l1 ++ x :: x :: l2) = 0
  | 0, _, l1, l2, h => by omega
  | k + 1, x, l1, l2, h => by
    show lap (D k) k [] _ = 0
    exact lap_alt (fun l1 l2 h => D_alt l1 l2 h) l1 [] l2 (by simp at h ⊢; omega)

/-- a slot that is 0 in all places that count -/
theorem lap_zero_pre {f : List Vec → Int} {k : Nat} {x : Vec}
    (hf : ∀ l1 l2 : List Vec, l1.length + 1 + l2.length = k → f (l1 ++ x :: l2) = 0) :
    ∀ (post p1 p2 : List Vec), p1.length + 1 + p2.length + post.length = k + 1 → lap f k (p1 ++ x :: p2) post = 0
  | [], p1, p2, _ => by simp [lap]
  | v :: post, p1, p2, h => by
    have e : (p1 ++ x :: p2) ++ post = p1 ++ x :: (p2 ++ post) := by simp
    have e2 : (p1 ++ x :: p2) ++ [v] = p1 ++ x :: (p2 ++ [v]) := by simp
    simp only [lap, e, e2]
    rw [hf p1 (p2 ++ post) (by simp at h ⊢; omega), lap_zero_pre hf post p1 (p2 ++ [v]) (by simp at h ⊢; omega)]
    grind
theorem lap_zero {f : List Vec → Int} {k : Nat} {x : Vec} (hx : x k = 0)
    (hf : ∀ l1 l2 : List Vec, l1.length + 1 + l2.length = k → f (l1 ++ x :: l2) = 0) :
    ∀ (q1 pre q2 : List Vec), pre.length + q1.length + 1 + q2.length = k + 1 → lap f k pre (q1 ++ x :: q2) = 0
  | [], pre, q2, h => by
    have := lap_zero_pre hf q2 pre [] (by simp at h ⊢; omega)
    simp only [List.nil_append, lap, hx]
    rw [this]
    grind
  | v :: q1, pre, q2, h => by
    have e : pre ++ (q1 ++ x :: q2) = (pre ++ q1) ++ x :: q2 := by simp
    simp only [List.cons_append, lap, e]
    rw [hf (pre ++ q1) q2 (by simp at h ⊢; omega), lap_zero hx hf q1 (pre ++ [v]) q2 (by simp at h ⊢; omega)]
    grind
theorem D_zero : ∀ {k : Nat} {x : Vec} (l1 l2 : List Vec), (∀ t, t < k → x t = 0) → l1.length + 1 + l2.length = k → D k (l1 ++ x :: l2) = 0
  | 0, _, l1, l2, _, h => by omega
  | k + 1, x, l1, l2, hx, h => by
    show lap (D k) k [] _ = 0
    exact lap_zero (hx k (by omega)) (fun l1 l2 h => D_zero l1 l2 (fun t ht => hx t (by omega)) h) l1 [] l2 (by simp at h ⊢; omega)

/-- the last slot the last unit -/
def eps (k : Nat) : Vec := fun t => if t = k then 1 else 0
theorem lap_eps {k : Nat} : ∀ (post pre : List Vec), pre.length + post.length = k → lap (D k) k pre (post ++ [eps k]) = D k (pre ++ post)
  | [], pre, h => by
    simp [lap, sg, eps]
  | v :: post, pre, h => by
    simp only [List.cons_append, lap]
    have e : pre ++ (post ++ [eps k]) = (pre ++ post) ++ eps k :: [] := by simp
    rw [e, D_zero (pre ++ post) [] (fun t ht => by simp [eps]; omega) (by simp at h ⊢; omega), lap_eps post (pre ++ [v]) (by simp at h ⊢; omega)]
    simp
theorem D_eps {k : Nat} (vs : List Vec) (h : vs.length = k) : D (k + 1) (vs ++ [eps k]) = D k vs := by
  show lap (D k) k [] _ = _
  rw [lap_eps vs [] (by simpa using h)]
  rfl

theorem comb_add (x y : Vec) : comb 1 x 1 y = fun t => x t + y t := by
  funext t
  simp [comb]

theorem D_swap {k : Nat} {x y : Vec} (l1 l2 : List Vec) (h : l1.length + 2 + l2.length = k) : D k (l1 ++ x :: y :: l2) = - D k (l1 ++ y :: x :: l2) := by
  have a := D_alt (k := k) (x := comb 1 x 1 y) l1 l2 h
  have b := D_lin (k := k) (a := 1) (b := 1) (x := x) (y := y) l1 (comb 1 x 1 y :: l2) (by simp at h ⊢; omega)
  have e : ∀ w z : Vec, l1 ++ w :: z :: l2 = (l1 ++ [w]) ++ z :: l2 := fun w z => by simp
  have c1 := D_lin (k := k) (a := 1) (b := 1) (x := x) (y := y) (l1 ++ [x]) l2 (by simp at h ⊢; omega)
  have c2 := D_lin (k := k) (a := 1) (b := 1) (x := x) (y := y) (l1 ++ [y]) l2 (by simp at h ⊢; omega)
  have d1 := D_alt (k := k) (x := x) l1 l2 h
  have d2 := D_alt (k := k) (x := y) l1 l2 h
  rw [e] at a b d1 d2 ⊢
  rw [e x (comb 1 x 1 y), e y (comb 1 x 1 y)] at b
  rw [e y x]
  grind

theorem D_same : ∀ {k : Nat} {x : Vec} (l2 l1 l3 : List Vec), l1.length + 2 + l2.length + l3.length = k → D k (l1 ++ x :: (l2 ++ x :: l3)) = 0
  | k, x, [], l1, l3, h => D_alt l1 l3 (by simp at h ⊢; omega)
  | k, x, y :: l2, l1, l3, h => by
    have a := D_swap (k := k) (x := x) (y := y) l1 (l2 ++ x :: l3) (by simp at h ⊢; omega)
    have b := D_same (k := k) (x := x) l2 (l1 ++ [y]) l3 (by simp at h ⊢; omega)
    have e : l1 ++ y :: x :: (l2 ++ x :: l3) = (l1 ++ [y]) ++ x :: (l2 ++ x :: l3) := by simp
    rw [List.cons_append, a, e, b]
    rfl

theorem D_swap2 {k : Nat} {x y : Vec} (l1 l2 l3 : List Vec) (h : l1.length + 2 + l2.length + l3.length = k) : D k (l1 ++ x :: (l2 ++ y :: l3)) = - D k (l1 ++ y :: (l2 ++ x :: l3)) := by
  have a := D_same (k := k) (x := comb 1 x 1 y) l2 l1 l3 h
  have b := D_lin (k := k) (a := 1) (b := 1) (x := x) (y := y) l1 (l2 ++ comb 1 x 1 y :: l3) (by simp at h ⊢; omega)
  have e : ∀ w z : Vec, l1 ++ w :: (l2 ++ z :: l3) = (l1 ++ w :: l2) ++ z :: l3 := fun w z => by simp
  have c1 := D_lin (k := k) (a := 1) (b := 1) (x := x) (y := y) (l1 ++ x :: l2) l3 (by simp at h ⊢; omega)
  have c2 := D_lin (k := k) (a := 1) (b := 1) (x := x) (y := y) (l1 ++ y :: l2) l3 (by simp at h ⊢; omega)
  have d1 := D_same (k := k) (x := x) l2 l1 l3 h
  have d2 := D_same (k := k) (x := y) l2 l1 l3 h
  rw [e] at a b d1 d2 ⊢
  rw [e x (comb 1 x 1 y), e y (comb 1 x 1 y)] at b
  rw [e y x]
  grind

def sum (n : Nat) (f : Nat → Int) : Int := match n with
  | 0 => 0
  | n + 1 => sum n f + f n
theorem sum_succ (n : Nat) (f : Nat → Int) : sum (n + 1) f = sum n f + f n := rfl
theorem sum_congr {n : Nat} {f g : Nat → Int} (h : ∀ i, i < n → f i = g i) : sum n f = sum n g := by
  induction n with
  | zero => rfl
  | succ n ih => rw [sum_succ, sum_succ, ih (fun i hi => h i (by omega)), h n (by omega)]
theorem sum_single {n i : Nat} {f : Nat → Int} (hi : i < n) (h : ∀ j, j < n → j ≠ i → f j = 0) : sum n f = f i := by
  induction n with
  | zero => omega
  | succ n ih =>
    rw [sum_succ]
    by_cases e : i = n
    · subst e
      have : sum i f = sum i (fun _ => 0) := sum_congr fun j hj => h j (by omega) (by omega)
      have z : ∀ m, sum m (fun _ => 0) = 0 := fun m => by
        induction m with
        | zero => rfl
        | succ m ih => rw [sum_succ, ih]; rfl
      rw [this, z]
      omega
    · rw [ih (by omega) (fun j hj => h j (by omega)), h n (by omega) (fun q => e q.symm)]
      omega
theorem sum_mul (n : Nat) (a : Int) (f : Nat → Int) : a * sum n f = sum n (fun i => a * f i) := by
  induction n with
  | zero => simp [sum]
  | succ n ih => rw [sum_succ, sum_succ, Int.mul_add, ih]
theorem sum_add (n : Nat) (f g : Nat → Int) : sum n f + sum n g = sum n (fun i => f i + g i) := by
  induction n with
  | zero => simp [sum]
  | succ n ih => rw [sum_succ, sum_succ, sum_succ, ← ih]; omega

/-- a slot that is a sum -/
theorem D_sum {k : Nat} (l1 l2 : List Vec) (h : l1.length + 1 + l2.length = k) (a : Nat → Int) (c : Nat → Vec) : ∀ n, D k (l1 ++ (fun t => sum n fun l => a l * c l t) :: l2) = sum n fun l => a l * D k (l1 ++ c l :: l2)
  | 0 => D_zero l1 l2 (fun t _ => rfl) h
  | n + 1 => by
    have e : (fun t => sum (n + 1) fun l => a l * c l t) = comb 1 (fun t => sum n fun l => a l * c l t) (a n) (c n) := by
      funext t
      simp only [comb, sum_succ]
      omega
    rw [e, D_lin l1 l2 h, D_sum l1 l2 h a c n, sum_succ]
    omega

section
variable (c : Nat → Vec)
def cs (n : Nat) : List Vec := (List.range n).map c
theorem cs_len (n : Nat) : (cs c n).length = n := by simp [cs]
def d (k : Nat) : Int := D k (cs c k)
def U (k i j : Nat) : Int := D k ((cs c k).take i ++ c j :: (cs c k).drop (i + 1))
def M (k i j : Nat) : Int := if i < k then U c k i j else d c k * c j i - sum k fun l => U c k l j * c l i
theorem M_lt {k i j : Nat} (h : i < k) : M c k i j = U c k i j := by rw [M, if_pos h]
theorem M_ge {k i j : Nat} (h : k ≤ i) : M c k i j = d c k * c j i - sum k fun l => U c k l j * c l i := by rw [M, if_neg (by omega)]
theorem cs_succ (k : Nat) : cs c (k + 1) = cs c k ++ [c k] := by
  simp [cs, List.range_succ]
theorem cs_get {k l : Nat} (h : l < k) : cs c k = (cs c k).take l ++ c l :: (cs c k).drop (l + 1) := by
  have hl : l < (cs c k).length := by rw [cs_len]; exact h
  have e : (cs c k)[l] = c l := by simp [cs]
  have q := (List.take_append_drop l (cs c k)).symm
  rw [List.drop_eq_getElem_cons hl, e] at q
  exact q

/-- a slot holds what already stands in another: 0 -/
theorem rep_dup {K k i l : Nat} (hi : i < k) (hl : l < k) (h : l ≠ i) (tl : List Vec) (hK : k + tl.length = K) :
    D K ((cs c k).take i ++ c l :: ((cs c k).drop (i + 1) ++ tl)) = 0 := by
  rcases Nat.lt_or_gt_of_ne h with q | q
  · -- l stands ahead of i
    have e1 : (cs c k).take i = (cs c k).take l ++ c l :: ((cs c k).take i).drop (l + 1) := by
      have g : (cs c k).take i = cs c i := by
        simp [cs, ← List.map_take, List.take_range, Nat.min_eq_left (Nat.le_of_lt hi)]
      have g2 : (cs c k).take l = (cs c i).take l := by
        simp [cs, ← List.map_take, List.take_range, Nat.min_eq_left (Nat.le_of_lt hl), Nat.min_eq_left (Nat.le_of_lt q)]
      rw [g, g2]
      exact cs_get c q
    rw [e1]
    have e2 : ((cs c k).take l ++ c l :: ((cs c k).take i).drop (l + 1)) ++ c l :: ((cs c k).drop (i + 1) ++ tl) = (cs c k).take l ++ c l :: ((((cs c k).take i).drop (l + 1)) ++ c l :: ((cs c k).drop (i + 1) ++ tl)) := by simp
    rw [e2]
    refine D_same _ _ _ ?_
    simp [cs_len]
    omega
  · have e1 : (cs c k).drop (i + 1) = ((cs c k).drop (i + 1)).take (l - (i + 1)) ++ c l :: (cs c k).drop (l + 1) := by
      have hl' : l - (i + 1) < ((cs c k).drop (i + 1)).length := by simp [cs_len]; omega
      have g := (List.take_append_drop (l - (i + 1)) ((cs c k).drop (i + 1))).symm
      rw [List.drop_eq_getElem_cons hl'] at g
      have e : ((cs c k).drop (i + 1))[l - (i + 1)] = c l := by
        simp [cs]
        congr 1
        omega
      have e' : ((cs c k).drop (i + 1)).drop (l - (i + 1) + 1) = (cs c k).drop (l + 1) := by
        rw [List.drop_drop]
        congr 1
        omega
      rw [e, e'] at g
      exact g
    rw [e1]
    have e2 : (((cs c k).drop (i + 1)).take (l - (i + 1)) ++ c l :: (cs c k).drop (l + 1)) ++ tl = ((cs c k).drop (i + 1)).take (l - (i + 1)) ++ c l :: ((cs c k).drop (l + 1) ++ tl) := by simp
    rw [e2]
    refine D_same _ _ _ ?_
    simp [cs_len]
    omega

/-- the rows above: solved for the first k columns -/
def Cram (k : Nat) : Prop := ∀ t, t < k → ∀ j, d c k * c j t = sum k fun l => U c k l j * c l t

theorem cram0 : Cram c 0 := fun t h => absurd h (Nat.not_lt_zero t)

/-- in the first k + 1 places: d c_j = sum U_lj c_l + e_j eps -/
theorem res_zero {k : Nat} (h : Cram c k) (j : Nat) : ∀ t, t < k + 1 → comb 1 (comb (d c k) (c j) (-1) (fun t => sum k fun l => U c k l j * c l t)) (-(M c k k j)) (eps k) t = 0 := by
  intro t ht
  have em := M_ge c (k := k) (i := k) (j := j) (Nat.le_refl k)
  simp only [comb]
  by_cases e : t = k
  · subst e
    rw [em]
    simp only [eps, if_pos rfl]
    grind
  · have := h t (by omega) j
    simp only [eps, if_neg e]
    omega

theorem res_D {k : Nat} (h : Cram c k) (j : Nat) (l1 l2 : List Vec) (hl : l1.length + 1 + l2.length = k + 1) :
    d c k * D (k + 1) (l1 ++ c j :: l2) = (sum k fun l => U c k l j * D (k + 1) (l1 ++ c l :: l2)) + M c k k j * D (k + 1) (l1 ++ eps k :: l2) := by
  have a := D_zero (k := k + 1) l1 l2 (res_zero c h j) hl
  rw [D_lin l1 l2 hl, D_lin l1 l2 hl, D_sum l1 l2 hl] at a
  grind

theorem d_succ_at {k : Nat} (h : Cram c k) (hd : d c k ≠ 0) (j : Nat) : D (k + 1) (cs c k ++ [c j]) = M c k k j := by
  have a := res_D c h j (cs c k) [] (by simp [cs_len])
  have z : (sum k fun l => U c k l j * D (k + 1) (cs c k ++ [c l])) = 0 := by
    have : ∀ l, l < k → U c k l j * D (k + 1) (cs c k ++ [c l]) = 0 := fun l hl => by
      have e := cs_get c hl
      have : D (k + 1) (cs c k ++ [c l]) = 0 := by
        rw [e]
        have e2 : ((cs c k).take l ++ c l :: (cs c k).drop (l + 1)) ++ [c l] = (cs c k).take l ++ c l :: ((cs c k).drop (l + 1) ++ c l :: []) := by simp
        rw [e2]
        refine D_same _ _ _ ?_
        simp [cs_len]
        omega
      rw [this]
      simp
    rw [sum_congr (g := fun _ => 0) this]
    have zz : ∀ m, sum m (fun _ => 0) = 0 := fun m => by
      induction m with
      | zero => rfl
      | succ m ih => rw [sum_succ, ih]; rfl
    exact zz k
  rw [z, D_eps _ (cs_len c k)] at a
  have a' : d c k * D (k + 1) (cs c k ++ [c j]) = d c k * M c k k j := by
    rw [a]
    show 0 + M c k k j * d c k = _
    rw [Int.zero_add, Int.mul_comm]
  exact Int.eq_of_mul_eq_mul_left hd a'

theorem d_succ {k : Nat} (h : Cram c k) (hd : d c k ≠ 0) : d c (k + 1) = M c k k k := by
  show D (k + 1) (cs c (k + 1)) = _
  rw [cs_succ]
  exact d_succ_at c h hd k

theorem U_last {k : Nat} (h : Cram c k) (hd : d c k ≠ 0) (j : Nat) : U c (k + 1) k j = M c k k j := by
  show D (k + 1) ((cs c (k + 1)).take k ++ c j :: (cs c (k + 1)).drop (k + 1)) = _
  have e1 : (cs c (k + 1)).take k = cs c k := by
    rw [cs_succ, List.take_append_of_le_length (by rw [cs_len]; exact Nat.le_refl k), List.take_of_length_le (by rw [cs_len]; exact Nat.le_refl k)]
  have e2 : (cs c (k + 1)).drop (k + 1) = [] := List.drop_eq_nil_of_le (by rw [cs_len]; exact Nat.le_refl _)
  rw [e1, e2]
  exact d_succ_at c h hd j

theorem U_up {k i : Nat} (h : Cram c k) (hd : d c k ≠ 0) (hi : i < k) (j : Nat) : d c k * U c (k + 1) i j = d c (k + 1) * U c k i j - U c k i k * M c k k j := by
  have e0 : ∀ v : Vec, (cs c (k + 1)).take i ++ v :: (cs c (k + 1)).drop (i + 1) = (cs c k).take i ++ v :: ((cs c k).drop (i + 1) ++ [c k]) := fun v => by
    rw [cs_succ, List.take_append_of_le_length (by rw [cs_len]; omega), List.drop_append_of_le_length (by rw [cs_len]; omega)]
  have hl : ((cs c k).take i).length + 1 + ((cs c k).drop (i + 1) ++ [c k]).length = k + 1 := by
    simp [cs_len]
    omega
  have a := res_D c h j ((cs c k).take i) ((cs c k).drop (i + 1) ++ [c k]) hl
  have s1 : (sum k fun l => U c k l j * D (k + 1) ((cs c k).take i ++ c l :: ((cs c k).drop (i + 1) ++ [c k]))) = U c k i j * d c (k + 1) := by
    rw [sum_single hi (fun l hl hn => by rw [rep_dup c (K := k + 1) hi hl hn [c k] rfl]; simp)]
    have e : (cs c k).take i ++ c i :: ((cs c k).drop (i + 1) ++ [c k]) = cs c (k + 1) := by
      rw [cs_succ]
      have := cs_get c hi
      conv => rhs; rw [this]
      simp
    rw [e]
    rfl
  have s2 : D (k + 1) ((cs c k).take i ++ eps k :: ((cs c k).drop (i + 1) ++ [c k])) = - U c k i k := by
    have q := D_swap2 (k := k + 1) (x := eps k) (y := c k) ((cs c k).take i) ((cs c k).drop (i + 1)) [] (by simp [cs_len]; omega)
    rw [q]
    have e : (cs c k).take i ++ c k :: ((cs c k).drop (i + 1) ++ [eps k]) = ((cs c k).take i ++ c k :: (cs c k).drop (i + 1)) ++ [eps k] := by simp
    rw [e, D_eps _ (by simp [cs_len]; omega)]
    rfl
  show d c k * D (k + 1) _ = _
  rw [e0, a, s1, s2]
  grind

theorem cram_up {k : Nat} (h : Cram c k) (hd : d c k ≠ 0) : Cram c (k + 1) := by
  intro t ht j
  have hU := U_last c h hd j
  have em := M_ge c (k := k) (i := k) (j := j) (Nat.le_refl k)
  have ek := M_ge c (k := k) (i := k) (j := k) (Nat.le_refl k)
  have ed := d_succ c h hd
  refine Int.eq_of_mul_eq_mul_left hd ?_
  rw [sum_succ, hU, Int.mul_add, sum_mul]
  have e1 : (sum k fun l => d c k * (U c (k + 1) l j * c l t)) = d c (k + 1) * (sum k fun l => U c k l j * c l t) + (- M c k k j) * (sum k fun l => U c k l k * c l t) := by
    rw [sum_mul, sum_mul, sum_add]
    refine sum_congr fun l hl => ?_
    have := U_up c h hd hl j
    grind
  rw [e1]
  by_cases e : t = k
  · subst e
    rw [ed]
    grind
  · have a := h t (by omega) j
    have b := h t (by omega) k
    rw [← a, ← b]
    grind

/-- THE STEP: what the elimination does, comes out even -/
theorem M_up {k i : Nat} (h : Cram c k) (hd : d c k ≠ 0) (hi : i ≠ k) (j : Nat) : d c k * M c (k + 1) i j = M c k k k * M c k i j - M c k i k * M c k k j := by
  have ed := d_succ c h hd
  rcases Nat.lt_or_gt_of_ne hi with q | q
  · rw [M_lt c (show i < k + 1 by omega), M_lt c q, M_lt c q, U_up c h hd q, ed]
  · have hU := U_last c h hd j
    have e1 : (sum k fun l => d c k * (U c (k + 1) l j * c l i)) = d c (k + 1) * (sum k fun l => U c k l j * c l i) + (- M c k k j) * (sum k fun l => U c k l k * c l i) := by
      rw [sum_mul, sum_mul, sum_add]
      refine sum_congr fun l hl => ?_
      have := U_up c h hd hl j
      grind
    rw [M_ge c (show k + 1 ≤ i by omega), M_ge c (i := i) (j := j) (show k ≤ i by omega), M_ge c (i := i) (j := k) (show k ≤ i by omega), sum_succ, hU, ed]
    have e2 := sum_mul k (d c k) (fun l => U c (k + 1) l j * c l i)
    rw [e1] at e2
    rw [ed] at e2
    grind
theorem M_same {k : Nat} (h : Cram c k) (hd : d c k ≠ 0) (j : Nat) : M c (k + 1) k j = M c k k j := by
  rw [M_lt c (show k < k + 1 by omega), U_last c h hd]
theorem M_zero (i j : Nat) : M c 0 i j = c j i := by
  rw [M_ge c (Nat.zero_le i)]
  show (1 : Int) * c j i - 0 = c j i
  omega
theorem d_zero : d c 0 = 1 := rfl
end
end Gj
set_option linter.all false
/-! The rows of places at rest: each pivot is above 0; bounds. -/
namespace Gj
theorem sum_le_one {n i : Nat} {f : Nat → Int} (hi : i < n) (h : ∀ j, j < n → j ≠ i → f j ≤ 0) : sum n f ≤ f i := by
  induction n with
  | zero => omega
  | succ n ih =>
    rw [sum_succ]
    by_cases e : i = n
    · subst e
      have : ∀ m, (∀ j, j < m → f j ≤ 0) → sum m f ≤ 0 := fun m => by
        induction m with
        | zero => intro _; exact Int.le_refl 0
        | succ m ihm =>
          intro q
          rw [sum_succ]
          have a := ihm (fun j hj => q j (by omega))
          have b := q m (by omega)
          omega
      have z := this i (fun j hj => h j (by omega) (by omega))
      omega
    · have a := ih (by omega) (fun j hj => h j (by omega))
      have b := h n (by omega) (fun q => e q.symm)
      omega
section
variable (c : Nat → Vec) (m : Nat) (z : Nat → Int)
/-- what the elimination keeps of rows of places at rest -/
structure Pos (k : Nat) : Prop where
  cram : Cram c k
  dpos : 0 < d c k
  off : ∀ i j, k ≤ i → i < m → j < m → j ≠ i → M c k i j ≤ 0
  up : ∀ i, k ≤ i → i < m → 0 < sum m fun j => M c k i j * z j
theorem Pos.pivot {k : Nat} (h : Pos c m z k) (hk : k < m) (hz : ∀ i, i < m → 0 < z i) : 0 < M c k k k := by
  have a := h.up k (Nat.le_refl k) hk
  have b := sum_le_one (n := m) (i := k) (f := fun j => M c k k j * z j) hk (fun j hj hn => by
    have x := h.off k j (Nat.le_refl k) hk hj hn
    have y := hz j hj
    exact Int.mul_nonpos_of_nonpos_of_nonneg x (by omega))
  have e : 0 < M c k k k * z k := by
    have b' : sum m (fun j => M c k k j * z j) ≤ M c k k k * z k := b
    omega
  exact Int.pos_of_mul_pos_left e (by have := hz k hk; omega)
theorem Pos.step {k : Nat} (h : Pos c m z k) (hk : k < m) (hz : ∀ i, i < m → 0 < z i) : Pos c m z (k + 1) := by
  have hp := h.pivot c m z hk hz
  have hd : d c k ≠ 0 := by have := h.dpos; omega
  refine ⟨cram_up c h.cram hd, by rw [d_succ c h.cram hd]; exact hp, fun i j hi him hj hn => ?_, fun i hi him => ?_⟩
  · have e := M_up c h.cram hd (show i ≠ k by omega) j
    have a := h.off i j (by omega) him hj hn
    have b := h.off i k (by omega) him hk (by omega)
    by_cases q : j = k
    · subst q
      have : d c j * M c (j + 1) i j = 0 := by rw [e]; grind
      rcases Int.mul_eq_zero.mp this with x | x
      · exact absurd x hd
      · omega
    · have g := h.off k j (Nat.le_refl k) hk hj q
      have x1 : M c k k k * M c k i j ≤ 0 := Int.mul_nonpos_of_nonneg_of_nonpos (by omega) a
      have x2 : 0 ≤ M c k i k * M c k k j := Int.mul_nonneg_of_nonpos_of_nonpos b g
      have x3 : d c k * M c (k + 1) i j ≤ 0 := by omega
      have dp := h.dpos
      rcases Int.lt_or_le 0 (M c (k + 1) i j) with y | y
      · have := Int.mul_pos dp y
        omega
      · exact y
  · have e : d c k * (sum m fun j => M c (k + 1) i j * z j) = M c k k k * (sum m fun j => M c k i j * z j) + (- M c k i k) * (sum m fun j => M c k k j * z j) := by
      rw [sum_mul, sum_mul, sum_mul, sum_add]
      refine sum_congr fun j _ => ?_
      have := M_up c h.cram hd (show i ≠ k by omega) j
      grind
    have a := h.up i (by omega) him
    have b := h.up k (Nat.le_refl k) hk
    have o := h.off i k (by omega) him hk (by omega)
    have x1 := Int.mul_pos hp a
    have x2 : 0 ≤ (- M c k i k) * (sum m fun j => M c k k j * z j) := Int.mul_nonneg (by omega) (by omega)
    have x3 : 0 < d c k * (sum m fun j => M c (k + 1) i j * z j) := by omega
    exact Int.pos_of_mul_pos_right x3 (by have := h.dpos; omega)
theorem Pos.start (hoff : ∀ i j, i < m → j < m → j ≠ i → c j i ≤ 0) (hup : ∀ i, i < m → 0 < sum m fun j => c j i * z j) : Pos c m z 0 := by
  refine ⟨cram0 c, by rw [d_zero]; decide, fun i j _ hi hj hn => by rw [M_zero]; exact hoff i j hi hj hn, fun i _ hi => ?_⟩
  rw [sum_congr (g := fun j => c j i * z j) (fun j _ => by rw [M_zero])]
  exact hup i hi
theorem Pos.all (hz : ∀ i, i < m → 0 < z i) (hoff : ∀ i j, i < m → j < m → j ≠ i → c j i ≤ 0) (hup : ∀ i, i < m → 0 < sum m fun j => c j i * z j) : ∀ k, k ≤ m → Pos c m z k
  | 0, _ => Pos.start c m z hoff hup
  | k + 1, h => (Pos.all hz hoff hup k (by omega)).step c m z (by omega) hz
/-- behind the last column: the diagonal -/
theorem M_diag (k i : Nat) (h : i < k) : M c k i i = d c k := by
  rw [M_lt c h]
  show D k _ = D k _
  rw [← cs_get c h]
/-- how great the numbers become -/
def big (b : Nat) : Nat → Nat
  | 0 => b
  | k + 1 => 2 * (big b k * big b k)
theorem M_big {b w : Nat} (hb : ∀ i j, i < m → j < w → (c j i).natAbs ≤ b) (hmw : m ≤ w) (hP : ∀ k, k ≤ m → Pos c m z k) : ∀ k, k ≤ m → ∀ i j, i < m → j < w → (M c k i j).natAbs ≤ big b k
  | 0, _, i, j, hi, hj => by rw [M_zero]; exact hb i j hi hj
  | k + 1, hk, i, j, hi, hj => by
    have P := hP k (by omega)
    have hd : d c k ≠ 0 := by have := P.dpos; omega
    have ih := M_big hb hmw hP k (by omega)
    by_cases e : i = k
    · subst e
      rw [M_same c P.cram hd]
      have h1 := ih i j hi hj
      have : big b i ≤ 2 * (big b i * big b i) := by
        rcases Nat.eq_zero_or_pos (big b i) with q | q
        · rw [q]; exact Nat.zero_le _
        · have := Nat.mul_le_mul_left (big b i) q
          omega
      exact Nat.le_trans h1 this
    · have u := M_up c P.cram hd e j
      have a1 := ih k k (by omega) (by omega)
      have a2 := ih i j hi hj
      have a3 := ih i k hi (by omega)
      have a4 := ih k j (by omega) hj
      have p1 := Nat.mul_le_mul a1 a2
      have p2 := Nat.mul_le_mul a3 a4
      rw [← Int.natAbs_mul] at p1 p2
      have p3 : (d c k * M c (k + 1) i j).natAbs ≤ 2 * (big b k * big b k) := by
        rw [u]
        generalize M c k k k * M c k i j = X at p1 ⊢
        generalize M c k i k * M c k k j = Y at p2 ⊢
        omega
      rw [Int.natAbs_mul] at p3
      have dp : 1 ≤ (d c k).natAbs := by have := P.dpos; omega
      have := Nat.mul_le_mul_right (M c (k + 1) i j).natAbs dp
      show _ ≤ 2 * (big b k * big b k)
      omega
end
end Gj
set_option linter.all false
/-! Places at rest: the rows of the inner places, one solution and no other. Plain Lean, no program. -/
namespace Gw
/-! ### sums over lists of places -/
def ls (l : List Nat) (f : Nat → Int) : Int := (l.map f).sum
theorem ls_nil (f : Nat → Int) : ls [] f = 0 := rfl
theorem ls_cons (x : Nat) (l : List Nat) (f : Nat → Int) : ls (x :: l) f = f x + ls l f := by unfold ls; simp
theorem ls_app (l1 l2 : List Nat) (f : Nat → Int) : ls (l1 ++ l2) f = ls l1 f + ls l2 f := by unfold ls; simp
theorem ls_congr {l : List Nat} {f g : Nat → Int} (h : ∀ x, x ∈ l → f x = g x) : ls l f = ls l g := by
  unfold ls
  rw [List.map_congr_left h]
theorem ls_zero {l : List Nat} {f : Nat → Int} (h : ∀ x, x ∈ l → f x = 0) : ls l f = 0 := by
  induction l with
  | nil => rfl
  | cons x l ih => rw [ls_cons, h x (by simp), ih fun y hy => h y (by simp [hy])]; rfl
theorem ls_add (l : List Nat) (f g : Nat → Int) : ls l (fun x => f x + g x) = ls l f + ls l g := by
  induction l with
  | nil => rfl
  | cons x l ih => rw [ls_cons, ls_cons, ls_cons, ih]; omega
theorem ls_sub (l : List Nat) (f g : Nat → Int) : ls l (fun x => f x - g x) = ls l f - ls l g := by
  induction l with
  | nil => rfl
  | cons x l ih => rw [ls_cons, ls_cons, ls_cons, ih]; omega
theorem ls_mul (l : List Nat) (a : Int) (f : Nat → Int) : ls l (fun x => a * f x) = a * ls l f := by
  induction l with
  | nil => simp [ls]
  | cons x l ih => rw [ls_cons, ls_cons, ih, Int.mul_add]
theorem ls_mul2 (l : List Nat) (a : Int) (f : Nat → Int) : ls l (fun x => f x * a) = ls l f * a := by
  rw [Int.mul_comm, ← ls_mul]
  exact ls_congr fun x _ => Int.mul_comm _ _
theorem ls_perm {l1 l2 : List Nat} (p : l1.Perm l2) (f : Nat → Int) : ls l1 f = ls l2 f := by
  induction p with
  | nil => rfl
  | cons x _ ih => rw [ls_cons, ls_cons, ih]
  | swap x y l => rw [ls_cons, ls_cons, ls_cons, ls_cons]; omega
  | trans _ _ a b => exact a.trans b
theorem ls_map (l : List Nat) (g : Nat → Nat) (f : Nat → Int) : ls (l.map g) f = ls l fun x => f (g x) := by unfold ls; rw [List.map_map]; rfl
theorem ls_nonneg {l : List Nat} {f : Nat → Int} (h : ∀ x, x ∈ l → 0 ≤ f x) : 0 ≤ ls l f := by
  induction l with
  | nil => exact Int.le_refl 0
  | cons x l ih =>
    have h1 := h x (by simp)
    have h2 := ih fun y hy => h y (by simp [hy])
    rw [ls_cons]; omega
theorem ls_ge {l : List Nat} {f : Nat → Int} (h : ∀ x, x ∈ l → 0 ≤ f x) {x : Nat} (hx : x ∈ l) : f x ≤ ls l f := by
  induction l with
  | nil => simp at hx
  | cons y l ih =>
    have h1 := h y (by simp)
    have h2 := ls_nonneg fun z hz => h z (List.mem_cons_of_mem y hz)
    rw [ls_cons]
    rcases List.mem_cons.mp hx with e | e
    · subst e; omega
    · have := ih (fun z hz => h z (by simp [hz])) e
      omega
theorem ls_abs {l : List Nat} {f : Nat → Int} {b : Nat} (h : ∀ x, x ∈ l → (f x).natAbs ≤ b) : (ls l f).natAbs ≤ l.length * b := by
  induction l with
  | nil => simp [ls]
  | cons x l ih =>
    have h1 := h x (by simp)
    have h2 := ih fun y hy => h y (by simp [hy])
    rw [ls_cons, List.length_cons, Nat.add_mul]
    omega
/-- all of a sum of numbers from 0 on that is 0 are 0 -/
theorem ls_all0 {l : List Nat} {f : Nat → Int} (h : ∀ x, x ∈ l → 0 ≤ f x) (e : ls l f = 0) : ∀ x, x ∈ l → f x = 0 := fun x hx => by
  have h1 := ls_ge h hx
  have h2 := h x hx
  omega
theorem ls_one {l : List Nat} (nd : l.Nodup) (o : Nat) (g : Nat → Int) : ls l (fun q => if q = o then g q else 0) = if o ∈ l then g o else 0 := by
  induction l with
  | nil => rfl
  | cons x l ih =>
    rw [List.nodup_cons] at nd
    rw [ls_cons, ih nd.2]
    by_cases h : x = o
    · subst h
      simp [nd.1]
    · have h2 : ¬ o = x := fun e => h e.symm
      simp [h, h2]
theorem ls_comm (l1 l2 : List Nat) (f : Nat → Nat → Int) : ls l1 (fun x => ls l2 fun y => f x y) = ls l2 fun y => ls l1 fun x => f x y := by
  induction l1 with
  | nil => rw [ls_nil, ls_zero]; exact fun _ _ => rfl
  | cons x l1 ih =>
    rw [ls_cons, ih, ← ls_add]
    exact ls_congr fun y _ => (ls_cons x l1 fun x => f x y).symm
/-- the common ones, counted either way -/
theorem ls_swap {l1 l2 : List Nat} (n1 : l1.Nodup) (n2 : l2.Nodup) (g : Nat → Int) : ls l1 (fun o => if o ∈ l2 then g o else 0) = ls l2 fun q => if q ∈ l1 then g q else 0 := by
  have e1 : ls l1 (fun o => if o ∈ l2 then g o else 0) = ls l1 fun o => ls l2 fun q => if q = o then g q else 0 := ls_congr fun o _ => (ls_one n2 o g).symm
  have e2 : ls l2 (fun q => if q ∈ l1 then g q else 0) = ls l2 fun q => ls l1 fun o => if q = o then g q else 0 := ls_congr fun q _ => by
    have := ls_one n1 q g
    rw [← this]
    exact ls_congr fun o _ => by
      by_cases h : o = q
      · subst h; simp
      · have h2 : ¬ q = o := fun e => h e.symm
        simp [h, h2]
  rw [e1, e2, ls_comm]
theorem sum_ls : ∀ (ps : List Nat) (F : Nat → Int), Gj.sum ps.length (fun j => F (ps.getD j 0)) = ls ps F := by
  have go : ∀ (k : Nat) (ps : List Nat) (F : Nat → Int), ps.length = k → Gj.sum k (fun j => F (ps.getD j 0)) = ls ps F := by
    intro k
    induction k with
    | zero =>
      intro ps F h
      have := List.length_eq_zero_iff.mp h
      subst this
      rfl
    | succ k ih =>
      intro ps F h
      rcases snoc_cases ps with e | ⟨t, z, e⟩
      · subst e; simp at h
      · subst e
        have hk : t.length = k := by simpa using h
        rw [Gj.sum_succ, ls_app, ls_cons, ls_nil, ← ih t F hk]
        have e1 : Gj.sum k (fun j => F ((t ++ [z]).getD j 0)) = Gj.sum k fun j => F (t.getD j 0) := Gj.sum_congr fun j hj => by
          rw [List.getD_eq_getElem?_getD, List.getElem?_append_left (by omega), ← List.getD_eq_getElem?_getD]
        have e2 : (t ++ [z]).getD k 0 = z := by
          rw [List.getD_eq_getElem?_getD, List.getElem?_append_right (by omega), hk, Nat.sub_self]
          rfl
        rw [e1, e2, Int.add_zero]
  exact fun ps F => go _ ps F rfl
/-! ### the rows -/
def rowE (w : Nat → Nat → Int) (R : Rows) (p o : Nat) : Int := (if o = p then ls (R p) (w p) else 0) - (if o ∈ R p then w p o else 0)
def sideE (w : Nat → Nat → Int) (R : Rows) (l : List Nat) (f : Nat → Int) (p : Nat) : Int := ls (R p) fun q => if q ∈ l then w p q * f q else 0
def cM (w : Nat → Nat → Int) (R : Rows) (l : List Nat) (cx cy : Nat → Int) (ps : List Nat) (j i : Nat) : Int :=
  if j < ps.length then rowE w R (ps.getD i 0) (ps.getD j 0) else if j = ps.length then sideE w R l cx (ps.getD i 0) else sideE w R l cy (ps.getD i 0)
section
variable {n : Nat} {R : Rows} {l ps : List Nat} {w : Nat → Nat → Int} {cx cy : Nat → Int}
theorem row_sum (W : Web n R) (nd : ps.Nodup) {p : Nat} (hp : p ∈ ps) (z : Nat → Int) : ls ps (fun o => rowE w R p o * z o) = ls (R p) (w p) * z p - ls (R p) fun q => if q ∈ ps then w p q * z q else 0 := by
  have e : ls ps (fun o => rowE w R p o * z o) = ls ps (fun o => (if o = p then ls (R p) (w p) * z o else 0) - if o ∈ R p then w p o * z o else 0) := ls_congr fun o _ => by
    unfold rowE
    by_cases h1 : o = p
    · by_cases h2 : o ∈ R p
      · simp only [h1, if_true] at *
        exact absurd h2 (W.ne p)
      · simp [h1, h2]
        subst h1
        simp [h2]
    · by_cases h2 : o ∈ R p
      · simp [h1, h2, Int.neg_mul]
      · simp [h1, h2]
  rw [e, ls_sub, ls_one nd p, if_pos hp, ls_swap nd (W.nd p)]
/-! ### the way to the rim -/
theorem cross {G : Nat → Prop} {T : Nat → Prop} {x y : Nat} (h : Way R G x y) (hx : ¬ T x) (hy : T y) : ∃ u v, v ∈ R u ∧ ¬ T u ∧ T v := by
  induction h with
  | here => exact absurd hy hx
  | @on y z _ hz hg ih =>
    by_cases c : T y
    · exact ih c
    · exact ⟨y, z, hz, c, hy⟩
theorem third (a b : Nat) : ∃ c, c < 3 ∧ c ≠ a ∧ c ≠ b := by
  by_cases h0 : 0 ≠ a ∧ 0 ≠ b
  · exact ⟨0, by omega, h0.1, h0.2⟩
  · by_cases h1 : 1 ≠ a ∧ 1 ≠ b
    · exact ⟨1, by omega, h1.1, h1.2⟩
    · exact ⟨2, by omega, by omega, by omega⟩
theorem Tied.way (t : Tied n R) (h3 : 3 ≤ n) {x y : Nat} (hx : x < n) (hy : y < n) : ∃ G, Way R G x y := by
  obtain ⟨c, h1, h2, h4⟩ := third x y
  exact ⟨_, t c c x y hx hy (fun e => e.elim (fun e => h2 e.symm) (fun e => h2 e.symm)) (fun e => e.elim (fun e => h4 e.symm) (fun e => h4 e.symm))⟩
structure Ord (R : Rows) (l o : List Nat) : Prop where
  nd : o.Nodup
  near : ∀ a p b, o = a ++ p :: b → ∃ q, q ∈ R p ∧ (q ∈ l ∨ q ∈ a)
theorem ord_ex (W : Web n R) (t : Tied n R) (h3 : 3 ≤ n) {b : Nat} (hb : b ∈ l) (bn : b < n) : ∀ (k : Nat) (o : List Nat), n - o.length = k → Ord R l o → (∀ p, p ∈ o → p < n ∧ p ∉ l) → ∃ o, Ord R l o ∧ ∀ p, p ∈ o ↔ p < n ∧ p ∉ l
  | k, o, hk, ho, hs => by
    by_cases full : ∀ p, p < n → p ∉ l → p ∈ o
    · exact ⟨o, ho, fun p => ⟨hs p, fun h => full p h.1 h.2⟩⟩
    · obtain ⟨p0, hp⟩ : ∃ p, ¬ (p < n → p ∉ l → p ∈ o) := Classical.byContradiction fun h => full fun p => Classical.byContradiction fun q => h ⟨p, q⟩
      have p0n : p0 < n := Classical.byContradiction fun h => hp fun z => absurd z h
      have p0l : p0 ∉ l := fun h => hp fun _ z => absurd h z
      have p0o : p0 ∉ o := fun h => hp fun _ _ => h
      obtain ⟨G, wy⟩ := t.way h3 p0n bn
      obtain ⟨u, v, huv, hu, hv⟩ := cross (T := fun x => x ∈ l ∨ x ∈ o) wy (fun e => e.elim p0l p0o) (.inl hb)
      have un : u < n := W.lt u v huv
      have ul : u ∉ l := fun e => hu (.inl e)
      have uo : u ∉ o := fun e => hu (.inr e)
      have nd' : (o ++ [u]).Nodup := List.nodup_append.mpr ⟨ho.nd, by simp, fun a ha c hc e => by
        rw [List.mem_singleton.mp hc] at e
        exact uo (e ▸ ha)⟩
      have hs' : ∀ p, p ∈ o ++ [u] → p < n ∧ p ∉ l := fun p hp => by
        rcases List.mem_append.mp hp with q | q
        · exact hs p q
        · rw [List.mem_singleton.mp q]; exact ⟨un, ul⟩
      have le := nodup_len nd' (m := List.range n) fun x hx => List.mem_range.mpr (hs' x hx).1
      rw [List.length_range, List.length_append, List.length_singleton] at le
      refine ord_ex W t h3 hb bn (k - 1) (o ++ [u]) (by rw [List.length_append, List.length_singleton]; omega) ⟨nd', fun a p c e => ?_⟩ hs'
      rcases snoc_cases c with ec | ⟨c', z, ec⟩
      · subst ec
        have e' : o ++ [u] = a ++ [p] := e
        obtain ⟨e1, e2⟩ := List.append_inj' e' rfl
        have e3 : u = p := by simpa using e2
        subst e3
        rw [← e1]
        exact ⟨v, huv, hv⟩
      · subst ec
        have e' : o ++ [u] = (a ++ p :: c') ++ [z] := by rw [e]; simp
        obtain ⟨e1, e2⟩ := List.append_inj' e' rfl
        exact ho.near a p c' e1
  termination_by k => k
  decreasing_by
    have le2 := le
    simp only [List.length_append, List.length_singleton, List.length_range] at le2
    omega
/-! ### numbers above 0 that the rows leave above 0 -/
def tt (B : Int) : Nat → Int
  | 0 => 0
  | k + 1 => (B + 1) * tt B k + 1
theorem tt_nonneg {B : Int} (hB : 0 ≤ B) : ∀ k, 0 ≤ tt B k
  | 0 => Int.le_refl 0
  | k + 1 => by
    have := Int.mul_nonneg (show 0 ≤ B + 1 by omega) (tt_nonneg hB k)
    show 0 ≤ (B + 1) * tt B k + 1
    omega
theorem tt_step {B : Int} (hB : 0 ≤ B) (k : Nat) : tt B k + 1 ≤ tt B (k + 1) := by
  have h := Int.mul_nonneg hB (tt_nonneg hB k)
  show tt B k + 1 ≤ (B + 1) * tt B k + 1
  rw [Int.add_mul]
  omega
theorem tt_mono {B : Int} (hB : 0 ≤ B) {i : Nat} : ∀ {j : Nat}, i ≤ j → tt B i ≤ tt B j
  | 0, h => by
    have : i = 0 := by omega
    subst this
    exact Int.le_refl _
  | j + 1, h => by
    by_cases e : i = j + 1
    · subst e; exact Int.le_refl _
    · have h1 := tt_mono hB (i := i) (j := j) (by omega)
      have h2 := tt_step hB j
      omega
theorem z_ex (W : Web n R) (t : Tied n R) (h3 : 3 ≤ n) {b : Nat} (hb : b ∈ l) (bn : b < n) (hw : ∀ p q, q ∈ R p → 1 ≤ w p q) {B : Int} (hB0 : 0 ≤ B) (hB : ∀ p, p < n → ls (R p) (w p) ≤ B) :
    ∃ z : Nat → Int, (∀ p, p ∈ l → z p = 0) ∧ (∀ p, p < n → p ∉ l → 0 < z p) ∧ ∀ p, p < n → p ∉ l → 0 < ls (R p) fun q => w p q * (z p - z q) := by
  obtain ⟨o, ho, hm⟩ := ord_ex W t h3 hb bn _ [] rfl ⟨List.nodup_nil, fun a p c e => by simp at e⟩ (fun p hp => by simp at hp)
  let r : Nat → Nat := fun p => if p ∈ l then o.length else o.length - 1 - o.idxOf p
  have rl : ∀ p, p ∈ l → r p = o.length := fun p hp => if_pos hp
  have ro : ∀ p, p ∉ l → r p = o.length - 1 - o.idxOf p := fun p hp => if_neg hp
  have rle : ∀ p, r p ≤ o.length := fun p => by
    by_cases hp : p ∈ l
    · rw [rl p hp]; exact Nat.le_refl _
    · rw [ro p hp]; omega
  have near : ∀ p, p < n → p ∉ l → ∃ q, q ∈ R p ∧ r p < r q := fun p hp hl => by
    have hpo := (hm p).mpr ⟨hp, hl⟩
    obtain ⟨a, c, e, hpa⟩ := split_at hpo
    have ip : o.idxOf p = a.length := by
      rw [e, List.idxOf_append, if_neg hpa, List.idxOf_cons]; simp
    have le : a.length < o.length := by rw [e]; simp
    obtain ⟨q, hq, h⟩ := ho.near a p c e
    refine ⟨q, hq, ?_⟩
    rw [ro p hl, ip]
    rcases h with h | h
    · rw [rl q h]; omega
    · have hqo : q ∈ o := by rw [e]; simp [h]
      have hql := ((hm q).mp hqo).2
      have iq : o.idxOf q < a.length := by
        rw [e, List.idxOf_append, if_pos h]
        exact List.idxOf_lt_length_iff.mpr h
      rw [ro q hql]; omega
  refine ⟨fun p => tt B o.length - tt B (r p), fun p hp => by show tt B o.length - tt B (r p) = 0; rw [rl p hp]; omega, fun p hp hl => ?_, fun p hp hl => ?_⟩
  · obtain ⟨q, _, h⟩ := near p hp hl
    have h1 := tt_step hB0 (r p)
    have h2 := tt_mono hB0 (show r p + 1 ≤ o.length by have := rle q; omega)
    show 0 < tt B o.length - tt B (r p)
    omega
  · obtain ⟨q0, hq0, h⟩ := near p hp hl
    have e : ls (R p) (fun q => w p q * (tt B o.length - tt B (r p) - (tt B o.length - tt B (r q)))) = ls (R p) (fun q => w p q * tt B (r q)) - ls (R p) (w p) * tt B (r p) := by
      rw [← ls_mul2, ← ls_sub]
      exact ls_congr fun q _ => by
        rw [← Int.mul_sub]
        congr 1
        omega
    show 0 < ls (R p) fun q => w p q * (tt B o.length - tt B (r p) - (tt B o.length - tt B (r q)))
    rw [e]
    have g1 := ls_ge (l := R p) (f := fun q => w p q * tt B (r q)) (fun q hq => Int.mul_nonneg (by have := hw p q hq; omega) (tt_nonneg hB0 _)) hq0
    have g2 := tt_mono hB0 (show r p + 1 ≤ r q0 from h)
    have g3 := hw p q0 hq0
    have g4 : tt B (r p + 1) ≤ w p q0 * tt B (r q0) := by
      have a1 := tt_nonneg hB0 (r q0)
      have a2 := Int.mul_nonneg (show 0 ≤ w p q0 - 1 by omega) a1
      rw [Int.sub_mul, Int.one_mul] at a2
      omega
    have g5 : ls (R p) (w p) * tt B (r p) ≤ B * tt B (r p) := Int.mul_le_mul_of_nonneg_right (hB p hp) (tt_nonneg hB0 _)
    have g6 : tt B (r p + 1) = B * tt B (r p) + tt B (r p) + 1 := by
      show (B + 1) * tt B (r p) + 1 = _
      rw [Int.add_mul, Int.one_mul]
    have g7 := tt_nonneg hB0 (r p)
    have g1' : w p q0 * tt B (r q0) ≤ ls (R p) fun q => w p q * tt B (r q) := g1
    omega
/-! ### the elimination goes through -/
def innr (n : Nat) (r : List Nat) : List Nat := (List.range n).filter fun p => decide (p ∉ r)
theorem innr_mem {x : Nat} : x ∈ innr n l ↔ x < n ∧ x ∉ l := by
  unfold innr
  rw [List.mem_filter, List.mem_range]
  simp
theorem innr_nd : (innr n l).Nodup := List.nodup_range.filter _
theorem getD_mem {ps : List Nat} {i : Nat} (h : i < ps.length) : ps.getD i 0 ∈ ps := by
  rw [List.getD_eq_getElem?_getD, List.getElem?_eq_getElem h]
  exact List.getElem_mem h
theorem getD_inj {ps : List Nat} (nd : ps.Nodup) {i j : Nat} (hi : i < ps.length) (hj : j < ps.length) (e : ps.getD i 0 = ps.getD j 0) : i = j := by
  rw [List.getD_eq_getElem?_getD, List.getElem?_eq_getElem hi, List.getD_eq_getElem?_getD, List.getElem?_eq_getElem hj] at e
  refine (List.getElem?_inj hi nd).mp ?_
  rw [List.getElem?_eq_getElem hi, List.getElem?_eq_getElem hj]
  exact congrArg some e
/-- the elimination of the rows of the inner places: each pivot is above 0 -/
theorem rest_pos (W : Web n R) (t : Tied n R) (h3 : 3 ≤ n) {b : Nat} (hb : b ∈ l) (bn : b < n) (hw : ∀ p q, q ∈ R p → 1 ≤ w p q) {B : Int} (hB0 : 0 ≤ B) (hB : ∀ p, p < n → ls (R p) (w p) ≤ B) :
    ∃ z : Nat → Int, (∀ i, i < (innr n l).length → 0 < z i) ∧ ∀ k, k ≤ (innr n l).length → Gj.Pos (cM w R l cx cy (innr n l)) (innr n l).length z k := by
  obtain ⟨z, z0, z1, z2⟩ := z_ex W t h3 hb bn hw hB0 hB
  have hz : ∀ i, i < (innr n l).length → 0 < z ((innr n l).getD i 0) := fun i hi => by
    have := innr_mem.mp (getD_mem hi)
    exact z1 _ this.1 this.2
  refine ⟨fun i => z ((innr n l).getD i 0), hz, Gj.Pos.all _ _ _ hz (fun i j hi hj hne => ?_) fun i hi => ?_⟩
  · have hp := innr_mem.mp (getD_mem hi)
    have hne2 : (innr n l).getD j 0 ≠ (innr n l).getD i 0 := fun e => hne (getD_inj innr_nd hj hi e)
    show (if j < (innr n l).length then _ else _) ≤ 0
    rw [if_pos hj]
    unfold rowE
    rw [if_neg hne2]
    by_cases h : (innr n l).getD j 0 ∈ R ((innr n l).getD i 0)
    · have := hw _ _ h
      rw [if_pos h]; omega
    · rw [if_neg h]; decide
  · have hi' := getD_mem hi
    have hp := innr_mem.mp hi'
    generalize hpe : (innr n l).getD i 0 = p at hp hi'
    have e : Gj.sum (innr n l).length (fun j => cM w R l cx cy (innr n l) j i * z ((innr n l).getD j 0)) = Gj.sum (innr n l).length fun j => (fun o => rowE w R p o * z o) ((innr n l).getD j 0) := Gj.sum_congr fun j hj => by
      show (if j < (innr n l).length then _ else _) * _ = _
      rw [if_pos hj, hpe]
    rw [e, sum_ls (innr n l) fun o => rowE w R p o * z o, row_sum W innr_nd hi' z, ← ls_mul2, ← ls_sub]
    have g := z2 p hp.1 hp.2
    rw [ls_congr (g := fun q => w p q * (z p - z q)) fun q hq => ?_]
    · exact g
    · have qn := W.lt2 hq
      by_cases hql : q ∈ l
      · have : q ∉ innr n l := fun h => (innr_mem.mp h).2 hql
        rw [if_neg this, z0 q hql]
        rw [Int.sub_zero, Int.sub_zero]
      · rw [if_pos (innr_mem.mpr ⟨qn, hql⟩), Int.mul_sub]
/-- at rest: the corners on the rim, each inner place amid its neighbours -/
structure Rest (n : Nat) (R : Rows) (l : List Nat) (w : Nat → Nat → Int) (d : Int) (cx : Nat → Int) (X : Nat → Int) : Prop where
  rim : ∀ q, q ∈ l → X q = d * cx q
  mid : ∀ p, p < n → p ∉ l → ls (R p) (w p) * X p = ls (R p) fun q => w p q * X q
theorem rest_of (W : Web n R) {f : Nat → Int} {j : Nat} (hj : ∀ i, cM w R l cx cy (innr n l) j i = sideE w R l f ((innr n l).getD i 0)) (cr : Gj.Cram (cM w R l cx cy (innr n l)) (innr n l).length) :
    Rest n R l w (Gj.d (cM w R l cx cy (innr n l)) (innr n l).length) f fun q => if q ∈ l then Gj.d (cM w R l cx cy (innr n l)) (innr n l).length * f q else Gj.M (cM w R l cx cy (innr n l)) (innr n l).length ((innr n l).idxOf q) j := by
  refine ⟨fun q hq => if_pos hq, fun p hp hl => ?_⟩
  have pi : p ∈ innr n l := innr_mem.mpr ⟨hp, hl⟩
  have hi : (innr n l).idxOf p < (innr n l).length := List.idxOf_lt_length_iff.mpr pi
  have gi : ∀ q, q ∈ innr n l → (innr n l).getD ((innr n l).idxOf q) 0 = q := fun q hq => by
    have h := List.idxOf_lt_length_iff.mpr hq
    rw [List.getD_eq_getElem?_getD, List.getElem?_eq_getElem h]
    exact List.getElem_idxOf h
  have ig : ∀ k, k < (innr n l).length → (innr n l).idxOf ((innr n l).getD k 0) = k := fun k hk => by
    have h := getD_mem hk
    exact getD_inj innr_nd (List.idxOf_lt_length_iff.mpr h) hk (gi _ h)
  have c := cr _ hi j
  rw [hj, gi p pi] at c
  have e : Gj.sum (innr n l).length (fun k => Gj.U (cM w R l cx cy (innr n l)) (innr n l).length k j * cM w R l cx cy (innr n l) k ((innr n l).idxOf p)) =
      Gj.sum (innr n l).length fun k => (fun o => rowE w R p o * Gj.M (cM w R l cx cy (innr n l)) (innr n l).length ((innr n l).idxOf o) j) ((innr n l).getD k 0) := Gj.sum_congr fun k hk => by
    have e1 : cM w R l cx cy (innr n l) k ((innr n l).idxOf p) = rowE w R p ((innr n l).getD k 0) := by
      show (if k < (innr n l).length then _ else _) = _
      rw [if_pos hk, gi p pi]
    show _ = rowE w R p ((innr n l).getD k 0) * Gj.M _ _ ((innr n l).idxOf ((innr n l).getD k 0)) j
    rw [e1, ig k hk, Gj.M_lt _ hk, Int.mul_comm]
  rw [e, sum_ls (innr n l) fun o => rowE w R p o * Gj.M (cM w R l cx cy (innr n l)) (innr n l).length ((innr n l).idxOf o) j, row_sum W innr_nd pi] at c
  unfold sideE at c
  rw [← ls_mul] at c
  show ls (R p) (w p) * (if p ∈ l then _ else _) = _
  rw [if_neg hl]
  have f2 : (ls (R p) fun q => w p q * (if q ∈ l then Gj.d (cM w R l cx cy (innr n l)) (innr n l).length * f q else Gj.M (cM w R l cx cy (innr n l)) (innr n l).length ((innr n l).idxOf q) j)) =
      (ls (R p) fun q => Gj.d (cM w R l cx cy (innr n l)) (innr n l).length * if q ∈ l then w p q * f q else 0) + ls (R p) fun q => if q ∈ innr n l then w p q * Gj.M (cM w R l cx cy (innr n l)) (innr n l).length ((innr n l).idxOf q) j else 0 := by
    rw [← ls_add]
    refine ls_congr fun q hq => ?_
    have qn := W.lt2 hq
    by_cases hql : q ∈ l
    · have : q ∉ innr n l := fun h => (innr_mem.mp h).2 hql
      rw [if_pos hql, if_pos hql, if_neg this, Int.add_zero]
      rw [← Int.mul_assoc, ← Int.mul_assoc, Int.mul_comm (w p q)]
    · rw [if_neg hql, if_neg hql, if_pos (innr_mem.mpr ⟨qn, hql⟩), Int.mul_zero, Int.zero_add]
  rw [f2, c]
  omega
end
end Gw
set_option linter.all false
/-! One drawing at rest, lowest terms, how great the numbers are. Plain Lean, no program. -/
namespace Gw
section
variable {n : Nat} {R : Rows} {l : List Nat} {w : Nat → Nat → Int}
theorem max_ex (u : Nat → Int) : ∀ n, 0 < n → ∃ p, p < n ∧ ∀ q, q < n → u q ≤ u p
  | 0, h => absurd h (Nat.lt_irrefl 0)
  | 1, _ => ⟨0, by omega, fun q hq => by have : q = 0 := by omega
                                         subst this; exact Int.le_refl _⟩
  | n + 2, _ => by
    obtain ⟨p, h1, h2⟩ := max_ex u (n + 1) (by omega)
    by_cases h : u (n + 1) ≤ u p
    · refine ⟨p, by omega, fun q hq => ?_⟩
      by_cases e : q = n + 1
      · subst e; exact h
      · exact h2 q (by omega)
    · refine ⟨n + 1, by omega, fun q hq => ?_⟩
      by_cases e : q = n + 1
      · subst e; exact Int.le_refl _
      · have := h2 q (by omega)
        omega
theorem harm_le (W : Web n R) (t : Tied n R) (h3 : 3 ≤ n) {b : Nat} (hb : b ∈ l) (bn : b < n) (hw : ∀ p q, q ∈ R p → 1 ≤ w p q) {u : Nat → Int} (h0 : ∀ q, q ∈ l → u q = 0)
    (hm : ∀ p, p < n → p ∉ l → ls (R p) (w p) * u p = ls (R p) fun q => w p q * u q) : ∀ p, p < n → u p ≤ 0 := by
  obtain ⟨p0, p0n, hmax⟩ := max_ex u n (by omega)
  intro p hp
  refine Int.le_trans (hmax p hp) (Classical.byContradiction fun hpos => ?_)
  obtain ⟨G, wy⟩ := t.way h3 p0n bn
  have all : ∀ z, Way R G p0 z → u z = u p0 ∧ z < n := by
    intro z hz
    induction hz with
    | here => exact ⟨rfl, p0n⟩
    | @on y z _ hz _ ih =>
      obtain ⟨uy, yn⟩ := ih
      have zn := W.lt2 hz
      have yl : y ∉ l := fun h => by
        have := h0 y h
        omega
      have e := hm y yn yl
      rw [← ls_mul2] at e
      have e0 : ls (R y) (fun q => w y q * (u y - u q)) = 0 := by
        rw [ls_congr (g := fun q => w y q * u y - w y q * u q) fun q _ => Int.mul_sub _ _ _, ls_sub, e]
        omega
      have nn : ∀ q, q ∈ R y → 0 ≤ w y q * (u y - u q) := fun q hq => Int.mul_nonneg (by have := hw y q hq; omega) (by
        have := hmax q (W.lt2 hq)
        omega)
      have ez := ls_all0 nn e0 z hz
      have wz := hw y z hz
      rcases Int.mul_eq_zero.mp ez with q | q
      · omega
      · exact ⟨by omega, zn⟩
  have := (all b wy).1
  have := h0 b hb
  omega
theorem harm_zero (W : Web n R) (t : Tied n R) (h3 : 3 ≤ n) {b : Nat} (hb : b ∈ l) (bn : b < n) (hw : ∀ p q, q ∈ R p → 1 ≤ w p q) {u : Nat → Int} (h0 : ∀ q, q ∈ l → u q = 0)
    (hm : ∀ p, p < n → p ∉ l → ls (R p) (w p) * u p = ls (R p) fun q => w p q * u q) : ∀ p, p < n → u p = 0 := fun p hp => by
  have a := harm_le W t h3 hb bn hw h0 hm p hp
  have c := harm_le W t h3 hb bn hw (u := fun q => - u q) (fun q hq => by rw [h0 q hq]; rfl) (fun p hp hl => by
    have := hm p hp hl
    rw [Int.mul_neg, this]
    have e : (ls (R p) fun q => w p q * -u q) = ls (R p) fun q => (-1) * (w p q * u q) := ls_congr fun q _ => by rw [Int.mul_neg]; omega
    rw [e, ls_mul]
    omega) p hp
  omega
/-! ### lowest terms -/
def gcdF (a d : Int) : Int := ((a.natAbs.gcd d.natAbs : Nat) : Int)
def lowF (a d : Int) : Int × Int := (a / gcdF a d, d / gcdF a d)
theorem low_form (a : Int) {d : Int} (hd : 0 < d) : ∃ g x y : Int, 0 < g ∧ a = g * x ∧ d = g * y ∧ 0 < y ∧ x.natAbs.gcd y.natAbs = 1 ∧ lowF a d = (x, y) := by
  have g0 : 0 < a.natAbs.gcd d.natAbs := Nat.gcd_pos_of_pos_right _ (by omega)
  obtain ⟨x, hx⟩ : gcdF a d ∣ a := Int.ofNat_dvd_left.mpr (Nat.gcd_dvd_left _ _)
  obtain ⟨y, hy⟩ : gcdF a d ∣ d := Int.ofNat_dvd_left.mpr (Nat.gcd_dvd_right _ _)
  have gp : 0 < gcdF a d := by unfold gcdF; omega
  have yp : 0 < y := by
    refine Classical.byContradiction fun h => ?_
    have := Int.mul_nonpos_of_nonneg_of_nonpos (show 0 ≤ gcdF a d by omega) (show y ≤ 0 by omega)
    omega
  refine ⟨gcdF a d, x, y, gp, hx, hy, yp, ?_, ?_⟩
  · have e1 : a.natAbs = a.natAbs.gcd d.natAbs * x.natAbs := by
      have := congrArg Int.natAbs hx
      rw [Int.natAbs_mul] at this
      exact this
    have e2 : d.natAbs = a.natAbs.gcd d.natAbs * y.natAbs := by
      have := congrArg Int.natAbs hy
      rw [Int.natAbs_mul] at this
      exact this
    have e3 : a.natAbs.gcd d.natAbs = a.natAbs.gcd d.natAbs * x.natAbs.gcd y.natAbs := by
      rw [← Nat.gcd_mul_left, ← e1, ← e2]
    have e4 : a.natAbs.gcd d.natAbs * 1 = a.natAbs.gcd d.natAbs * x.natAbs.gcd y.natAbs := by rw [Nat.mul_one]; exact e3
    exact (Nat.eq_of_mul_eq_mul_left g0 e4).symm
  · unfold lowF
    have h1 : a / gcdF a d = x := by
      conv => lhs; arg 1; rw [hx]
      exact Int.mul_ediv_cancel_left _ (by omega)
    have h2 : d / gcdF a d = y := by
      conv => lhs; arg 1; rw [hy]
      exact Int.mul_ediv_cancel_left _ (by omega)
    rw [h1, h2]
theorem low_eq {a d a' d' : Int} (hd : 0 < d) (hd' : 0 < d') (h : a * d' = a' * d) : lowF a d = lowF a' d' := by
  obtain ⟨g, x, y, g0, ea, ed, y0, co, e⟩ := low_form a hd
  obtain ⟨g', x', y', g0', ea', ed', y0', co', e'⟩ := low_form a' hd'
  rw [e, e']
  have c : x * y' = x' * y := by
    rw [ea, ed', ea', ed] at h
    have h2 : (g * g') * (x * y') = (g * g') * (x' * y) := by
      rw [show g * g' * (x * y') = g * x * (g' * y') by rw [Int.mul_assoc, Int.mul_assoc, Int.mul_left_comm g' x y'], h]
      rw [Int.mul_assoc, Int.mul_assoc, Int.mul_left_comm x' g y, Int.mul_left_comm g' g]
    exact Int.eq_of_mul_eq_mul_left (Int.ne_of_gt (Int.mul_pos g0 g0')) h2
  have cn : x.natAbs * y'.natAbs = x'.natAbs * y.natAbs := by rw [← Int.natAbs_mul, ← Int.natAbs_mul, c]
  have d1 : y.natAbs ∣ y'.natAbs := by
    have : y.natAbs ∣ x.natAbs * y'.natAbs := ⟨x'.natAbs, by rw [cn, Nat.mul_comm]⟩
    exact Nat.Coprime.dvd_of_dvd_mul_left (show Nat.Coprime y.natAbs x.natAbs from by rw [Nat.Coprime, Nat.gcd_comm]; exact co) this
  have d2 : y'.natAbs ∣ y.natAbs := by
    have : y'.natAbs ∣ x'.natAbs * y.natAbs := ⟨x.natAbs, by rw [← cn, Nat.mul_comm]⟩
    exact Nat.Coprime.dvd_of_dvd_mul_left (show Nat.Coprime y'.natAbs x'.natAbs from by rw [Nat.Coprime, Nat.gcd_comm]; exact co') this
  have ey : y = y' := by
    have := Nat.dvd_antisymm d1 d2
    omega
  subst ey
  have ex : x = x' := Int.eq_of_mul_eq_mul_right (by omega) c
  rw [ex]
theorem low_one (x : Int) {d : Int} (hd : 0 < d) : lowF (d * x) d = (x, 1) := by
  rw [low_eq (a := d * x) (a' := x) (d' := 1) hd (by decide) (by rw [Int.mul_one, Int.mul_comm])]
  unfold lowF gcdF
  have : x.natAbs.gcd (1 : Int).natAbs = 1 := Nat.gcd_one_right _
  rw [this]
  simp
/-- two drawings at rest of one web and its other name are one -/
theorem rest_same {d d' : Int} {cx X X' : Nat → Int} (W : Web n R) (t : Tied n R) (h3 : 3 ≤ n) {b : Nat} (hb : b ∈ l) (bn : b < n) (hw : ∀ p q, q ∈ R p → 1 ≤ w p q)
    (r : Rest n R l w d cx X) (r' : Rest n R l w d' cx X') : ∀ p, p < n → X p * d' = X' p * d := fun p hp => by
  have := harm_zero W t h3 hb bn hw (u := fun q => X q * d' - X' q * d) (fun q hq => by
    rw [r.rim q hq, r'.rim q hq, Int.mul_right_comm, Int.mul_right_comm d', Int.mul_comm d d']
    omega) (fun p hp hl => by
    have a := r.mid p hp hl
    have c := r'.mid p hp hl
    rw [Int.mul_sub, ← Int.mul_assoc, ← Int.mul_assoc, a, c, ← ls_mul2, ← ls_mul2, ← ls_sub]
    exact ls_congr fun q _ => by rw [Int.mul_sub, ← Int.mul_assoc, ← Int.mul_assoc]) p hp
  omega
/-! ### how great -/
theorem two_less {a b : Nat} (hn : n ≤ 9) (ha : a ∈ l) (hb : b ∈ l) (an : a < n) (bn : b < n) (hab : a ≠ b) : (innr n l).length ≤ 7 := by
  have nd : (innr n l ++ [a, b]).Nodup := by
    rw [List.nodup_append]
    refine ⟨innr_nd, by simp [hab], fun x hx y hy e => ?_⟩
    have hx' := (innr_mem.mp hx).2
    subst e
    simp only [List.mem_cons, List.not_mem_nil, or_false] at hy
    rcases hy with q | q
    · exact hx' (q ▸ ha)
    · exact hx' (q ▸ hb)
  have := nodup_len nd (m := List.range n) fun x hx => by
    rw [List.mem_range]
    rcases List.mem_append.mp hx with q | q
    · exact (innr_mem.mp q).1
    · simp only [List.mem_cons, List.not_mem_nil, or_false] at q
      rcases q with q | q <;> omega
  rw [List.length_append, List.length_range] at this
  simp only [List.length_cons, List.length_nil] at this
  omega
theorem cM_big {cx cy : Nat → Int} (W : Web n R) (hn : n ≤ 9) (hw : ∀ p q, q ∈ R p → 1 ≤ w p q ∧ w p q ≤ 10000000) (hx : ∀ q, q ∈ l → (cx q).natAbs < 2 ^ 36) (hy : ∀ q, q ∈ l → (cy q).natAbs < 2 ^ 36) (i j : Nat) :
    (cM w R l cx cy (innr n l) j i).natAbs ≤ 2 ^ 63 := by
  have len : ∀ p, (R p).length ≤ 9 := fun p => by
    have := nodup_len (W.nd p) (m := List.range n) fun x hx => List.mem_range.mpr (W.lt2 hx)
    rw [List.length_range] at this
    omega
  have side : ∀ f : Nat → Int, (∀ q, q ∈ l → (f q).natAbs < 2 ^ 36) → ∀ p, (sideE w R l f p).natAbs ≤ 2 ^ 63 := fun f hf p => by
    have := ls_abs (l := R p) (f := fun q => if q ∈ l then w p q * f q else 0) (b := 10000000 * 2 ^ 36) fun q hq => by
      by_cases h : q ∈ l
      · simp only [h, if_true]
        rw [Int.natAbs_mul]
        have := hw p q hq
        exact Nat.mul_le_mul (by omega) (Nat.le_of_lt (hf q h))
      · simp only [h, if_false]; decide
    have l9 := Nat.mul_le_mul_right (10000000 * 2 ^ 36) (len p)
    have : (sideE w R l f p).natAbs ≤ 9 * (10000000 * 2 ^ 36) := Nat.le_trans this l9
    exact Nat.le_trans this (by decide)
  unfold cM
  split
  · unfold rowE
    generalize (innr n l).getD i 0 = p
    generalize (innr n l).getD j 0 = o
    have h1 : 0 ≤ ls (R p) (w p) := ls_nonneg fun q hq => by have := hw p q hq; omega
    have h2 := ls_abs (l := R p) (f := w p) (b := 10000000) fun q hq => by have := hw p q hq; omega
    have l9 := Nat.mul_le_mul_right 10000000 (len p)
    have h3 : (if o ∈ R p then w p o else 0) ≤ 10000000 ∧ 0 ≤ (if o ∈ R p then w p o else 0) := by
      by_cases h : o ∈ R p
      · have := hw p o h
        simp only [h, if_true]; omega
      · simp only [h, if_false]; decide
    generalize (if o ∈ R p then w p o else 0) = y at h3 ⊢
    split <;> omega
  · split
    · exact side cx hx _
    · exact side cy hy _
theorem big_lt : ∀ k, k ≤ 7 → Gj.big (2 ^ 63) k < 2 ^ 9000 := by
  intro k hk
  have : k = 0 ∨ k = 1 ∨ k = 2 ∨ k = 3 ∨ k = 4 ∨ k = 5 ∨ k = 6 ∨ k = 7 := by omega
  rcases this with h | h | h | h | h | h | h | h <;> subst h <;> decide +kernel
end
end Gw
set_option linter.all false
/-! Corners that bend to the right. Plain Lean, no program. -/
namespace Gw
abbrev Pnt := Int × Int
/-- r lies to the right of the way from p to q -/
def Rt (p q r : Pnt) : Prop := (q.1 - p.1) * (r.2 - p.2) < (q.2 - p.2) * (r.1 - p.1)
/-- a rotation -/
def Rot {α : Type} (l m : List α) : Prop := ∃ a b, l = a ++ b ∧ m = b ++ a
section
variable {α β : Type}
theorem Rot.refl (l : List α) : Rot l l := ⟨[], l, rfl, by simp⟩
theorem Rot.symm {l m : List α} (h : Rot l m) : Rot m l := let ⟨a, b, h1, h2⟩ := h; ⟨b, a, h2, h1⟩
theorem Rot.trans {l m k : List α} (h : Rot l m) (g : Rot m k) : Rot l k := by
  obtain ⟨a, b, rfl, rfl⟩ := h
  obtain ⟨c, d, e, rfl⟩ := g
  rcases List.append_eq_append_iff.mp e with ⟨x, h1, h2⟩ | ⟨x, h1, h2⟩
  · subst h1; subst h2
    exact ⟨x, d ++ b, by simp, by simp⟩
  · subst h1; subst h2
    exact ⟨a ++ c, x, by simp, by simp⟩
theorem Rot.perm {l m : List α} (h : Rot l m) : l.Perm m := by
  obtain ⟨a, b, rfl, rfl⟩ := h
  exact List.perm_append_comm
theorem Rot.map {l m : List α} (f : α → β) (h : Rot l m) : Rot (l.map f) (m.map f) := by
  obtain ⟨a, b, rfl, rfl⟩ := h
  exact ⟨a.map f, b.map f, by simp, by simp⟩
theorem Rot.rev {l m : List α} (h : Rot l m) : Rot l.reverse m.reverse := by
  obtain ⟨a, b, rfl, rfl⟩ := h
  exact ⟨b.reverse, a.reverse, by simp, by simp⟩
theorem Rot.of_map {l : List α} {m : List β} {f : α → β} (h : Rot (l.map f) m) : ∃ k, Rot l k ∧ m = k.map f := by
  obtain ⟨a, b, h1, h2⟩ := h
  obtain ⟨a', b', e, h3, h4⟩ := List.map_eq_append_iff.mp h1
  exact ⟨b' ++ a', ⟨a', b', e, rfl⟩, by rw [h2, List.map_append, h3, h4]⟩
end
/-- corners, gone round, that bend strictly to the right -/
structure Cv (l : List Pnt) : Prop where
  nd : l.Nodup
  rt : ∀ p q t, Rot l (p :: q :: t) → ∀ r, r ∈ t → Rt p q r
theorem Cv.rot {l m : List Pnt} (h : Cv l) (r : Rot l m) : Cv m := ⟨r.perm.nodup_iff.mp h.nd, fun p q t k => h.rt p q t (r.trans k)⟩
theorem nd_map {l : List Pnt} {g : Pnt → Pnt} (inj : ∀ p q, g p = g q → p = q) (h : l.Nodup) : (l.map g).Nodup := by
  induction l with
  | nil => simp
  | cons a l ih =>
    rw [List.nodup_cons] at h
    rw [List.map_cons, List.nodup_cons]
    refine ⟨fun hm => h.1 ?_, ih h.2⟩
    obtain ⟨x, hx, e⟩ := List.mem_map.mp hm
    rwa [inj _ _ e] at hx
theorem Cv.map {l : List Pnt} {g : Pnt → Pnt} (h : Cv l) (inj : ∀ p q, g p = g q → p = q) (hr : ∀ p q r, Rt p q r → Rt (g p) (g q) (g r)) : Cv (l.map g) := by
  refine ⟨nd_map inj h.nd, fun p q t k r hrt => ?_⟩
  obtain ⟨m, k2, e⟩ := k.of_map
  match m, e with
  | p' :: q' :: t', e =>
    rw [List.map_cons, List.map_cons] at e
    injection e with e1 e
    injection e with e2 e3
    subst e1; subst e2; subst e3
    obtain ⟨r', hr', rfl⟩ := List.mem_map.mp hrt
    exact hr _ _ _ (h.rt _ _ _ k2 _ hr')
theorem Cv.scale {l : List Pnt} (h : Cv l) {s x y : Int} (hs : 0 < s) : Cv (l.map fun p => (p.1 * s + x, p.2 * s + y)) := by
  refine h.map (fun p q e => ?_) fun p q r k => ?_
  · have e1 : p.1 * s + x = q.1 * s + x := congrArg Prod.fst e
    have e2 : p.2 * s + y = q.2 * s + y := congrArg Prod.snd e
    have hs0 : s ≠ 0 := by omega
    exact Prod.ext (Int.eq_of_mul_eq_mul_right hs0 (by omega)) (Int.eq_of_mul_eq_mul_right hs0 (by omega))
  · unfold Rt at *
    have e1 : ((q.1 * s + x) - (p.1 * s + x)) * ((r.2 * s + y) - (p.2 * s + y)) = (s * s) * ((q.1 - p.1) * (r.2 - p.2)) := by grind
    have e2 : ((q.2 * s + y) - (p.2 * s + y)) * ((r.1 * s + x) - (p.1 * s + x)) = (s * s) * ((q.2 - p.2) * (r.1 - p.1)) := by grind
    show ((q.1 * s + x) - (p.1 * s + x)) * ((r.2 * s + y) - (p.2 * s + y)) < ((q.2 * s + y) - (p.2 * s + y)) * ((r.1 * s + x) - (p.1 * s + x))
    rw [e1, e2]
    exact Int.mul_lt_mul_of_pos_left k (Int.mul_pos hs hs)
def swp (p : Pnt) : Pnt := (p.2, p.1)
theorem Cv.mirror {l : List Pnt} (h : Cv l) : Cv (l.map swp).reverse := by
  have inj : ∀ p q, swp p = swp q → p = q := fun p q e => Prod.ext (congrArg Prod.snd e) (congrArg Prod.fst e)
  refine ⟨(List.reverse_perm _).nodup_iff.mpr (nd_map inj h.nd), fun p q t k r hr => ?_⟩
  have k1 := k.rev
  rw [List.reverse_reverse] at k1
  have k2 : Rot (l.map swp) (q :: p :: t.reverse) := k1.trans ⟨t.reverse, [q, p], by simp, by simp⟩
  obtain ⟨m, k3, e⟩ := k2.of_map
  match m, e with
  | q' :: p' :: t', e =>
    rw [List.map_cons, List.map_cons] at e
    injection e with e1 e
    injection e with e2 e3
    subst e1; subst e2
    have hr2 : r ∈ t'.map swp := by rw [← e3]; exact List.mem_reverse.mpr hr
    obtain ⟨r', hr', rfl⟩ := List.mem_map.mp hr2
    have := h.rt _ _ _ k3 _ hr'
    unfold Rt at *
    show (q'.2 - p'.2) * (r'.1 - p'.1) < (q'.1 - p'.1) * (r'.2 - p'.2)
    grind
/-- squares, told from the greatest on -/
def sq (f : Int) : Pnt := (f, f * f)
theorem sq_rt {p q r : Int} (h : (q - p) * (r - p) * (r - q) < 0) : Rt (sq p) (sq q) (sq r) := by
  unfold Rt sq
  show (q - p) * (r * r - p * p) < (q * q - p * p) * (r - p)
  have e : (q - p) * (r * r - p * p) - (q * q - p * p) * (r - p) = (q - p) * (r - p) * (r - q) := by grind
  omega
theorem sg1 {a b c : Int} (ha : a < 0) (hb : b < 0) (hc : c < 0) : a * b * c < 0 := Int.mul_neg_of_pos_of_neg (Int.mul_pos_of_neg_of_neg ha hb) hc
theorem sg2 {a b c : Int} (ha : a < 0) (hb : 0 < b) (hc : 0 < c) : a * b * c < 0 := Int.mul_neg_of_neg_of_pos (Int.mul_neg_of_neg_of_pos ha hb) hc
theorem sg3 {a b c : Int} (ha : 0 < a) (hb : 0 < b) (hc : c < 0) : a * b * c < 0 := Int.mul_neg_of_pos_of_neg (Int.mul_pos ha hb) hc
theorem Cv.arc {fs : List Int} (h : fs.Pairwise (· > ·)) : Cv (fs.map sq) := by
  have inj : ∀ p q, sq p = sq q → p = q := fun p q e => congrArg Prod.fst e
  refine ⟨?_, fun p q t k r hr => ?_⟩
  · have nd : fs.Nodup := List.Pairwise.imp (fun h => by omega) h
    clear h
    induction fs with
    | nil => simp
    | cons a l ih =>
      rw [List.nodup_cons] at nd
      rw [List.map_cons, List.nodup_cons]
      refine ⟨fun hm => nd.1 ?_, ih nd.2⟩
      obtain ⟨x, hx, e⟩ := List.mem_map.mp hm
      rwa [inj _ _ e] at hx
  · obtain ⟨m, ⟨a, b, e1, e2⟩, e⟩ := k.of_map
    match m, e, e2 with
    | p' :: q' :: t', e, e2 =>
      rw [List.map_cons, List.map_cons] at e
      injection e with g1 e
      injection e with g2 g3
      subst g1; subst g2; subst g3
      obtain ⟨r', hr', rfl⟩ := List.mem_map.mp hr
      refine sq_rt ?_
      rw [e1, List.pairwise_append] at h
      obtain ⟨ha, hb, hab⟩ := h
      match b, e2 with
      | [], e2 =>
        have e2' : p' :: q' :: t' = a := by simpa using e2
        rw [← e2', List.pairwise_cons, List.pairwise_cons] at ha
        have x1 := ha.1 q' (by simp)
        have x2 := ha.2.1 r' hr'
        exact sg1 (by omega) (by omega) (by omega)
      | [b1], e2 =>
        have e2' : p' :: q' :: t' = b1 :: a := by simpa using e2
        injection e2' with f1 f2
        subst f1
        rw [← f2, List.pairwise_cons] at ha
        have x1 := hab q' (by rw [← f2]; simp) p' (by simp)
        have x2 := hab r' (by rw [← f2]; simp [hr']) p' (by simp)
        have x3 := ha.1 r' hr'
        exact sg3 (by omega) (by omega) (by omega)
      | b1 :: b2 :: b3, e2 =>
        have e2' : p' :: q' :: t' = b1 :: b2 :: (b3 ++ a) := by simpa using e2
        injection e2' with f1 e2'
        injection e2' with f2 f3
        subst f1; subst f2; subst f3
        rw [List.pairwise_cons, List.pairwise_cons] at hb
        have x1 := hb.1 q' (by simp)
        rcases List.mem_append.mp hr' with z | z
        · have x2 := hb.2.1 r' z
          exact sg1 (by omega) (by omega) (by omega)
        · have x2 := hab r' z p' (by simp)
          have x3 := hab r' z q' (by simp)
          exact sg2 (by omega) (by omega) (by omega)
/-- by places -/
theorem Cv.of {l : List Pnt} (nd : l.Nodup) (h : ∀ k p q, l[(if k = 0 then l.length - 1 else k - 1)]? = some p → l[k]? = some q → ∀ r, r ∈ l → r ≠ p → r ≠ q → Rt p q r) : Cv l := by
  refine ⟨nd, fun p q t k r hr => ?_⟩
  have pm := k.perm
  have nd2 := pm.nodup_iff.mp nd
  rw [List.nodup_cons, List.nodup_cons] at nd2
  have rp : r ≠ p := fun e => nd2.1 (by rw [← e]; simp [hr])
  have rq : r ≠ q := fun e => nd2.2.1 (e ▸ hr)
  have rl : r ∈ l := pm.mem_iff.mpr (by simp [hr])
  obtain ⟨a, b, e1, e2⟩ := k
  match b, e2 with
  | [], e2 =>
    have e2' : p :: q :: t = a := by simpa using e2
    have el : l = p :: q :: t := by rw [e1, ← e2']; simp
    exact h 1 p q (by rw [el]; rfl) (by rw [el]; rfl) r rl rp rq
  | [b1], e2 =>
    have e2' : p :: q :: t = b1 :: a := by simpa using e2
    injection e2' with f1 f2
    subst f1
    have el : l = q :: t ++ [p] := by rw [e1, ← f2]
    refine h 0 p q ?_ (by rw [el]; rfl) r rl rp rq
    rw [if_pos rfl, el, List.getElem?_append_right (by simp)]
    simp
  | b1 :: b2 :: b3, e2 =>
    have e2' : p :: q :: t = b1 :: b2 :: (b3 ++ a) := by simpa using e2
    injection e2' with f1 e2'
    injection e2' with f2 f3
    subst f1; subst f2
    refine h (a.length + 1) p q ?_ ?_ r rl rp rq
    · rw [if_neg (by omega), e1, List.getElem?_append_right (by omega)]
      simp
    · rw [e1, List.getElem?_append_right (by omega)]
      simp
theorem Cv.at {l : List Pnt} (h : Cv l) {k j : Nat} {p q r : Pnt} (hp : l[k]? = some p) (hq : l[(k + 1) % l.length]? = some q) (hr : l[j]? = some r) (h1 : j ≠ k) (h2 : j ≠ (k + 1) % l.length) : Rt p q r := by
  have kl := (List.getElem?_eq_some_iff.mp hp).1
  have jl := (List.getElem?_eq_some_iff.mp hr).1
  have drop : ∀ i (x : Pnt), l[i]? = some x → l.drop i = x :: l.drop (i + 1) := fun i x hx => by
    have il := (List.getElem?_eq_some_iff.mp hx).1
    rw [List.drop_eq_getElem_cons il]
    congr 1
    rw [List.getElem?_eq_getElem il] at hx
    exact Option.some.inj hx
  by_cases hk : k + 1 < l.length
  · rw [Nat.mod_eq_of_lt hk] at hq h2
    refine h.rt p q (l.drop (k + 2) ++ l.take k) ⟨l.take k, l.drop k, (List.take_append_drop k l).symm, ?_⟩ r ?_
    · rw [drop k p hp, drop (k + 1) q hq]
      rfl
    · rw [List.mem_append]
      by_cases hj : j < k
      · right
        refine List.mem_of_getElem? (i := j) ?_
        rw [List.getElem?_take, if_pos hj]
        exact hr
      · left
        refine List.mem_of_getElem? (i := j - (k + 2)) ?_
        rw [List.getElem?_drop, show k + 2 + (j - (k + 2)) = j by omega]
        exact hr
  · have ek : k + 1 = l.length := by omega
    rw [ek, Nat.mod_self] at hq h2
    have e0 := drop 0 q hq
    rw [List.drop_zero] at e0
    refine h.rt p q ((l.take k).drop 1) ⟨l.take k, l.drop k, (List.take_append_drop k l).symm, ?_⟩ r ?_
    · have ed : l.drop k = [p] := by
        rw [drop k p hp, List.drop_eq_nil_of_le (by omega)]
      rw [ed]
      have : l.take k = q :: (l.take k).drop 1 := by
        have k0 : k ≠ 0 := fun z => by omega
        obtain ⟨k', rfl⟩ : ∃ k', k = k' + 1 := ⟨k - 1, by omega⟩
        conv => lhs; rw [e0, List.take_succ_cons]
        conv => rhs; rw [e0, List.take_succ_cons]
        rfl
      exact congrArg (fun x => [p] ++ x) this.symm ▸ rfl
    · refine List.mem_of_getElem? (i := j - 1) ?_
      rw [List.getElem?_drop, show 1 + (j - 1) = j by omega, List.getElem?_take, if_pos (by omega)]
      exact hr
end Gw
set_option linter.all false
/-! A face by its new names, from its least step on, its corners with it; at rest under new names. Plain Lean, no program. -/
namespace Gw
section
variable {n : Nat} {R R2 : Rows} {π : Nat → Nat} {m : Bool}
theorem prs_snd {l : List Nat} : (prs l).map (·.2) = l.drop 1 ++ l.take 1 := by
  unfold prs
  rw [List.map_snd_zip]
  cases l <;> simp
theorem Ren.walk (r : Ren n R R2 π m) (w : Web n R) {c : List S} (h : Cyc R c) : ∃ c2, Cyc R2 c2 ∧ c2.map (·.1) = tur m ((c.map (·.1)).map π) := by
  cases m with
  | false =>
    refine ⟨_, r.cyc0 w h, ?_⟩
    rw [List.map_map]
    show _ = (c.map (·.1)).map π
    rw [List.map_map]
    rfl
  | true =>
    have cy := r.cyc1 w h
    have e : ((c.map (hst π true)).reverse).map (·.1) = ((c.map (·.2)).map π).reverse := by
      rw [List.map_reverse, List.map_map, List.map_map]
      rfl
    have e2 : c.map (·.2) = (c.map (·.1)).drop 1 ++ (c.map (·.1)).take 1 := by
      conv => lhs; rw [h.prs]
      rw [prs_snd]
    cases c with
    | nil => exact absurd rfl h.ne
    | cons s t =>
      rw [e2] at e
      match hc : ((s :: t).map (hst π true)).reverse, cy, e with
      | [], cy, _ => exact absurd rfl cy.ne
      | x :: y, cy, e =>
        have cy2 : Cyc R2 ([x] ++ y) := cy
        refine ⟨_, cy2.rot, ?_⟩
        simp at e
        obtain ⟨e3, e4⟩ := e
        show (y ++ [x]).map (·.1) = (((s :: t).map (·.1)).map π).reverse
        simp [e3, e4]
theorem Ren.told (r : Ren n R R2 π m) (w : Web n R) {c : List S} {l l' : List Nat} (tl : Told R c l) {k : Nat} {st : S} (hl : l' = tur m (l.map π)) (hk : (prs l')[k]? = some st) (hle : ∀ q, q ∈ prs l' → lexS st q) :
    ∃ c2, Cyc R2 c2 ∧ Told R2 c2 (l'.drop k ++ l'.take k) := by
  obtain ⟨s, t, cy, mm, le, el⟩ := tl.ex
  obtain ⟨c2, cy2, e2⟩ := r.walk w cy
  rw [← el, ← hl] at e2
  have ep : c2 = prs l' := by rw [← e2]; exact cy2.prs
  have hk2 : c2[k]? = some st := by rw [ep]; exact hk
  have kl := (List.getElem?_eq_some_iff.mp hk2).1
  have ed : c2.drop k = st :: c2.drop (k + 1) := by
    rw [List.drop_eq_getElem_cons kl]
    congr 1
    rw [List.getElem?_eq_getElem kl] at hk2
    exact Option.some.inj hk2
  have cy3 : Cyc R2 (c2.drop k ++ c2.take k) := by
    have : Cyc R2 (c2.take k ++ c2.drop k) := by rw [List.take_append_drop]; exact cy2
    exact this.rot
  have mem : ∀ x, x ∈ c2.drop k ++ c2.take k ↔ x ∈ c2 := fun x => by
    conv => rhs; rw [← List.take_append_drop k c2]
    rw [List.mem_append, List.mem_append, or_comm]
  refine ⟨c2, cy2, ⟨st, c2.drop (k + 1) ++ c2.take k, ?_, ?_, fun x hx => ?_, ?_⟩⟩
  · rw [← List.cons_append, ← ed]; exact cy3
  · rw [← List.cons_append, ← ed]; exact mem
  · refine hle x ?_
    rw [← ep, ← mem x, ed, List.cons_append]
    exact List.mem_cons_of_mem _ hx
  · rw [← List.cons_append, ← ed, List.map_append, List.map_drop, List.map_take, e2]
theorem Ren.told_nd (r : Ren n R R2 π m) {l : List Nat} (nd : l.Nodup) (hl : ∀ x, x ∈ l → x < n) (k : Nat) : ((tur m (l.map π)).drop k ++ (tur m (l.map π)).take k).Nodup ∧ ∀ q, q < n → (π q ∈ (tur m (l.map π)).drop k ++ (tur m (l.map π)).take k ↔ q ∈ l) := by
  have pm : ((tur m (l.map π)).drop k ++ (tur m (l.map π)).take k).Perm (l.map π) := by
    refine List.Perm.trans List.perm_append_comm ?_
    rw [List.take_append_drop]
    exact tur_perm m _
  refine ⟨pm.nodup_iff.mpr (nodup_on nd fun x hx y hy e => r.inj x y (hl x hx) (hl y hy) e), fun q hq => ?_⟩
  rw [pm.mem_iff, List.mem_map]
  constructor
  · rintro ⟨x, hx, e⟩
    rw [← r.inj x q (hl x hx) hq e]
    exact hx
  · exact fun h => ⟨q, h, rfl⟩
/-! ### corners -/
def cr (l : List Nat) (ps : List Pnt) (q : Nat) : Pnt := ps.getD (l.idxOf q) (0, 0)
theorem cr_zip {l : List Nat} {ps : List Pnt} (nd : l.Nodup) (h : l.length = ps.length) {q : Nat} {p : Pnt} : (q, p) ∈ l.zip ps ↔ q ∈ l ∧ cr l ps q = p := by
  constructor
  · intro hm
    obtain ⟨i, hi⟩ := List.mem_iff_getElem?.mp hm
    rw [List.getElem?_zip_eq_some] at hi
    obtain ⟨h1, h2⟩ := hi
    have ql := List.mem_of_getElem? h1
    have il := List.idxOf_lt_length_iff.mpr ql
    have e : l.idxOf q = i := by
      refine (List.getElem?_inj il nd).mp ?_
      rw [h1, List.getElem?_eq_getElem il, List.getElem_idxOf il]
    refine ⟨ql, ?_⟩
    unfold cr
    rw [e, List.getD_eq_getElem?_getD, h2]
    rfl
  · rintro ⟨ql, rfl⟩
    have il := List.idxOf_lt_length_iff.mpr ql
    refine List.mem_iff_getElem?.mpr ⟨l.idxOf q, ?_⟩
    rw [List.getElem?_zip_eq_some]
    refine ⟨by rw [List.getElem?_eq_getElem il, List.getElem_idxOf il], ?_⟩
    unfold cr
    rw [List.getD_eq_getElem?_getD, List.getElem?_eq_getElem (show l.idxOf q < ps.length by omega)]
    rfl
theorem tur_zip {α β : Type} {a : List α} {b : List β} (h : a.length = b.length) {x : α} {y : β} (hm : (x, y) ∈ a.zip b) : (x, y) ∈ (if m then a.reverse else a).zip (if m then b.reverse else b) := by
  cases m with
  | false => exact hm
  | true =>
    show (x, y) ∈ a.reverse.zip b.reverse
    obtain ⟨i, hi⟩ := List.mem_iff_getElem?.mp hm
    rw [List.getElem?_zip_eq_some] at hi
    obtain ⟨h1, h2⟩ := hi
    have il := (List.getElem?_eq_some_iff.mp h1).1
    refine List.mem_iff_getElem?.mpr ⟨a.length - 1 - i, ?_⟩
    rw [List.getElem?_zip_eq_some]
    constructor
    · rw [List.getElem?_reverse (by omega), show a.length - 1 - (a.length - 1 - i) = i by omega]; exact h1
    · rw [List.getElem?_reverse (by omega), show b.length - 1 - (a.length - 1 - i) = i by omega]; exact h2
theorem rot_zip {α β : Type} {a : List α} {b : List β} (h : a.length = b.length) {x : α} {y : β} (k : Nat) (hm : (x, y) ∈ a.zip b) : (x, y) ∈ (a.drop k ++ a.take k).zip (b.drop k ++ b.take k) := by
  rw [List.zip_append (by rw [List.length_drop, List.length_drop, h])]
  have e : a.zip b = (a.take k).zip (b.take k) ++ (a.drop k).zip (b.drop k) := by
    rw [← List.zip_append (by rw [List.length_take, List.length_take, h]), List.take_append_drop, List.take_append_drop]
  rw [e] at hm
  rw [List.mem_append] at hm ⊢
  exact hm.symm
def turP (m : Bool) (l : List Pnt) : List Pnt := if m then (l.map swp).reverse else l
def swp1 (m : Bool) (p : Pnt) : Pnt := if m then swp p else p
theorem turP_is (l : List Pnt) : turP m l = if m then (l.map (swp1 m)).reverse else l.map (swp1 m) := by
  cases m with
  | true => rfl
  | false =>
    show l = l.map fun p => p
    exact (List.map_id _).symm
theorem cr_ren {l : List Nat} {ps : List Pnt} {k : Nat} (nd : l.Nodup) (h : l.length = ps.length) (nd2 : ((tur m (l.map π)).drop k ++ (tur m (l.map π)).take k).Nodup) {q : Nat} (hq : q ∈ l) :
    cr ((tur m (l.map π)).drop k ++ (tur m (l.map π)).take k) ((turP m ps).drop k ++ (turP m ps).take k) (π q) = swp1 m (cr l ps q) := by
  have h0 := (cr_zip nd h (q := q) (p := cr l ps q)).mpr ⟨hq, rfl⟩
  have h1 : (π q, swp1 m (cr l ps q)) ∈ (l.map π).zip (ps.map (swp1 m)) := by
    rw [List.zip_map]
    exact List.mem_map.mpr ⟨_, h0, rfl⟩
  have h2 := tur_zip (m := m) (by rw [List.length_map, List.length_map, h]) h1
  rw [← turP_is] at h2
  have lt : (tur m (l.map π)).length = (turP m ps).length := by
    rw [(tur_perm m _).length_eq, turP_is, List.length_map, h]
    split <;> simp
  have h3 := rot_zip (a := tur m (l.map π)) (b := turP m ps) lt k h2
  have ll : ((tur m (l.map π)).drop k ++ (tur m (l.map π)).take k).length = ((turP m ps).drop k ++ (turP m ps).take k).length := by
    rw [List.length_append, List.length_append, List.length_drop, List.length_drop, List.length_take, List.length_take, lt]
  exact ((cr_zip nd2 ll).mp h3).2
theorem turP_cv {ps : List Pnt} (h : Cv ps) (k : Nat) : Cv ((turP m ps).drop k ++ (turP m ps).take k) := by
  have c : Cv (turP m ps) := by
    cases m with
    | true => exact h.mirror
    | false => exact h
  exact c.rot ⟨(turP m ps).take k, (turP m ps).drop k, (List.take_append_drop k _).symm, rfl⟩
theorem turP_mem {ps : List Pnt} {k : Nat} {p : Pnt} (h : p ∈ (turP m ps).drop k ++ (turP m ps).take k) : ∃ p', p' ∈ ps ∧ p = swp1 m p' := by
  have h2 : p ∈ turP m ps := by
    rw [← List.take_append_drop k (turP m ps)]
    rw [List.mem_append] at h ⊢
    exact h.symm
  rw [turP_is] at h2
  have h3 : p ∈ ps.map (swp1 m) := by
    cases m with
    | true => exact List.mem_reverse.mp h2
    | false => exact h2
  obtain ⟨p', hp, e⟩ := List.mem_map.mp h3
  exact ⟨p', hp, e.symm⟩
/-! ### at rest -/
theorem Ren.rest (r : Ren n R R2 π m) (w : Web n R) {l l2 : List Nat} {wt wt2 : Nat → Nat → Int} {d2 : Int} {cx cx2 X2 : Nat → Int} (hl : ∀ q, q < n → (π q ∈ l2 ↔ q ∈ l)) (ln : ∀ q, q ∈ l → q < n)
    (hw : ∀ p q, p < n → q < n → wt2 (π p) (π q) = wt p q) (hc : ∀ q, q ∈ l → cx2 (π q) = cx q) (h : Rest n R2 l2 wt2 d2 cx2 X2) : Rest n R l wt d2 cx fun q => X2 (π q) := by
  refine ⟨fun q hq => ?_, fun p hp hpl => ?_⟩
  · rw [h.rim _ ((hl q (ln q hq)).mpr hq), hc q hq]
  · have e := h.mid (π p) (r.lt p hp) fun z => hpl ((hl p hp).mp z)
    obtain ⟨l1, l3, e1, e2⟩ := r.row p hp
    have pm : (R2 (π p)).Perm ((R p).map π) := by
      rw [e2]
      refine List.Perm.trans List.perm_append_comm ?_
      rw [← e1]
      exact (tur_perm m _).map π
    rw [ls_perm pm, ls_perm pm, ls_map, ls_map] at e
    have e3 : ls (R p) (fun q => wt2 (π p) (π q)) = ls (R p) (wt p) := ls_congr fun q hq => hw p q hp (w.lt2 hq)
    have e4 : ls (R p) (fun q => wt2 (π p) (π q) * X2 (π q)) = ls (R p) fun q => wt p q * X2 (π q) := ls_congr fun q hq => by rw [hw p q hp (w.lt2 hq)]
    rw [e3, e4] at e
    exact e
/-- the same drawing -/
theorem two_same (W : Web n R) (t : Tied n R) (h3 : 3 ≤ n) {l : List Nat} {b : Nat} (hb : b ∈ l) (bn : b < n) {wt : Nat → Nat → Int} (hw : ∀ p q, q ∈ R p → 1 ≤ wt p q) {d d2 : Int} (hd : 0 < d) (hd2 : 0 < d2) {cx X X2 : Nat → Int}
    (h : Rest n R l wt d cx X) (h2 : Rest n R l wt d2 cx fun q => X2 (π q)) {p : Nat} (hp : p < n) : lowF (X2 (π p)) d2 = lowF (X p) d :=
  (low_eq hd hd2 (rest_same W t h3 hb bn hw h h2 p hp)).symm
end
end Gw
set_option Elab.async false
set_option linter.all false
set_option maxRecDepth 100000
set_option maxHeartbeats 0
/-! The head: where each def stands, which names are built-ins; the top's run. -/
namespace Rd
open PySem PySem.Spec PyProof.Rows L2
def top (i : Nat) : Stmt := PySem.Challenge.pw_restdraw_k35_whole_renamed_and_mirrored.main.body.getD i (.Pass ⟨0, 0, 0, 0⟩)
abbrev s_is_whole : Stmt := top 8
abbrev s_divisor : Stmt := top 9
abbrev s_fraction : Stmt := top 10
abbrev s_reached : Stmt := top 12
abbrev s_ties : Stmt := top 13
abbrev s_steps : Stmt := top 14
abbrev s_behind : Stmt := top 15
abbrev s_steps_round : Stmt := top 16
abbrev s_told_round : Stmt := top 17
abbrev s_faces : Stmt := top 18
abbrev s_is_flat : Stmt := top 19
abbrev s_want_flat : Stmt := top 20
abbrev s_hangs_together : Stmt := top 22
abbrev s_breaks : Stmt := top 23
abbrev s_is_three_tied : Stmt := top 24
abbrev s_weight_of : Stmt := top 26
abbrev s_common_below : Stmt := top 28
abbrev s_whole_row : Stmt := top 29
abbrev s_lead_at : Stmt := top 30
abbrev s_taken_off : Stmt := top 31
abbrev s_cleared : Stmt := top 32
abbrev s_solved : Stmt := top 33
abbrev s_is_pair : Stmt := top 35
abbrev s_want_rim : Stmt := top 36
abbrev s_lies_right : Stmt := top 37
abbrev s_bend_right : Stmt := top 38
abbrev s_want_corners : Stmt := top 39
abbrev s_inner_places : Stmt := top 40
abbrev s_want_weights : Stmt := top 41
abbrev s_row_at : Stmt := top 42
abbrev s_side_at : Stmt := top 43
abbrev s_at_rest : Stmt := top 44
abbrev s_l_pot : Stmt := top 46
abbrev s_l_digit : Stmt := top 47
abbrev s_l_ahead : Stmt := top 48
abbrev s_l_behind : Stmt := top 49
abbrev s_l_add : Stmt := top 50
abbrev s_l_flip : Stmt := top 51
abbrev s_l_step : Stmt := top 52
abbrev s_l_cornered : Stmt := top 53
abbrev s_l_names : Stmt := top 54
abbrev s_l_web : Stmt := top 55
abbrev s_l_hangs : Stmt := top 56
abbrev s_l_without : Stmt := top 57
abbrev s_l_three_tied : Stmt := top 58
abbrev s_l_tied : Stmt := top 59
abbrev s_l_face : Stmt := top 60
abbrev s_l_faces : Stmt := top 61
abbrev s_l_is_right : Stmt := top 62
abbrev s_l_bent : Stmt := top 63
abbrev s_l_arc : Stmt := top 64
abbrev s_l_shape : Stmt := top 65
abbrev s_l_weights : Stmt := top 66
abbrev s_l_common : Stmt := top 67
abbrev s_l_is_fraction : Stmt := top 68
abbrev s_l_is_drawing : Stmt := top 69
abbrev s_l_begun : Stmt := top 71
abbrev s_l_about : Stmt := top 72
abbrev s_law : Stmt := top 73
def d_is_whole : He.DefD := ⟨("is_whole", none), "is_whole", "is_whole", defArgs s_is_whole, defBody s_is_whole, defScope s_is_whole, [], []⟩
def d_divisor : He.DefD := ⟨("divisor", none), "divisor", "divisor", defArgs s_divisor, defBody s_divisor, defScope s_divisor, [], []⟩
def d_fraction : He.DefD := ⟨("fraction", none), "fraction", "fraction", defArgs s_fraction, defBody s_fraction, defScope s_fraction, [], []⟩
def d_reached : He.DefD := ⟨("reached", none), "reached", "reached", defArgs s_reached, defBody s_reached, defScope s_reached, [], []⟩
def d_ties : He.DefD := ⟨("ties", none), "ties", "ties", defArgs s_ties, defBody s_ties, defScope s_ties, [], []⟩
def d_steps : He.DefD := ⟨("steps", none), "steps", "steps", defArgs s_steps, defBody s_steps, defScope s_steps, [], []⟩
def d_behind : He.DefD := ⟨("behind", none), "behind", "behind", defArgs s_behind, defBody s_behind, defScope s_behind, [], []⟩
def d_steps_round : He.DefD := ⟨("steps_round", none), "steps_round", "steps_round", defArgs s_steps_round, defBody s_steps_round, defScope s_steps_round, [], []⟩
def d_told_round : He.DefD := ⟨("told_round", none), "told_round", "told_round", defArgs s_told_round, defBody s_told_round, defScope s_told_round, [], []⟩
def d_faces : He.DefD := ⟨("faces", none), "faces", "faces", defArgs s_faces, defBody s_faces, defScope s_faces, [], []⟩
def d_is_flat : He.DefD := ⟨("is_flat", none), "is_flat", "is_flat", defArgs s_is_flat, defBody s_is_flat, defScope s_is_flat, [], []⟩
def d_want_flat : He.DefD := ⟨("want_flat", none), "want_flat", "want_flat", defArgs s_want_flat, defBody s_want_flat, defScope s_want_flat, [], []⟩
def d_hangs_together : He.DefD := ⟨("hangs_together", none), "hangs_together", "hangs_together", defArgs s_hangs_together, defBody s_hangs_together, defScope s_hangs_together, [], []⟩
def d_breaks : He.DefD := ⟨("breaks", none), "breaks", "breaks", defArgs s_breaks, defBody s_breaks, defScope s_breaks, [], []⟩
def d_is_three_tied : He.DefD := ⟨("is_three_tied", none), "is_three_tied", "is_three_tied", defArgs s_is_three_tied, defBody s_is_three_tied, defScope s_is_three_tied, [], []⟩
def d_weight_of : He.DefD := ⟨("weight_of", none), "weight_of", "weight_of", defArgs s_weight_of, defBody s_weight_of, defScope s_weight_of, [], []⟩
def d_common_below : He.DefD := ⟨("common_below", none), "common_below", "common_below", defArgs s_common_below, defBody s_common_below, defScope s_common_below, [], []⟩
def d_whole_row : He.DefD := ⟨("whole_row", none), "whole_row", "whole_row", defArgs s_whole_row, defBody s_whole_row, defScope s_whole_row, [], []⟩
def d_lead_at : He.DefD := ⟨("lead_at", none), "lead_at", "lead_at", defArgs s_lead_at, defBody s_lead_at, defScope s_lead_at, [], []⟩
def d_taken_off : He.DefD := ⟨("taken_off", none), "taken_off", "taken_off", defArgs s_taken_off, defBody s_taken_off, defScope s_taken_off, [], []⟩
def d_cleared : He.DefD := ⟨("cleared", none), "cleared", "cleared", defArgs s_cleared, defBody s_cleared, defScope s_cleared, [], []⟩
def d_solved : He.DefD := ⟨("solved", none), "solved", "solved", defArgs s_solved, defBody s_solved, defScope s_solved, [], []⟩
def d_is_pair : He.DefD := ⟨("is_pair", none), "is_pair", "is_pair", defArgs s_is_pair, defBody s_is_pair, defScope s_is_pair, [], []⟩
def d_want_rim : He.DefD := ⟨("want_rim", none), "want_rim", "want_rim", defArgs s_want_rim, defBody s_want_rim, defScope s_want_rim, [], []⟩
def d_lies_right : He.DefD := ⟨("lies_right", none), "lies_right", "lies_right", defArgs s_lies_right, defBody s_lies_right, defScope s_lies_right, [], []⟩
def d_bend_right : He.DefD := ⟨("bend_right", none), "bend_right", "bend_right", defArgs s_bend_right, defBody s_bend_right, defScope s_bend_right, [], []⟩
def d_want_corners : He.DefD := ⟨("want_corners", none), "want_corners", "want_corners", defArgs s_want_corners, defBody s_want_corners, defScope s_want_corners, [], []⟩
def d_inner_places : He.DefD := ⟨("inner_places", none), "inner_places", "inner_places", defArgs s_inner_places, defBody s_inner_places, defScope s_inner_places, [], []⟩
def d_want_weights : He.DefD := ⟨("want_weights", none), "want_weights", "want_weights", defArgs s_want_weights, defBody s_want_weights, defScope s_want_weights, [], []⟩
def d_row_at : He.DefD := ⟨("row_at", none), "row_at", "row_at", defArgs s_row_at, defBody s_row_at, defScope s_row_at, [], []⟩
def d_side_at : He.DefD := ⟨("side_at", none), "side_at", "side_at", defArgs s_side_at, defBody s_side_at, defScope s_side_at, [], []⟩
def d_at_rest : He.DefD := ⟨("at_rest", none), "at_rest", "at_rest", defArgs s_at_rest, defBody s_at_rest, defScope s_at_rest, [], []⟩
def d_l_pot : He.DefD := ⟨("_law_pot", none), "_law_pot", "_law_pot", defArgs s_l_pot, defBody s_l_pot, defScope s_l_pot, [], []⟩
def d_l_digit : He.DefD := ⟨("_law_digit", none), "_law_digit", "_law_digit", defArgs s_l_digit, defBody s_l_digit, defScope s_l_digit, [], []⟩
def d_l_ahead : He.DefD := ⟨("_law_ahead", none), "_law_ahead", "_law_ahead", defArgs s_l_ahead, defBody s_l_ahead, defScope s_l_ahead, [], []⟩
def d_l_behind : He.DefD := ⟨("_law_behind", none), "_law_behind", "_law_behind", defArgs s_l_behind, defBody s_l_behind, defScope s_l_behind, [], []⟩
def d_l_add : He.DefD := ⟨("_law_add", none), "_law_add", "_law_add", defArgs s_l_add, defBody s_l_add, defScope s_l_add, [], []⟩
def d_l_flip : He.DefD := ⟨("_law_flip", none), "_law_flip", "_law_flip", defArgs s_l_flip, defBody s_l_flip, defScope s_l_flip, [], []⟩
def d_l_step : He.DefD := ⟨("_law_step", none), "_law_step", "_law_step", defArgs s_l_step, defBody s_l_step, defScope s_l_step, [], []⟩
def d_l_cornered : He.DefD := ⟨("_law_cornered", none), "_law_cornered", "_law_cornered", defArgs s_l_cornered, defBody s_l_cornered, defScope s_l_cornered, [], []⟩
def d_l_names : He.DefD := ⟨("_law_names", none), "_law_names", "_law_names", defArgs s_l_names, defBody s_l_names, defScope s_l_names, [], []⟩
def d_l_web : He.DefD := ⟨("_law_web", none), "_law_web", "_law_web", defArgs s_l_web, defBody s_l_web, defScope s_l_web, [], []⟩
def d_l_hangs : He.DefD := ⟨("_law_hangs", none), "_law_hangs", "_law_hangs", defArgs s_l_hangs, defBody s_l_hangs, defScope s_l_hangs, [], []⟩
def d_l_without : He.DefD := ⟨("_law_without", none), "_law_without", "_law_without", defArgs s_l_without, defBody s_l_without, defScope s_l_without, [], []⟩
def d_l_three_tied : He.DefD := ⟨("_law_three_tied", none), "_law_three_tied", "_law_three_tied", defArgs s_l_three_tied, defBody s_l_three_tied, defScope s_l_three_tied, [], []⟩
def d_l_tied : He.DefD := ⟨("_law_tied", none), "_law_tied", "_law_tied", defArgs s_l_tied, defBody s_l_tied, defScope s_l_tied, [], []⟩
def d_l_face : He.DefD := ⟨("_law_face", none), "_law_face", "_law_face", defArgs s_l_face, defBody s_l_face, defScope s_l_face, [], []⟩
def d_l_faces : He.DefD := ⟨("_law_faces", none), "_law_faces", "_law_faces", defArgs s_l_faces, defBody s_l_faces, defScope s_l_faces, [], []⟩
def d_l_is_right : He.DefD := ⟨("_law_is_right", none), "_law_is_right", "_law_is_right", defArgs s_l_is_right, defBody s_l_is_right, defScope s_l_is_right, [], []⟩
def d_l_bent : He.DefD := ⟨("_law_bent", none), "_law_bent", "_law_bent", defArgs s_l_bent, defBody s_l_bent, defScope s_l_bent, [], []⟩
def d_l_arc : He.DefD := ⟨("_law_arc", none), "_law_arc", "_law_arc", defArgs s_l_arc, defBody s_l_arc, defScope s_l_arc, [], []⟩
def d_l_shape : He.DefD := ⟨("_law_shape", none), "_law_shape", "_law_shape", defArgs s_l_shape, defBody s_l_shape, defScope s_l_shape, [], []⟩
def d_l_weights : He.DefD := ⟨("_law_weights", none), "_law_weights", "_law_weights", defArgs s_l_weights, defBody s_l_weights, defScope s_l_weights, [], []⟩
def d_l_common : He.DefD := ⟨("_law_common", none), "_law_common", "_law_common", defArgs s_l_common, defBody s_l_common, defScope s_l_common, [], []⟩
def d_l_is_fraction : He.DefD := ⟨("_law_is_fraction", none), "_law_is_fraction", "_law_is_fraction", defArgs s_l_is_fraction, defBody s_l_is_fraction, defScope s_l_is_fraction, [], []⟩
def d_l_is_drawing : He.DefD := ⟨("_law_is_drawing", none), "_law_is_drawing", "_law_is_drawing", defArgs s_l_is_drawing, defBody s_l_is_drawing, defScope s_l_is_drawing, [], []⟩
def d_l_begun : He.DefD := ⟨("_law_begun", none), "_law_begun", "_law_begun", defArgs s_l_begun, defBody s_l_begun, defScope s_l_begun, [], []⟩
def d_l_about : He.DefD := ⟨("_law_about", none), "_law_about", "_law_about", defArgs s_l_about, defBody s_l_about, defScope s_l_about, [], []⟩
def d_law : He.DefD := ⟨("law", none), "law", "law", defArgs s_law, defBody s_law, defScope s_law, [], []⟩
def fn : List He.DefD := [d_is_whole, d_divisor, d_fraction, d_reached, d_ties, d_steps, d_behind, d_steps_round, d_told_round, d_faces, d_is_flat, d_want_flat, d_hangs_together, d_breaks, d_is_three_tied, d_weight_of, d_common_below, d_whole_row, d_lead_at, d_taken_off, d_cleared, d_solved, d_is_pair, d_want_rim, d_lies_right, d_bend_right, d_want_corners, d_inner_places, d_want_weights, d_row_at, d_side_at, d_at_rest, d_l_pot, d_l_digit, d_l_ahead, d_l_behind, d_l_add, d_l_flip, d_l_step, d_l_cornered, d_l_names, d_l_web, d_l_hangs, d_l_without, d_l_three_tied, d_l_tied, d_l_face, d_l_faces, d_l_is_right, d_l_bent, d_l_arc, d_l_shape, d_l_weights, d_l_common, d_l_is_fraction, d_l_is_drawing, d_l_begun, d_l_about, d_law]
def faG : List He.Fa := [.glo "is_whole", .glo "divisor", .glo "fraction", .glo "reached", .glo "ties", .glo "steps", .glo "behind", .glo "steps_round", .glo "told_round", .glo "faces", .glo "is_flat", .glo "want_flat", .glo "hangs_together", .glo "breaks", .glo "is_three_tied", .glo "weight_of", .glo "common_below", .glo "whole_row", .glo "lead_at", .glo "taken_off", .glo "cleared", .glo "solved", .glo "is_pair", .glo "want_rim", .glo "lies_right", .glo "bend_right", .glo "want_corners", .glo "inner_places", .glo "want_weights", .glo "row_at"]
def faG2 : List He.Fa := [.glo "side_at", .glo "at_rest", .glo "_law_pot", .glo "_law_digit", .glo "_law_ahead", .glo "_law_behind", .glo "_law_add", .glo "_law_flip", .glo "_law_step", .glo "_law_cornered", .glo "_law_names", .glo "_law_web", .glo "_law_hangs", .glo "_law_without", .glo "_law_three_tied", .glo "_law_tied", .glo "_law_face", .glo "_law_faces", .glo "_law_is_right", .glo "_law_bent", .glo "_law_arc", .glo "_law_shape", .glo "_law_weights", .glo "_law_common", .glo "_law_is_fraction", .glo "_law_is_drawing", .glo "_law_begun", .glo "_law_about", .glo "law"]
def faF : List He.Fa := [.free "abs", .free "all", .free "bool", .free "dict", .free "divmod", .free "enumerate", .free "int", .free "isinstance", .free "len", .free "list", .free "max", .free "min", .free "range", .free "reversed", .free "sorted", .free "tuple", .free "zip"]
def fa : List He.Fa := faG ++ (faG2 ++ faF)
def loose1 : List PySem.Str := ["is_whole", "divisor", "fraction", "reached", "ties", "steps", "behind", "steps_round", "told_round", "faces", "is_flat", "want_flat", "hangs_together", "breaks", "is_three_tied", "weight_of", "common_below", "whole_row", "lead_at", "taken_off", "cleared", "solved", "is_pair", "want_rim", "lies_right"]
def loose2 : List PySem.Str := ["bend_right", "want_corners", "inner_places", "want_weights", "row_at", "side_at", "at_rest", "_law_pot", "_law_digit", "_law_ahead", "_law_behind", "_law_add", "_law_flip", "_law_step", "_law_cornered", "_law_names", "_law_web", "_law_hangs", "_law_without", "_law_three_tied", "_law_tied", "_law_face", "_law_faces", "_law_is_right", "_law_bent"]
def loose3 : List PySem.Str := ["_law_arc", "_law_shape", "_law_weights", "_law_common", "_law_is_fraction", "_law_is_drawing", "_law_scaled", "_law_begun", "_law_about", "DrawError", "NotFlat", "NotTied", "NoRim", "NoCorners", "NoWeights"]
def loose : List PySem.Str := loose1 ++ (loose2 ++ loose3)
abbrev R : PySem.W.OpenRow := PySem.W.OpenLaw.row PySem.Challenge.rw_restdraw_k35_whole_renamed_and_mirrored
abbrev hk : PySem.W.Hook := He.hookD 4 fa fn
def ob (s : PySem.W.SharedT) : He.AlD := He.obsDG 4 fa fn (HandSHeadRun.getT s)
theorem ob_eq (s : PySem.W.SharedT) : ob s = hk.obs s.abs := He.obsDG_eq (HandSHeadRun.getT_eq s)
theorem run (w : World) : HandSHeadRun.RunEq R (PySem.W.view R.prog [73]) hk ob 6000 loose w := by
  intro os
  kernel_rfl
end Rd
set_option Elab.async false
set_option linter.all false
set_option maxRecDepth 100000
set_option maxHeartbeats 4000000
/-! What the top has left, by names; a def's promise, its call. -/
namespace Rd
open PySem PySem.Spec PyProof.Rows L2
structure Txt (K : PySem.W.Frag) (mg : Str → Option Value) : Prop where
  c : He.SaysD fa fn K
  g : ∀ x, He.Fa.glo x ∈ fa → mg x = some (.ref (He.ga K x))
  z : ∀ x, He.Fa.free x ∈ fa → mg x = none
theorem txt_mk {K : PySem.W.Frag} {mg : Str → Option Value} {h : Heap} (X : K.In h) (G : h.Ns mainGlobals mg) (c : He.SaysD fa fn K) : Txt K mg :=
  ⟨c, fun x hx => He.glo_ok X G (by
    obtain ⟨i, hi, e⟩ := List.mem_iff_getElem.mp hx
    exact c.fact i (f := .glo x) (by rw [List.getElem?_eq_getElem hi, e])), fun x hx => He.free_ok X G (by
    obtain ⟨i, hi, e⟩ := List.mem_iff_getElem.mp hx
    exact c.fact i (f := .free x) (by rw [List.getElem?_eq_getElem hi, e]))⟩
section
variable {K : PySem.W.Frag} {mg : Str → Option Value}
theorem Txt.z_abs (T : Txt K mg) : mg "abs" = none := T.z _ (List.mem_of_getElem? (i := 59) rfl)
theorem Txt.z_all (T : Txt K mg) : mg "all" = none := T.z _ (List.mem_of_getElem? (i := 60) rfl)
theorem Txt.z_bool (T : Txt K mg) : mg "bool" = none := T.z _ (List.mem_of_getElem? (i := 61) rfl)
theorem Txt.z_dict (T : Txt K mg) : mg "dict" = none := T.z _ (List.mem_of_getElem? (i := 62) rfl)
theorem Txt.z_divmod (T : Txt K mg) : mg "divmod" = none := T.z _ (List.mem_of_getElem? (i := 63) rfl)
theorem Txt.z_enumerate (T : Txt K mg) : mg "enumerate" = none := T.z _ (List.mem_of_getElem? (i := 64) rfl)
theorem Txt.z_int (T : Txt K mg) : mg "int" = none := T.z _ (List.mem_of_getElem? (i := 65) rfl)
theorem Txt.z_isinstance (T : Txt K mg) : mg "isinstance" = none := T.z _ (List.mem_of_getElem? (i := 66) rfl)
theorem Txt.z_len (T : Txt K mg) : mg "len" = none := T.z _ (List.mem_of_getElem? (i := 67) rfl)
theorem Txt.z_list (T : Txt K mg) : mg "list" = none := T.z _ (List.mem_of_getElem? (i := 68) rfl)
theorem Txt.z_max (T : Txt K mg) : mg "max" = none := T.z _ (List.mem_of_getElem? (i := 69) rfl)
theorem Txt.z_min (T : Txt K mg) : mg "min" = none := T.z _ (List.mem_of_getElem? (i := 70) rfl)
theorem Txt.z_range (T : Txt K mg) : mg "range" = none := T.z _ (List.mem_of_getElem? (i := 71) rfl)
theorem Txt.z_reversed (T : Txt K mg) : mg "reversed" = none := T.z _ (List.mem_of_getElem? (i := 72) rfl)
theorem Txt.z_sorted (T : Txt K mg) : mg "sorted" = none := T.z _ (List.mem_of_getElem? (i := 73) rfl)
theorem Txt.z_tuple (T : Txt K mg) : mg "tuple" = none := T.z _ (List.mem_of_getElem? (i := 74) rfl)
theorem Txt.z_zip (T : Txt K mg) : mg "zip" = none := T.z _ (List.mem_of_getElem? (i := 75) rfl)
end
/-- a def of the text keeps its promise, wherever it is called -/
def Ok (P : Program) (w : World) (K : PySem.W.Frag) (mg : Str → Option Value) (base : Heap) (k : Nat) (x : Str) (ps : List Str) (sp : Sp) : Prop :=
  ∃ (f : Addr) (fd : FuncData), FnOk P w K mg base CX0 k f fd ps sp ∧ mg x = some (.ref f) ∧ PySem.W.keepIn K (.ref f) = true ∧ Binds K fd ps []
theorem pe_f {X : Cx} {k : Nat} {x : Str} {ps : List Str} {sp : Sp} {p pos : Pos} {e : Expr} {es : List Expr} {t : TA} (h : Ok X.prog X.w X.K X.mg X.base k x ps sp) (hr : Room k X.A) (hg : Gl X x) (ha : PA X (e :: es) t)
    (hdb : (x == ("__debug__" : Str)) = false := by decide) (he : starEach (e :: es) X.env = (false, eval e X.env) :: starEach es X.env := by rfl) (hpl : (backTo pos (starEach es X.env)).any (·.1) = false := by rfl) : PE X (.Call (.Name x p) (e :: es) [] pos) (tCall sp [] E0 t) := by
  obtain ⟨f, fd, F, hm, hk, hb⟩ := h
  exact pe_call F hr hg hm hk hb .nil pass0 ha hdb he hpl
section
variable {P : Program} {w : World} {K : PySem.W.Frag} {mg : Str → Option Value} {base : Heap}
theorem Ok.mono {j k : Nat} {x : Str} {ps : List Str} {sp : Sp} (h : Ok P w K mg base j x ps sp) (l : j ≤ k) : Ok P w K mg base k x ps sp := by
  obtain ⟨f, fd, F, a⟩ := h
  exact ⟨f, fd, F.mono l, a⟩
theorem def_ok (T : Txt K mg) {x : Str} {st : Stmt} {N ps : List Str} {k : Nat} {sp : Sp} (i : Nat) (h : fn[i]? = some ⟨(x, none), x, x, defArgs st, defBody st, defScope st, [], []⟩) (h2 : fa[i]? = some (He.Fa.glo x))
    (S : FnScope N ps (defScope st)) (hb : ∀ (kV doc pm : Value) (an : Option Addr) (cdv ct : Value) (us : List Value), us.length = ps.length → bindArgs (PySem.W.fnOf x x (defArgs st) (defBody st) (defScope st) .none kV doc pm an cdv ct) ⟨us, []⟩ = pure (ps.zip us))
    (len : ∀ vs H Q E, sp vs H Q E → vs.length = ps.length)
    (hbody : ∀ (cdv : Value) (A : Around) (outer : List Env) (s : Shared) (H : Hp) (vs : List V) (Q : VK) (E : XK), Room k (A.deeper (envOfC x (defScope st) s.heap.objs.size (He.ga K x) cdv)) → sp vs H Q E →
      ∃ t, PSs (cxOf CX0 P w K mg base N x (defScope st) (He.ga K x) cdv A outer s H E).nox (defBody st) t ∧ t { nx := fun _ H' => Q .non H', rt := Q } (start N vs) H) : Ok P w K mg base (k + 1) x ps sp := by
  obtain ⟨fd, F⟩ := T.c.def_ i h
  refine ⟨He.ga K x, fd, F.ok S len (fun cdv A outer s H vs Q E hr hs => ?_), T.g x (List.mem_of_getElem? h2), F.kp, F.bindsN hb⟩
  obtain ⟨t, a, b⟩ := hbody cdv A outer s H vs Q E hr hs
  exact ⟨t, a.nox, b⟩
end
/-! ### what stays -/
/-- all but some addresses keep what they hold -/
def Kp (L : List Addr) (H H' : Hp) : Prop := ∀ b o, H b = some o → b ∉ L → H' b = some o
section
variable {K : PySem.W.Frag} {L L' : List Addr} {H H1 H2 : Hp} {a p : Addr} {o u : HO} {xs : List V}
theorem Kp.refl : Kp L H H := fun _ _ h _ => h
theorem Kp.trans (x : Kp L H H1) (y : Kp L H1 H2) : Kp L H H2 := fun b o h n => y b o (x b o h n) n
theorem Kp.weak (x : Kp L H H1) (h : ∀ b, b ∈ L → b ∈ L') : Kp L' H H1 := fun b o e n => x b o e fun q => n (h b q)
theorem Kp.nil (x : Kp [] H H1) : Kp L H H1 := x.weak fun _ q => absurd q (by simp)
theorem Kp.same (x : Kp [] H H1) : Same H H1 := fun b o e => x b o e (by simp)
theorem Kp.new (h : H p = none) : Kp L H (upd H p o) := fun b u e _ => by rw [upd_ne (ne_of_none e h)]; exact e
theorem Kp.put (h : p ∈ L) : Kp L H (upd H p o) := fun b u e n => by
  rw [upd_ne (fun q => n (by rw [q]; exact h))]
  exact e
/-- behind a heap kept, a new object that stays -/
theorem Kp.new' (x : Kp L H H1) (h : H1 p = none) : Kp L H (upd H1 p o) := x.trans (Kp.new h)
/-- behind a heap kept, an object changed that the first heap did not know -/
theorem Kp.own (x : Kp L H H1) (h : H p = none) : Kp L H (upd H1 p o) := fun b u e n => by
  rw [upd_ne (ne_of_none e h)]
  exact x b u e n
theorem Kp.at (x : Kp L H H1) (h : H a = some o) (n : a ∉ L) : H1 a = some o := x a o h n
theorem Kp.free (x : Kp [] H H1) (h : H1 a = none) : H a = none := x.same.free h
/-- fresh behind is fresh ahead, but for the addresses that may change -/
theorem Kp.fresh (x : Kp L H H1) (h : H1 a = none) (n : a ∉ L) : H a = none := by
  cases e : H a with
  | none => rfl
  | some o => rw [x a o e n] at h; cases h
end
end Rd
set_option Elab.async false
set_option linter.all false
set_option maxRecDepth 100000
set_option maxHeartbeats 4000000
/-! Rules of our own: lists and tuples that are tracked, without the written part; min of pairs, index in tuples. -/
namespace Rd
open PySem PySem.Spec PyProof.Rows L2
/-- a tracked list or tuple -/
def Sq (H : Hp) (a : Addr) (xs : List V) : Prop := H a = some (.lst xs) ∨ L2.Rd H a (.tup xs)
theorem Sq.any {H : Hp} {a : Addr} {xs : List V} (K : PySem.W.Frag) (h : Sq H a xs) : SqL K H a xs ∨ SqT K H a xs := h.elim (fun q => .inl (SqL.of q)) (fun q => .inr (.inl q))
section
variable {X : Cx}
/-- a[i] of a list or tuple -/
def rIxH : R2 := fun x y H Q => ∃ a xs i v, x = .ref a ∧ y = .int i ∧ Sq H a xs ∧ atI xs i = some v ∧ Q v H
theorem ixH : IxR X rIxH := by
  intro value slice pins s σ H x y v u Q I rx ry h hs
  obtain ⟨a, xs, i, z, e1, e2, hq, he, q⟩ := h
  rcases hq with hq | hq
  · exact ix_list value slice pins s σ H x y v u Q I rx ry ⟨a, xs, i, z, e1, e2, SqL.of hq, he, q⟩ hs
  · exact ix_tup value slice pins s σ H x y v u Q I rx ry ⟨a, xs, i, z, e1, e2, .inl hq, he, q⟩ hs
/-- x in a list or tuple of flat things -/
def rInH (neg : Bool) : R2 := fun x y H Q => ∃ a xs, y = .ref a ∧ Sq H a xs ∧ flatV x = true ∧ xs.all flatV = true ∧ Q (.bl (if neg then !inV x xs else inV x xs)) H
theorem op_inH : OpR X (compareOp .In) (rInH false) := fun pins s σ H x y v u Q I rx ry ⟨a, xs, e, hq, f1, f2, q⟩ => op_in_seq pins s σ H x y v u Q I rx ry ⟨a, xs, e, hq.any _, f1, f2, q⟩
theorem op_ninH : OpR X (compareOp .NotIn) (rInH true) := fun pins s σ H x y v u Q I rx ry ⟨a, xs, e, hq, f1, f2, q⟩ => op_notIn_seq pins s σ H x y v u Q I rx ry ⟨a, xs, e, hq.any _, f1, f2, q⟩
/-- data of any depth, tracked -/
def DD (H : Hp) (v : V) (d : PyData) : Prop := (∀ K, Dp K H v d) ∧ SeqAt.shaped d = true
def rEqH : R2 := fun x y H Q => ∃ d e, DD H x d ∧ DD H y e ∧ Q (.bl (PyData.eqv d e)) H
def rNeH : R2 := fun x y H Q => ∃ d e, DD H x d ∧ DD H y e ∧ Q (.bl (!PyData.eqv d e)) H
theorem op_eqH (hu : X.A.units + 64 < cLine) : OpR X (compareOp .Eq) rEqH := fun pins s σ H x y v u Q I rx ry ⟨d, e, h1, h2, q⟩ => op_eqD hu pins s σ H x y v u Q I rx ry ⟨d, e, h1.1 _, h2.1 _, h1.2, h2.2, q⟩
theorem op_neH (hu : X.A.units + 64 < cLine) : OpR X (compareOp .NotEq) rNeH := fun pins s σ H x y v u Q I rx ry ⟨d, e, h1, h2, q⟩ => op_neD hu pins s σ H x y v u Q I rx ry ⟨d, e, h1.1 _, h2.1 _, h1.2, h2.2, q⟩
/-- len of a list or tuple -/
def rLenH : List V → Hp → VK → Prop := fun vs H Q => ∃ a xs, vs = [.ref a] ∧ Sq H a xs ∧ Q (.int (xs.length : Int)) H
theorem call_lenH : CallR X (.builtin "len") rLenH := fun pins s σ H vs us Q I r ⟨a, xs, e, hq, q⟩ => call_len_seq pins s σ H vs us Q I r ⟨a, xs, e, hq.any _, q⟩
/-- list(xs), tuple(xs) -/
def rListH : List V → Hp → VK → Prop := fun vs H Q => ∃ a xs, vs = [.ref a] ∧ Sq H a xs ∧ ∀ p, H p = none → Q (.ref p) (upd H p (.lst xs))
theorem call_listH : CallR X (.type "list") rListH := fun pins s σ H vs us Q I r ⟨a, xs, e, hq, q⟩ => call_list_of pins s σ H vs us Q I r ⟨a, xs, e, hq.any _, q⟩
def rTupH : List V → Hp → VK → Prop := fun vs H Q => ∃ a xs, vs = [.ref a] ∧ H a = some (.lst xs) ∧ ∀ p, H p = none → Q (.ref p) (upd H p (.tup xs))
theorem call_tupH : CallR X (.type "tuple") rTupH := fun pins s σ H vs us Q I r ⟨a, xs, e, hq, q⟩ => call_tuple_of pins s σ H vs us Q I r ⟨a, xs, e, .inl ⟨SqL.of hq, q⟩⟩
end
end Rd
set_option Elab.async false
set_option linter.all false
set_option maxRecDepth 100000
set_option maxHeartbeats 4000000
/-! Rules of our own, second part: index, min of pairs, sorted of data. -/
namespace Rd
open PySem PySem.Spec PyProof.Rows L2
section
variable {X : Cx}
/-- xs.index(k): whole numbers -/
def rIdxH : V → List V → Hp → VK → Prop := fun x xs H Q => ∃ (a : Addr) (ns : List Int) (k : Int), x = .ref a ∧ xs = [.int k] ∧ Sq H a (ns.map V.int) ∧ k ∈ ns ∧ ns.length ≤ sizeLine ∧ Q (.int (ns.idxOf k : Nat)) H
theorem mt_lidx : MtR X "list.index" (fun x xs H Q => ∃ (a : Addr) (ns : List Int) (k : Int), x = .ref a ∧ xs = [.int k] ∧ H a = some (.lst (ns.map V.int)) ∧ k ∈ ns ∧ Q (.int (ns.idxOf k : Nat)) H) := by
  intro pins s σ H x xs v us Q I rx rs ⟨a, ns, k, e1, e2, ha, hk, q⟩
  subst e1 e2
  cases rx
  obtain ⟨u, rfl, t, rfl⟩ := vals1 rs
  obtain ⟨its, rv, pl, hz⟩ := I.list (SqL.of ha)
  rw [List.length_map] at hz
  exact SeqAt.list_index_ints (pl.isList) rv.ints hz hk ⟨.int _, H, I.tok _, ⟨_, rfl⟩, q⟩
theorem mt_tidx : MtR X "tuple.index" (fun x xs H Q => ∃ (a : Addr) (ns : List Int) (k : Int), x = .ref a ∧ xs = [.int k] ∧ L2.Rd H a (.tup (ns.map V.int)) ∧ k ∈ ns ∧ Q (.int (ns.idxOf k : Nat)) H) := by
  intro pins s σ H x xs v us Q I rx rs ⟨a, ns, k, e1, e2, ha, hk, q⟩
  subst e1 e2
  cases rx
  obtain ⟨u, rfl, t, rfl⟩ := vals1 rs
  obtain ⟨its, rv, pl, hz⟩ := I.tuple ((.inl ha))
  exact SeqAt.tuple_index_ints pl rv.ints hk ⟨.int _, H, I.tok _, ⟨_, rfl⟩, q⟩
/-! ### min of a list of pairs of whole numbers -/
/-- the place of a least one, by an order -/
theorem argBest_le {bt : Nat → Nat → Bool} (irr : ∀ i, bt i i = false) (tr : ∀ i j k, bt j i = false → bt k j = false → bt k i = false) (as : ∀ i j, bt i j = true → bt j i = false) : ∀ k j, j ≤ k → bt j (argBest bt k) = false
  | 0, j, h => by
    have e : j = 0 := by omega
    subst e
    exact irr 0
  | k + 1, j, h => by
    have ih := argBest_le irr tr as k
    unfold argBest
    cases hb : bt (k + 1) (argBest bt k) with
    | true =>
      simp only [if_true]
      by_cases e : j = k + 1
      · subst e; exact irr _
      · exact tr _ _ _ (as _ _ hb) (ih j (by omega))
    | false =>
      simp only [Bool.false_eq_true, if_false]
      by_cases e : j = k + 1
      · subst e; exact hb
      · exact ih j (by omega)
theorem argBest_lt_succ (bt : Nat → Nat → Bool) : ∀ k, argBest bt k ≤ k
  | 0 => Nat.le_refl _
  | k + 1 => by
    unfold argBest
    have := argBest_lt_succ bt k
    split <;> omega
end
section
variable {prog : Program} {w : World} {A : Around} {R : Result → Shared → Prop} {I : Addr} {fp wr : List Addr} {n : Nat} {P : Nat → Value → Prop} {St : Nat → Heap → Prop}
/-- how two of the walked things compare, in any state that keeps g but for the cells wr and S -/
def CmpIn (prog : Program) (w : World) (A : Around) (g : Heap) (wr : List Addr) (S : Addr) (P : Nat → Value → Prop) (bt : Nat → Nat → Bool) : Prop :=
  ∀ i j vi vj (s : Shared) (Q E : Value → Shared → Prop), (∀ b o, b ∉ wr → b ≠ S → g.get? b = some o → s.heap.get? b = some o) → P i vi → P j vj → Q (.bool (bt i j)) s → wpAny (model prog w) A (richCompare .Lt vi vj) Q E s
theorem min_go (W : Walks prog w A.in1 I fp wr n P St) (bt : Nat → Nat → Bool) (g : Heap) (S : Addr) (cmp : CmpIn prog w A.in1 g wr S P bt) (hSf : S ∉ fp) (hnm : (toString "min" ++ toString ".loop" : String) = "min.loop") :
    ∀ (k j : Nat) (s : Shared) (vb : Value) (c : Nat), n - (j + 1) = k → j + 1 ≤ n → St (j + 1) s.heap → P (argBest bt j) vb → (∀ b o, b ∉ wr → b ≠ S → g.get? b = some o → s.heap.get? b = some o) →
      s.heap.get? S = some { cls := .type "list", dict := none, data := .seq #[vb, vb] c, slots := #[] } →
      (∀ v h' tk, P (argBest bt (n - 1)) v → (∀ b o, b ∉ wr → b ≠ S → g.get? b = some o → h'.get? b = some o) → R (.ok (.ret v)) { s with heap := h', toks := tk }) → codeAny (model prog w) A (.builtin "min.loop" ⟨[.ref I, .none, .ref S], []⟩) R s := by
  have hSw : S ∉ wr := fun h => hSf (W.sub _ h)
  intro k; induction k with
  | zero =>
    intro j s vb c hk hj hst hPb hg hS hR
    have hin : j + 1 = n := by omega
    refine codeAny_builtin F.entry_min_loop ?_; rw [Around.under_plainId F.plain_min_loop _]
    show wpAny _ A.in1 (seqItems? (.ref S) >>= _) _ _ s; refine wpAny_bind (wpAny_seqItems hS rfl ?_)
    show wpAny _ A.in1 (tryCatch (pyNext (.ref I)) _ >>= _) _ _ s; refine wpAny_bind (wpAny_tryCatch (W.done s _ _ (hin ▸ hst) fun h' tk hk' => ?_))
    have hS' := hk' S _ hSw hS
    show wpAny _ A.in1 (updateSeq S (fun _ => #[]) >>= _) _ _ _; refine wpAny_bind (wpAny_updateSeq hS' rfl (wpAny_bind (wpAny_letGo (wpAny_pure ?_))))
    exact hR vb _ tk (by rw [← hin]; exact hPb) fun b o hbw hbS e => (Heap.get?_update_other _ _ (Ne.symm hbS)).trans (hk' b o hbw (hg b o hbw hbS e))
  | succ k ih =>
    intro j s vb c hk hj hst hPb hg hS hR
    have hlt : j + 1 < n := by omega
    refine codeAny_builtin F.entry_min_loop ?_; rw [Around.under_plainId F.plain_min_loop _]
    show wpAny _ A.in1 (seqItems? (.ref S) >>= _) _ _ s; refine wpAny_bind (wpAny_seqItems hS rfl ?_)
    show wpAny _ A.in1 (tryCatch (pyNext (.ref I)) _ >>= _) _ _ s; refine wpAny_bind (wpAny_tryCatch (W.item (j + 1) s _ _ hlt hst fun v h' tk hP hst' hk' => ?_))
    have hS' := hk' S _ hSw hS
    have hg' : ∀ b o, b ∉ wr → b ≠ S → g.get? b = some o → h'.get? b = some o := fun b o hbw hbS e => hk' b o hbw (hg b o hbw hbS e)
    show wpAny _ A.in1 (tryCatch (holding [v, v] (richCompare .Lt v vb >>= _)) _ >>= _) _ _ _
    refine wpAny_bind (wpAny_tryCatch (wpAny_holding (wpAny_bind (cmp (j + 1) (argBest bt j) v vb _ _ _ hg' hP hPb ?_))))
    refine wpAny_bind (wpAny_holding (wpAny_truthy_bool ?_)); refine wpAny_bind (wpAny_letGo (wpAny_pure ?_))
    cases hb : bt (j + 1) (argBest bt j) with
    | true =>
      simp only [if_true]; refine wpAny_bind (wpAny_updateSeq hS' rfl (wpAny_bind (wpAny_letGo ?_))); rw [hnm]
      refine wpAny_pure ⟨plainId_quiet F.plain_min_loop _, ih (j + 1) _ v _ (by omega) hlt (W.frame _ _ _ hst' fun b hbf o e => ?_) (by simp only [argBest, hb, if_true]; exact hP) (fun b o hbw hbS e => ?_) (Heap.get?_update_self _ hS' rfl) fun v' h'' tk'' hP' hk'' => ?_⟩
      · exact (Heap.get?_update_other _ _ (fun h : S = b => hSf (by rw [h]; exact hbf))).trans e
      · exact (Heap.get?_update_other _ _ (Ne.symm hbS)).trans (hg' b o hbw hbS e)
      · exact hR v' h'' tk'' hP' hk''
    | false =>
      simp only [Bool.false_eq_true, if_false]; refine wpAny_bind (wpAny_letGo ?_); rw [hnm]
      exact wpAny_pure ⟨plainId_quiet F.plain_min_loop _, ih (j + 1) _ vb c (by omega) hlt hst' (by simp only [argBest, hb, Bool.false_eq_true, if_false]; exact hPb) hg' hS' fun v' h'' tk'' hP' hk'' => hR v' h'' tk'' hP' hk''⟩
theorem min_first (W : Walks prog w A.in1 I fp wr n P St) (bt : Nat → Nat → Bool) (g : Heap) (S : Addr) (cmp : CmpIn prog w A.in1 g wr S P bt) (hSf : S ∉ fp) (hn : 0 < n) {s : Shared} {c : Nat} (hst : St 0 s.heap) (hg : ∀ b o, b ∉ wr → b ≠ S → g.get? b = some o → s.heap.get? b = some o)
    (hS : s.heap.get? S = some { cls := .type "list", dict := none, data := .seq #[] c, slots := #[] })
    (hR : ∀ v h' tk, P (argBest bt (n - 1)) v → (∀ b o, b ∉ wr → b ≠ S → g.get? b = some o → h'.get? b = some o) → R (.ok (.ret v)) { s with heap := h', toks := tk }) : codeAny (model prog w) A (.builtin "min.loop" ⟨[.ref I, .none, .ref S], []⟩) R s := by
  have hSw : S ∉ wr := fun h => hSf (W.sub _ h)
  have hnm : (toString "min" ++ toString ".loop" : String) = "min.loop" := by decide
  refine codeAny_builtin F.entry_min_loop ?_; rw [Around.under_plainId F.plain_min_loop _]
  show wpAny _ A.in1 (seqItems? (.ref S) >>= _) _ _ s; refine wpAny_bind (wpAny_seqItems hS rfl ?_)
  show wpAny _ A.in1 (tryCatch (pyNext (.ref I)) _ >>= _) _ _ s; refine wpAny_bind (wpAny_tryCatch (W.item 0 s _ _ hn hst fun v h' tk hP hst' hk' => ?_))
  have hS' := hk' S _ hSw hS
  show wpAny _ A.in1 (updateSeq S (fun _ => #[v, v]) >>= _) _ _ _; refine wpAny_bind (wpAny_updateSeq hS' rfl ?_); rw [hnm]
  refine wpAny_pure ⟨plainId_quiet F.plain_min_loop _, min_go W bt g S cmp hSf hnm _ 0 _ v _ rfl hn (W.frame _ _ _ hst' fun b hbf o e => ?_) hP (fun b o hbw hbS e => ?_) (Heap.get?_update_self _ hS' rfl) fun v' h'' tk'' hP' hk'' => hR v' h'' tk'' hP' hk''⟩
  · exact (Heap.get?_update_other _ _ (fun h : S = b => hSf (by rw [h]; exact hbf))).trans e
  · exact (Heap.get?_update_other _ _ (Ne.symm hbS)).trans (hk' b o hbw (hg b o hbw hbS e))
/-- min(x), the compared things told in any state that keeps the heap ahead -/
theorem min_call {E : Value → Shared → Prop} {s : Shared} {x : Value} {Q : Value → Shared → Prop}
    (h : wpAny (model prog w) A.in1 (pyIter x) (fun it s₂ => ∃ I fp wr n P St bt, it = .ref I ∧ Walks prog w A.in1 I fp wr n P St ∧ St 0 s₂.heap ∧ (∀ b ∈ fp, b < s₂.heap.objs.size) ∧ 0 < n ∧ CmpIn prog w A.in1 s₂.heap wr s₂.heap.objs.size P bt ∧
      ∀ v h' tk, P (argBest bt (n - 1)) v → (∀ b o, b ∉ wr → s₂.heap.get? b = some o → h'.get? b = some o) → Q v { s₂ with heap := h', toks := tk }) E s) : wpAny (model prog w) A (call (.builtin "min") [x]) Q E s := by
  have hnm : (toString "min" ++ toString ".loop" : String) = "min.loop" := by decide
  refine call_function_tree F.kind_min F.plain_min F.entry_min (F.args_min1 _) ?_
  show wpAny _ A.in1 (Builtin.Builtins.bindParams "min" ["key", "default"] 0 ⟨[], []⟩ >>= _) _ _ s
  refine wpAny_bind (wpAny_of_eq (show Builtin.Builtins.bindParams "min" ["key", "default"] 0 ⟨[], []⟩ = pure [none, none] from rfl) (wpAny_bind (wpAny_pure ?_)))
  refine wpAny_bind (wpAny_mono h (fun it s₂ h₂ => ?_) fun _ _ e => e)
  obtain ⟨I, fp, wr, n, P, St, bt, rfl, W, hst, hfp, hn, cmp, hQ⟩ := h₂
  refine wpAny_bind (wpAny_newObj_type ?_)
  have hSf : s₂.heap.objs.size ∉ fp := fun hm => Nat.lt_irrefl _ (hfp _ hm)
  rw [hnm]
  refine wpAny_pure ⟨plainId_quiet F.plain_min_loop _, min_first W bt s₂.heap s₂.heap.objs.size cmp hSf hn (W.frame _ _ _ hst fun b _ o e => Heap.get?_push_of_some _ e) (fun b o _ _ e => Heap.get?_push_of_some _ e) (Heap.get?_push_size _ rfl) fun v h' tk hP hk => ?_⟩
  exact hQ v h' tk hP fun b o hbw e => hk b o hbw (Nat.ne_of_lt (Heap.lt_size e)) e
end
section
variable {X : Cx}
def ltP2 (p q : Nat × Nat) : Bool := HT.lexLt [(p.1 : Int), (p.2 : Int)] [(q.1 : Int), (q.2 : Int)]
theorem ltP2_iff (p q : Nat × Nat) : ltP2 p q = true ↔ p.1 < q.1 ∨ (p.1 = q.1 ∧ p.2 < q.2) := by
  unfold ltP2
  rw [HT.lexLt_cons, HT.lexLt_cons, HT.lexLt_nil_nil]
  split
  · split
    · simp; omega
    · simp; omega
  · simp; omega
/-- min(xs): pairs of whole numbers from 0 on; which place is left open, but it is a least one -/
def rMinT : List V → Hp → VK → Prop := fun vs H Q => ∃ (a : Addr) (ts : List Addr) (ps : List (Nat × Nat)), vs = [.ref a] ∧ H a = some (.lst (ts.map V.ref)) ∧ ts.length = ps.length ∧ (∀ (i : Nat) (t : Addr) (p : Nat × Nat), ts[i]? = some t → ps[i]? = some p → H t = some (.tup [.int p.1, .int p.2])) ∧ ps ≠ [] ∧
  ∀ (k : Nat) (t : Addr) (p : Nat × Nat), ts[k]? = some t → ps[k]? = some p → (∀ q ∈ ps, p.1 < q.1 ∨ (p.1 = q.1 ∧ p.2 ≤ q.2)) → Q (.ref t) H
theorem cr_minT (hc : X.calm = true) (hu : X.A.units + 1 < cLine) : CallR X (.builtin "min") rMinT := by
  intro pins s σ H vs us Q I r ⟨a, ts, ps, e, ha, hl, hp, hne, q⟩
  subst e
  rw [Vals.ref1 r]
  obtain ⟨its, rv, pl, hz⟩ := I.list (SqL.of ha)
  have hlen : its.length = ps.length := by rw [← rv.length, List.length_map, hl]
  have hlt : a < s.heap.objs.size := by obtain ⟨_, e, _⟩ := pl.isList; exact Heap.lt_size e
  let bt : Nat → Nat → Bool := fun i j => ltP2 (ps.getD i (0, 0)) (ps.getD j (0, 0))
  have itv : ∀ i v, its.toArray[i]? = some v → ∃ t p, ts[i]? = some t ∧ ps[i]? = some p ∧ v = .ref t ∧ ps.getD i (0, 0) = p := fun i v hv => by
    have hv' : its[i]? = some v := by simpa using hv
    have hi := (List.getElem?_eq_some_iff.mp hv').1
    have h1 : i < ts.length := by omega
    have h2 : i < ps.length := by omega
    obtain ⟨u, eu, ru⟩ := rv.get (i := i) (x := .ref ts[i]) (by simp [h1])
    rw [hv'] at eu
    cases eu
    exact ⟨ts[i], ps[i], List.getElem?_eq_getElem h1, List.getElem?_eq_getElem h2, ru, by simp [List.getD, h2]⟩
  refine min_call (wpAny_pyIter_list pl.isList ?_)
  refine ⟨s.heap.objs.size, [s.heap.objs.size, a], [s.heap.objs.size], its.toArray.size, fun i v => its.toArray[i]? = some v, _, bt, rfl, Walks.list (A := X.A.in1) (I.ok.hd hc) s.heap.objs.size a (Nat.ne_of_lt hlt) its.toArray, ⟨⟨_, Heap.get?_push_size _ rfl, rfl, rfl⟩, pl.isList.push _⟩, fun b hb => ?_, ?_, ?_, fun v h' tk hP hk => ?_⟩
  · show b < (s.heap.push _).objs.size
    rw [Heap.size_push]
    rcases List.mem_cons.mp hb with z | z
    · rw [z]
      exact Nat.lt_succ_self _
    · rw [List.mem_singleton.mp z]
      exact Nat.lt_succ_of_lt hlt
  · rw [List.size_toArray, hlen]
    exact List.length_pos_iff.mpr hne
  · intro i j vi vj s' Q' E' hg hi hj hq
    obtain ⟨t1, p1, x1, x2, rfl, x3⟩ := itv i vi hi
    obtain ⟨t2, p2, y1, y2, rfl, y3⟩ := itv j vj hj
    have stays : ∀ (t : Addr) (p : Nat × Nat), H t = some (.tup [.int p.1, .int p.2]) → ∃ its2 : List Value, Vals [.int p.1, .int p.2] its2 ∧ IsTup s'.heap t its2.toArray := fun t p ht => by
      obtain ⟨_, its2, r2, o, ho, hc2, hd⟩ := I.hok t _ ht
      have l := Heap.lt_size ho
      have := hg t o (fun z => Nat.ne_of_lt l (List.mem_singleton.mp z)) (by
        show t ≠ (s.heap.push _).objs.size
        rw [Heap.size_push]
        exact Nat.ne_of_lt (Nat.lt_succ_of_lt l)) (Heap.get?_push_of_some _ ho)
      exact ⟨its2, r2, o, this, hc2, hd⟩
    obtain ⟨a1, r1, tu1⟩ := stays t1 p1 (hp i t1 p1 x1 x2)
    obtain ⟨a2, r2, tu2⟩ := stays t2 p2 (hp j t2 p2 y1 y2)
    have i1 : IntsAre a1.toArray.toList [(p1.1 : Int), (p1.2 : Int)] := intsAre_of (by simpa using r1)
    have i2 : IntsAre a2.toArray.toList [(p2.1 : Int), (p2.2 : Int)] := intsAre_of (by simpa using r2)
    refine HT.lt_tupInts tu1 tu2 i1 i2 hu ?_
    have : bt i j = HT.lexLt [(p1.1 : Int), (p1.2 : Int)] [(p2.1 : Int), (p2.2 : Int)] := by
      show ltP2 (ps.getD i (0, 0)) (ps.getD j (0, 0)) = _
      rw [x3, y3]
      rfl
    rw [← this]
    exact hq
  · obtain ⟨t1, p1, x1, x2, rfl, x3⟩ := itv _ v hP
    have old : ∀ b o, s.heap.get? b = some o → h'.get? b = some o := fun b o e => hk b o (fun z => Nat.ne_of_lt (Heap.lt_size e) (List.mem_singleton.mp z)) (Heap.get?_push_of_some _ e)
    refine ⟨.ref t1, H, I.kept (t' := tk) old, rfl, q _ t1 p1 x1 x2 fun p2 hp2 => ?_⟩
    obtain ⟨j, hj, ej⟩ := List.mem_iff_getElem.mp hp2
    have gj : ps.getD j (0, 0) = p2 := by simp [List.getD, hj, ej]
    have := argBest_le (bt := bt) (fun i => ?_) (fun i j k h1 h2 => ?_) (fun i j h1 => ?_) (its.toArray.size - 1) j (by rw [List.size_toArray, hlen]; omega)
    · have e2 : ltP2 p2 p1 = false := by
        rw [← gj, ← x3]
        exact this
      have : ¬ (p2.1 < p1.1 ∨ (p2.1 = p1.1 ∧ p2.2 < p1.2)) := fun z => by
        rw [(ltP2_iff p2 p1).mpr z] at e2
        cases e2
      omega
    · show ltP2 _ _ = false
      rw [Bool.eq_false_iff]
      intro z
      have := (ltP2_iff _ _).mp z
      omega
    · show ltP2 _ _ = false
      rw [Bool.eq_false_iff]
      intro z
      have a1 : ¬ _ := fun z => absurd ((ltP2_iff _ _).mpr z) (by rw [show ltP2 _ _ = false from h1]; decide)
      have a2 : ¬ _ := fun z => absurd ((ltP2_iff _ _).mpr z) (by rw [show ltP2 _ _ = false from h2]; decide)
      have a3 := (ltP2_iff _ _).mp z
      omega
    · show ltP2 _ _ = false
      rw [Bool.eq_false_iff]
      intro z
      have a1 := (ltP2_iff _ _).mp z
      have a2 := (ltP2_iff _ _).mp (show ltP2 _ _ = true from h1)
      omega
end
end Rd
set_option Elab.async false
set_option linter.all false
set_option maxRecDepth 100000
set_option maxHeartbeats 4000000
/-! Rules of our own, third part: sorted. -/
namespace Rd
open PySem PySem.Spec PyProof.Rows L2
/-! ### sorted(t), t a tuple of whole numbers -/
section
variable {prog : Program} {w : World} {A : Around} {E : Value → Shared → Prop} {s : Shared}
theorem collect_tup {l : Addr} {vs : List Value} {Q : List Value → Shared → Prop} (hl : IsTup s.heap l vs.toArray)
    (h : Q vs { s with heap := (s.heap.push (seqObj "list" #[] 0)).update s.heap.objs.size (Obj.mapSeq (· ++ vs.toArray)) }) (hsz : vs.length ≤ sizeLine) : wpAny (model prog w) A (collect (.ref l)) Q E s := by
  obtain ⟨o, ho, hc, n, hd⟩ := id hl
  have ho' : (s.heap.push (seqObj "list" #[] 0)).get? l = some o := Heap.get?_push_of_some _ ho
  have nl : s.heap.objs.size ≠ l := (Nat.ne_of_lt (Heap.lt_size ho)).symm
  unfold collect; refine wpAny_bind (wpAny_runValue (codeAny_builtin entry_proto_collect' ?_))
  show wpAny _ _ (do again (.builtin "list.__iadd__" ⟨[← newList [], .ref l], []⟩)) _ _ s; refine wpAny_bind (wpAny_newList (wpAny_pure ⟨Code.quiet_builtin _ (by decide +kernel), codeAny_builtin entry_list_iadd' ?_⟩))
  show wpAny _ _ (Builtin.List.listExtendWith (.ref s.heap.objs.size) (.ref l) (.ref s.heap.objs.size)) _ _ { s with heap := s.heap.push (seqObj "list" #[] 0) }
  unfold Builtin.List.listExtendWith; refine wpAny_bind (wpAny_typeOf (T := "tuple") ⟨o, ho', hc⟩ ?_)
  have ht : (Value.type "tuple" == Value.type "tuple") = true := by rfl
  rw [if_pos (by rw [ht]; simp)]; refine wpAny_bind (listItems_at ho' hd ?_)
  refine wpAny_bind (listItems_at (xs := #[]) (n := 0) (Heap.get?_push_size _ rfl) rfl ?_); rw [if_neg (by simp)]
  refine wpAny_bind (listUpdate_at (xs := #[]) (n := 0) (Heap.get?_push_size _ rfl) rfl ?_ (Nat.zero_le _) (by show (#[] ++ vs.toArray).size ≤ sizeLine + 1; simp only [Array.size_append, List.size_toArray, List.length_nil]; omega))
  refine wpAny_pure (show wpAny (model prog w) A (load s.heap.objs.size >>= _) Q E { s with heap := (s.heap.push (seqObj "list" #[] 0)).update s.heap.objs.size (Obj.mapSeq (· ++ vs.toArray)) } from wpAny_bind (wpAny_load (get?_update_seq (Heap.get?_push_size _ rfl) _) ?_))
  show wpAny _ _ (pure ((#[] : Array Value) ++ vs.toArray).toList) Q E _; rw [show ((#[] : Array Value) ++ vs.toArray).toList = vs by simp]
  exact wpAny_pure h
theorem sorted_tup {l : Addr} {vs : List Value} {ltv : Value → Value → Bool} {Q : Value → Shared → Prop} (O : SrtO.Swo ltv) (hl : IsTup s.heap l vs.toArray) (hz : vs.length ≤ sizeLine)
    (hS : 2 ≤ vs.length → ∀ (h₁ : Heap) (a : Addr), h₁.get? a = some (seqObj "list" vs.toArray 0) → (∀ b o, s.heap.get? b = some o → b ≠ a ∧ h₁.get? b = some o) → SrtO.SortableO prog w A.in1.in1 { s with heap := h₁ } a vs ltv)
    (h : ∀ out : List Value, SrtO.Srtd ltv out → SrtO.Stb ltv out vs → Q (.ref (s.heap.objs.size + 1)) { s with heap := sortedAll s.heap vs out.toArray }) : wpAny (model prog w) A (call (.builtin "sorted") [.ref l]) Q E s := by
  refine Calls.call_function_entry kind_sorted plain_sorted entry_sorted (args_sorted1 _) ?_
  unfold Builtin.«sorted»; refine wpAny_bind (m := checkCount "sorted" 1 1 _) (wpAny_pure (wpAny_bind (collect_tup hl (wpAny_bind (wpAny_newList ?_ hz)) hz)))
  have hsz : ((s.heap.push (seqObj "list" #[] 0)).update s.heap.objs.size (Obj.mapSeq (· ++ vs.toArray))).objs.size = s.heap.objs.size + 1 := by rw [Heap.size_update]; exact Heap.size_push ..
  have hoL : (((s.heap.push (seqObj "list" #[] 0)).update s.heap.objs.size (Obj.mapSeq (· ++ vs.toArray))).push (seqObj "list" vs.toArray 0)).get? (s.heap.objs.size + 1) = some (seqObj "list" vs.toArray 0) := by rw [← hsz]; exact Heap.get?_push_size _ rfl
  have kp : ∀ b o, s.heap.get? b = some o → b ≠ s.heap.objs.size + 1 ∧ (((s.heap.push (seqObj "list" #[] 0)).update s.heap.objs.size (Obj.mapSeq (· ++ vs.toArray))).push (seqObj "list" vs.toArray 0)).get? b = some o := fun b o q => by
    have hlt : b < s.heap.objs.size := Heap.lt_size q
    exact ⟨Nat.ne_of_lt (Nat.lt_succ_of_lt hlt), Heap.get?_push_of_some _ (by rw [Heap.get?_update_ne _ _ _ _ (Nat.ne_of_lt hlt)]; exact Heap.get?_push_of_some _ q)⟩
  show wpAny _ _ _ _ _ { s with heap := ((s.heap.push (seqObj "list" #[] 0)).update s.heap.objs.size (Obj.mapSeq (· ++ vs.toArray))).push (seqObj "list" vs.toArray 0) }; rw [hsz]
  refine wpAny_bind (wpAny_holding (wpAny_call_entry slot_list_sort ⟨_, hoL, rfl⟩ entry_list_sort (SrtO.list_sort_ord O hoL hz (fun h2 => hS h2 _ _ hoL kp) fun out hs hb => ⟨_, rfl, ?_⟩) (args_list_sort _)))
  exact wpAny_pure ⟨_, rfl, h out hs hb⟩
end
section
variable {X : Cx}
/-- sorted(t): a tuple of whole numbers -/
def rSortedTI : List V → Hp → VK → Prop := fun vs H Q => ∃ (a : Addr) (ns : List Int), vs = [V.ref a] ∧ L2.Rd H a (.tup (ns.map V.int)) ∧ ∀ (ns' : List Int) (p : Addr), ns'.Perm ns → ns'.Pairwise (· ≤ ·) → H p = none → Q (.ref p) (upd H p (.lst (ns'.map V.int)))
theorem cr_sortedTI : CallR X (.builtin "sorted") rSortedTI := by
  intro pins s σ H vs us Q I r ⟨a, ns, e, ha, q⟩
  subst e
  obtain ⟨its, rv, hl, hz⟩ := I.tuple (.inl ha)
  rw [Vals.ref1 r]
  have hi := rv.ints
  refine sorted_tup SrtO.swo_int hl (by rw [← rv.length]; exact hz) (fun h2 h₁ a' _ _ => SrtO.ints_sortable hi h2) fun out h1 h2 => ?_
  obtain ⟨k1, k2, k3⟩ := SrtO.ints_out hi h1 h2
  obtain ⟨ep, he'⟩ := PyProof.Rows.sortedAll_at s.heap its out.toArray
  have hlen : ((out.map SrtO.iv).map V.int).length ≤ sizeLine := by
    rw [List.length_map, k2.length_eq]; rw [List.length_map] at hz; exact hz
  exact ⟨.ref _, upd H (s.heap.objs.size + 1) (.lst ((out.map SrtO.iv).map V.int)), I.laid (t' := s.toks) (fun _ _ => PyProof.Rows.sortedAll_old) (Nat.le_succ _) ⟨hlen, out, ep, vals_of_ints k1, he'⟩, rfl, q _ _ k2 k3 (I.hok.fresh (Nat.le_succ _))⟩
/-! ### sorted(xs), xs a list of tuples of whole numbers, one at least in each -/
def encT (b : Addr × Int × List Int) : PyData := .tuple (.int b.2.1 :: b.2.2.map .int)
theorem dpAll_ints (K : PySem.W.Frag) (H : Hp) : ∀ ns : List Int, DpAll K H (ns.map V.int) (ns.map .int)
  | [] => .nil
  | n :: ns => .cons (.int n) (dpAll_ints K H ns)
theorem dd_ints {H : Hp} {a : Addr} {ns : List Int} (h : H a = some (.tup (ns.map V.int))) (K : PySem.W.Frag) : Dp K H (.ref a) (.tuple (ns.map .int)) := .tup (SqT.of h) (dpAll_ints K H ns)
def rSortTs : List V → Hp → VK → Prop := fun vs H Q => ∃ (a : Addr) (ts : List Addr), vs = [V.ref a] ∧ H a = some (.lst (ts.map V.ref)) ∧ (∀ t, t ∈ ts → ∃ (x : Int) (r : List Int), H t = some (.tup ((x :: r).map V.int))) ∧
  ∀ (ts' : List Addr) (p : Addr), ts'.Perm ts → H p = none → Q (.ref p) (upd H p (.lst (ts'.map V.ref)))
theorem each_refs {H : Hp} : ∀ {ts : List Addr} {us : List Value}, (∀ t, t ∈ ts → ∃ (x : Int) (r : List Int), H t = some (.tup ((x :: r).map V.int))) → Vals (ts.map V.ref) us →
    ∃ bs : List (Addr × Int × List Int), bs.map (·.1) = ts ∧ PySem.W.EachIs (fun (v : Value) (b : Addr × Int × List Int) => v = .ref b.1) us bs ∧ ∀ b, b ∈ bs → H b.1 = some (.tup ((b.2.1 :: b.2.2).map V.int))
  | [], us, _, r => by
    cases r
    exact ⟨[], rfl, .nil, fun b h => absurd h (by simp)⟩
  | t :: ts, us, h, r => by
    cases r with
    | cons r1 r2 =>
      obtain ⟨bs, e1, e2, e3⟩ := each_refs (fun t ht => h t (List.mem_cons_of_mem _ ht)) r2
      obtain ⟨x, l, hx⟩ := h t (by simp)
      refine ⟨(t, x, l) :: bs, by rw [List.map_cons, e1], .cons r1 e2, fun b hb => ?_⟩
      rcases List.mem_cons.mp hb with z | z
      · rw [z]; exact hx
      · exact e3 b z
theorem vals_refs : ∀ {us : List Value} {bs : List (Addr × Int × List Int)}, PySem.W.EachIs (fun (v : Value) (b : Addr × Int × List Int) => v = .ref b.1) us bs → Vals ((bs.map (·.1)).map V.ref) us
  | _, _, .nil => .nil
  | _, _, .cons h t => .cons h (vals_refs t)
theorem depth_encT (b : Addr × Int × List Int) : (encT b).depth ≤ 1 := by
  unfold encT
  have := PySem.W.depth_ints (b.2.1 :: b.2.2)
  rw [List.map_cons] at this
  simp [PyData.depth, this]
theorem cr_sortTs (hu : X.A.units + 3 < cLine) : CallR X (.builtin "sorted") rSortTs := by
  intro pins s σ H vs us Q I r ⟨a, ts, e, ha, ht, q⟩
  subst e
  obtain ⟨its, rv, hl, hz⟩ := I.list (SqL.of ha)
  rw [Vals.ref1 r]
  obtain ⟨bs, e1, e2, e3⟩ := each_refs ht rv
  have er : PySem.W.EachIs (fun v b => ∃ as, Reads s.heap v (encT b) as) its bs := by
    have : ∀ {us : List Value} {cs : List (Addr × Int × List Int)}, (∀ b, b ∈ cs → b ∈ bs) → PySem.W.EachIs (fun (v : Value) (b : Addr × Int × List Int) => v = .ref b.1) us cs → PySem.W.EachIs (fun v b => ∃ as, Reads s.heap v (encT b) as) us cs := by
      intro us cs hs h
      induction h with
      | nil => exact .nil
      | @cons v b us cs h1 _ ih =>
        refine .cons ?_ (ih fun b hb => hs b (List.mem_cons_of_mem _ hb))
        have d := dd_ints (e3 b (hs b (by simp))) X.K
        exact Dp.reads I _ _ _ d h1
    exact this (fun _ h => h) e2
  have hlen : its.length = bs.length := e2.length
  refine PySem.W.sorted_data (enc := encT) hl.isList e2 er (PySem.W.AllAlike.of fun b b' => ?_) (PySem.W.Sortable.tuples fun b => ⟨_, _, rfl⟩) (by rw [← hlen, ← rv.length]; exact hz) (fun b _ => ?_) fun out ho eo => ?_
  · have := PySem.W.alike_ints (b.2.1 :: b.2.2) (b'.2.1 :: b'.2.2)
    show PySem.W.alike (.tuple _) (.tuple _) = true
    rw [PySem.W.alike]
    exact this
  · have := depth_encT b
    omega
  · obtain ⟨ep, he'⟩ := PyProof.Rows.sortedAll_at s.heap its out.toArray
    have pm : (bs.mergeSort (PySem.W.dataLe false encT)).Perm bs := List.mergeSort_perm _ _
    have hl2 : (((bs.mergeSort (PySem.W.dataLe false encT)).map (·.1)).map V.ref).length ≤ sizeLine := by
      rw [List.length_map, List.length_map, pm.length_eq, ← hlen, ← rv.length]
      exact hz
    exact ⟨.ref _, upd H (s.heap.objs.size + 1) (.lst (((bs.mergeSort (PySem.W.dataLe false encT)).map (·.1)).map V.ref)), I.laid (t' := s.toks) (fun _ _ => PyProof.Rows.sortedAll_old) (Nat.le_succ _) ⟨hl2, out, ep, vals_refs eo, he'⟩, rfl, q _ _ (by rw [← e1]; exact pm.map _) (I.hok.fresh (Nat.le_succ _))⟩
end
end Rd
set_option Elab.async false
set_option linter.all false
set_option maxRecDepth 100000
set_option maxHeartbeats 4000000
/-! Rules of our own, fourth part: enumerate of a tuple, the items of a dict with tuple keys. -/
namespace Rd
open PySem PySem.Spec PyProof.Rows L2
theorem enumNewOne {v : Value} {o : Obj} {G : Heap → Prop} (B : Begins v o G) : Meets (Builtin.«enumerate.__new__» ⟨[.type "enumerate", v], []⟩) (fun _ R s => G s.heap ∧
    R (.ok (.ret (.ref (s.heap.push o).objs.size))) { s with heap := (s.heap.push o).push { cls := .type "enumerate", data := .fields #[.none, .bool false, .ref s.heap.objs.size, rawInt 0, .none, .none] } }) :=
  .of_wp fun prog w A R s h => by
    obtain ⟨hp, g, d, tk, os⟩ := s; obtain ⟨h1, h⟩ := h
    have hsub := sub_enumerate
    have it1 : ∀ {A' : Around} {E Q : Value → Shared → Prop}, Q (.ref hp.objs.size) ⟨hp.push o, g, d, tk, os⟩ → wpAny (model prog w) A' (pyIter v) Q E ⟨hp, g, d, tk, os⟩ := fun q => B.iter prog w _ _ ⟨hp, g, d, tk, os⟩ _ h1 q
    wp_walk using it1
    refine wpAny_stack_any fun st => wpAny_pure ?_
    split
    · rename_i c _ _ _ _ _; cases (c == Value.type "enumerate")
      · wp_walk using it1
        exact ⟨_, rfl, h⟩
      · wp_walk using it1
        exact ⟨_, rfl, h⟩
    · wp_walk using it1
      exact ⟨_, rfl, h⟩
section
variable {prog : Program} {w : World} {A : Around} {E : Value → Shared → Prop} {s : Shared}
theorem enum_one {v : Value} {o : Obj} {G : Heap → Prop} {Q : Value → Shared → Prop} (B : Begins v o G) (h1 : G s.heap)
    (h : ∀ h', IsEnum h' (s.heap.objs.size + 1) s.heap.objs.size 0 .none → h'.get? s.heap.objs.size = some o → (∀ b o, s.heap.get? b = some o → h'.get? b = some o) → Q (.ref (s.heap.objs.size + 1)) { s with heap := h' }) : wpAny (model prog w) A (call (.type "enumerate") [v]) Q E s := by
  refine callType_new F.called_enumerate (by decide) (F.typeCall_enumerate_1 _) (F.newCall_enumerate_1 _) (fun obj => F.args_object_init_2 obj _) F.entry_enumerate_new (enumNewOne B) ⟨h1, ?_⟩
  have hz : (s.heap.push o).objs.size = s.heap.objs.size + 1 := Heap.size_push ..
  show _ ∧ _; rw [hz]
  have he : IsEnum ((s.heap.push o).push { cls := .type "enumerate", data := .fields #[.none, .bool false, .ref s.heap.objs.size, rawInt 0, .none, .none] }) (s.heap.objs.size + 1) s.heap.objs.size 0 .none := by
    have q := Heap.get?_push_size (s.heap.push o) (o := { cls := .type "enumerate", data := .fields #[.none, .bool false, .ref s.heap.objs.size, rawInt 0, .none, .none] }) rfl
    rw [hz] at q; exact q
  exact ⟨⟨_, he, rfl⟩, h _ he (Heap.get?_push_of_some _ (Heap.get?_push_size _ B.free)) fun b o x => Heap.get?_push_of_some _ (Heap.get?_push_of_some _ x)⟩
end
/-- the tuple at a holds xs, each turn a new pair of the place and the item -/
def ItE (a : Addr) (xs : List V) : It :=
  ⟨fun i H => H a = some (.tup xs) ∧ i < xs.length, fun i H v H' => ∃ T x, v = .ref T ∧ H T = none ∧ H' = upd H T (.tup [.int (i : Nat), x]) ∧ xs[i]? = some x, fun i H => H a = some (.tup xs) ∧ xs.length ≤ i⟩
theorem tup_items {P : Program} {w : World} {H : Hp} {h : Heap} {a : Addr} {xs : List V} (k : HOk P w H h) (e : H a = some (.tup xs)) : ∃ its : List Value, Vals xs its ∧ h.IsTuple a its.toArray := by
  obtain ⟨_, its, rv, o, ho, hc, n, hd⟩ := k a _ e
  exact ⟨its, rv, o, ho, hc, n, hd⟩
theorem turn_enumT {P : Program} {w : World} {K : PySem.W.Frag} {elts : List Expr} {kk : Nat} {tpos : Pos} {xs : List V} (a e it : Addr) :
    Turn P w K (.Tuple elts kk tpos) (ItE a xs) [e, it] e (fun i h => (∃ old, IsEnum h e it ((i : Nat) : Int) old) ∧ h.IsTupleIter it a i ∧ e ≠ it ∧ e ≠ a ∧ it ≠ a) where
  mem := by simp
  obj := fun i h st b hb => by
    obtain ⟨⟨old, he⟩, ⟨o, ho, hc, hd⟩, _⟩ := st
    have e' : b = e ∨ b = it := by simpa using hb
    rcases e' with z | z
    · rw [z]; exact ⟨_, he, fun v q => nomatch q⟩
    · rw [z]; exact ⟨o, ho, fun v q => by rw [hd] at q; cases q⟩
  keep := fun i h h' st k => let ⟨⟨old, he⟩, hi, n⟩ := st; ⟨⟨old, k e (by simp) _ he⟩, hi.at fun o q => k it (by simp) o q, n⟩
  item := by
    intro X hP hw hK hc i pins s σ H E I hf st hg
    subst hP hw hK
    obtain ⟨⟨old, he⟩, hit, hne, hea, hia⟩ := st
    obtain ⟨hq, hi⟩ := hg
    obtain ⟨its, rv, p⟩ := tup_items I.hok hq
    obtain ⟨u, hu, ru⟩ := rv.get (List.getElem?_eq_getElem hi)
    have hel : e < s.heap.objs.size := Heap.lt_size he
    have hil : it < s.heap.objs.size := by obtain ⟨_, q, _⟩ := hit; exact Heap.lt_size q
    refine wpAny_pyNext_enum_itemD (Draws.tuple (A := X.A.in1) (I.ok.hd hc) it a hia.symm its.toArray) he ⟨hit, p⟩ (by rw [List.size_toArray, ← rv.length]; exact hi) hne (by simp [hne, hea]) fun x h' tk hx ho hst' hT hsz hk => ?_
    have eu : x = u := by
      have : its.toArray[i]? = some u := by simpa using hu
      exact Option.some.inj (hx.symm.trans this)
    subst eu
    refine ⟨_, rfl, wpAny_letOwnedTupleGo_enum (s := { s with heap := h', toks := tk + 1 }) ho fun h'' he' sb => ?_⟩
    have hT2 : h''.get? s.heap.objs.size = some { cls := .type "tuple", data := .seq #[.int i tk, x] } := (sb.2 _ (Nat.ne_of_gt hel)).trans hT
    have new : ObjOk X.prog X.w (upd H s.heap.objs.size (.tup [.int (i : Nat), xs[i]])) h'' s.heap.objs.size (.tup [.int (i : Nat), xs[i]]) := ⟨by show 2 ≤ sizeLine; decide, [.int i tk, x], .cons ⟨_, rfl⟩ (.cons ru .nil), ⟨_, hT2, rfl, _, rfl⟩⟩
    have I1 : Inv X pins σ (upd H s.heap.objs.size (.tup [.int (i : Nat), xs[i]])) { s with heap := h'', toks := tk + 1 } :=
      I.turnedNew (ch := [e, it]) (fun b ob hb q => (sb.2 b (fun z => hb (by simp [z]))).trans (hk b ob (fun z => hb (by simp [z])) (fun z => hb (by simp [z])) q)) hf (Nat.le_refl _) new
    refine ⟨.ref s.heap.objs.size, _, I1, rfl, ⟨_, _, rfl, I.hok.fresh (Nat.le_refl _), rfl, List.getElem?_eq_getElem hi⟩, ⟨⟨x, ?_⟩, hst'.1.at fun o q => (sb.2 it (Ne.symm hne)).trans q, hne, hea, hia⟩, fun b hb => ?_⟩
    · rw [show ((i + 1 : Nat) : Int) = (i : Int) + 1 by omega]; exact he'
    · have hb' : b < s.heap.objs.size := by
        have e' : b = e ∨ b = it := by simpa using hb
        rcases e' with z | z
        · rw [z]; exact hel
        · rw [z]; exact hil
      rw [upd_ne (Nat.ne_of_lt hb')]; exact (hf b hb).1
  done := by
    intro X hP hw hK hc i pins s σ H E I hf st hg
    subst hP hw hK
    obtain ⟨⟨old, he⟩, hit, hne, hea, hia⟩ := st
    obtain ⟨hq, hi⟩ := hg
    obtain ⟨its, rv, p⟩ := tup_items I.hok hq
    obtain ⟨f0, f1, f2, f3, f4, f5⟩ := hf it (by simp)
    unfold pyNext
    have hT : s.TypeIs (.ref e) "enumerate" := ⟨_, he, rfl⟩
    refine wpAny_bind (wpAny_attempt (wpAny_callSpecial?_slot (name := Str.ofString "__next__") hT F.slot_enumerate_next (wpAny_call_entry F.slot_enumerate_next hT F.entry_enumerate_next ?_ (F.args_enumerate_next_1 _))))
    show wpAny _ _ (field (.ref e) 2 >>= _) _ _ _; refine wpAny_bind (wpAny_field he rfl (x := .ref it) rfl (wpAny_bind (wpAny_nextOf_tuple_end (I.ok.hd hc) hit p ?_ fun h' x he' hx' => ?_)))
    · exact Array.getElem?_eq_none (by rw [List.size_toArray, ← rv.length]; exact hi)
    · obtain ⟨o, ho, hcl⟩ := hx'
      refine wpAny_bind (wpAny_isInstance (T := "StopIteration") (b := true) ⟨o, ho, hcl⟩ isSubtype_stop (wpAny_pure ⟨rfl, I.turned (t' := s.toks) (fun b o hb q => he' b o hb q) f0 f1 f3 f4 f5⟩))
  self := fun A i s Q E st h => let ⟨⟨_, he⟩, _⟩ := st; wpAny_pyIter_enum he h
def iEnumT (ta : TA) : TI := fun σ H R => ta σ H fun vs H1 => ∃ a xs, vs = [.ref a] ∧ H1 a = some (.tup xs) ∧ R (ItE a xs) H1
theorem pi_enumT {X : Cx} {e : Expr} {ta : TA} {p pos tpos : Pos} {elts : List Expr} {kk : Nat} (hg : Gl X "enumerate") (hm : X.mg "enumerate" = none) (ha : PA X [e] ta) (hs : starEach [e] X.env = [(false, eval e X.env)] := by rfl) :
    PI X (.Tuple elts kk tpos) (.Call (.Name "enumerate" p) [e] [] pos) (iEnumT ta) := by
  refine ⟨fun pins s σ H R I h => Call_ (ld_blt I hg hm boot_enumerate (PyProof.Rows.callWith_type1 (thn (ha.run pos pins s σ H _ I h) fun us s1 ⟨vs, H1, I1, r1, q1⟩ => ?_) hs rfl))⟩
  obtain ⟨a, xs, ex, hq, q⟩ := q1
  subst ex
  rw [Vals.ref1 r1]
  obtain ⟨its, rv, p'⟩ := tup_items I1.hok hq
  have hal : a < s1.heap.objs.size := by obtain ⟨_, e, _⟩ := p'; exact Heap.lt_size e
  refine enum_one (begins_tuple a its.toArray) p' fun h' he hit hk => wpAny_pyIter_enum he ?_
  have I2 : Inv X pins σ H1 { s1 with heap := h' } := I1.kept (t' := s1.toks) hk
  refine ⟨s1.heap.objs.size + 1, [s1.heap.objs.size + 1, s1.heap.objs.size], _, _, H1, rfl, I2, turn_enumT (xs := xs) a (s1.heap.objs.size + 1) s1.heap.objs.size, ⟨⟨.none, he⟩, ⟨_, hit, rfl, rfl⟩, Nat.succ_ne_self _, (Nat.ne_of_lt (Nat.lt_succ_of_lt hal)).symm, (Nat.ne_of_lt hal).symm⟩, fun b hb => ?_, q⟩
  have e' : b = s1.heap.objs.size + 1 ∨ b = s1.heap.objs.size := by simpa using hb
  have hle : s1.heap.objs.size ≤ b := by
    rcases e' with z | z
    · rw [z]; exact Nat.le_add_right _ _
    · rw [z]; exact Nat.le_refl _
  exact I1.fpOk hle (I1.hok.fresh hle)
theorem for_enumT {a : Addr} {xs : List V} {g : TG} {tb : TS} {D : Ends} {σ : L2.St} {H : Hp} (Pv : Nat → L2.St → Hp → Prop) (h0 : Pv 0 σ H) (hl : ∀ i σ H, Pv i σ H → H a = some (.tup xs))
    (hs : ∀ i x T σ H, xs[i]? = some x → Pv i σ H → H T = none → g (.ref T) σ (upd H T (.tup [.int (i : Nat), x])) fun σ2 H2 => tb { D with nx := Pv (i + 1), ct := Pv (i + 1), bk := D.nx } σ2 H2) (hd : ∀ σ H, Pv xs.length σ H → D.nx σ H) :
    ∃ W : Nat → Nat → L2.St → Hp → Prop, (∃ m, W 0 m σ H) ∧ ∀ i m σ H, W i m σ H →
      ((ItE a xs).stop i H ∧ D.nx σ H) ∨ ((ItE a xs).go i H ∧ ∃ N : L2.St → Hp → Prop, (∀ σ' H', N σ' H' → ∃ m', m' < m ∧ W (i + 1) m' σ' H') ∧ ∀ x H', (ItE a xs).yld i H x H' → g x σ H' fun σ2 H2 => tb { D with nx := N, ct := N, bk := D.nx } σ2 H2) := by
  refine ⟨fun i m σ H => m = xs.length - i ∧ i ≤ xs.length ∧ Pv i σ H, ⟨xs.length, by simp, Nat.zero_le _, h0⟩, ?_⟩
  rintro i m σ H ⟨rfl, hi, p⟩
  by_cases hlt : i < xs.length
  · refine .inr ⟨⟨hl _ _ _ p, hlt⟩, Pv (i + 1), fun σ' H' p' => ⟨xs.length - (i + 1), by omega, rfl, hlt, p'⟩, fun x H' y => ?_⟩
    obtain ⟨T, z, rfl, hT, rfl, hz⟩ := y
    exact hs i z T σ H hz p hT
  · have e : i = xs.length := by omega
    subst e
    exact .inl ⟨⟨hl _ _ _ p, Nat.le_refl _⟩, hd σ H p⟩
/-! ### for k, v in d.items(), d a dict with tuple keys (under a lock) -/
def ItI (d : Addr) (o : Obj) (kvs : List (List Key × V)) : It :=
  ⟨fun i H => H d = some (.frz o (.dT kvs)) ∧ i < kvs.length, fun i H x H' => ∃ T k v q, kvs[i]? = some (k, v) ∧ x = .ref T ∧ H T = none ∧ H q = some (.tup (k.map kV)) ∧ H' = upd H T (.tup [.ref q, v]), fun i H => H d = some (.frz o (.dT kvs)) ∧ kvs.length ≤ i⟩
theorem frzTv {X : Cx} {pins : List (Addr × Obj)} {σ : L2.St} {H : Hp} {s : Shared} {d : Addr} {o : Obj} {kvs : List (List Key × V)} (I : Inv X pins σ H s) (h : H d = some (.frz o (.dT kvs))) :
    (d == sysModules) = false ∧ s.heap.get? d = some o ∧ o.ExactDict ∧ ∃ (es : Array DictEntry) (ep : Nat), o.data = .dict es ep ∧ es.size = kvs.length ∧
      ∀ (i : Nat) (k : List Key) (v : V), kvs[i]? = some (k, v) → ∃ (en : DictEntry) (q : Addr), es[i]? = some en ∧ en.key = .ref q ∧ H q = some (.tup (k.map kV)) ∧ RelV v en.val := by
  obtain ⟨hd, z, hs, xs, pr, o', es, ep, ho, hx, hdt, he, _⟩ := I.hok d _ h
  rw [hd] at ho
  cases ho
  refine ⟨hs, hd, hx, es, ep, hdt, ?_, fun i k v e => ?_⟩
  · have l1 : es.size = xs.length := size_of_entries he
    have l2 : kvs.length = xs.length := Paired.length pr
    omega
  · obtain ⟨b, hb, e1, e2, e3⟩ := paired_get pr e
    have q := entry_at he i
    rw [hb] at q
    exact ⟨_, b.2.1, q, rfl, e2, e3⟩
theorem turn_itemsT {P : Program} {w : World} {K : PySem.W.Frag} {d : Addr} {o : Obj} {es : Array DictEntry} {ep : Nat} {kvs : List (List Key × V)} {elts : List Expr} {kk : Nat} {tpos : Pos} (it : Addr) (hod : o.data = .dict es ep) :
    Turn P w K (.Tuple elts kk tpos) (ItI d o kvs) [it] it (fun i h => ∃ ok ov, IsItemIter h it d i kvs.length ep ok ov) where
  mem := by simp
  obj := fun i h st b hb => by
    have e : b = it := by simpa using hb
    subst e
    obtain ⟨ok, ov, e⟩ := st
    exact ⟨_, e, fun v z => nomatch z⟩
  keep := fun i h h' st k => let ⟨ok, ov, e⟩ := st; ⟨ok, ov, k it (by simp) _ e⟩
  item := by
    intro X hP hw hK hc i pins s σ H E I hf st hg
    subst hP hw hK
    obtain ⟨hd, hi⟩ := hg
    obtain ⟨hs, hgd, hx, es', ep', hdt, hsz, ent⟩ := frzTv I hd
    obtain ⟨rfl, rfl⟩ := dict_ep hod hdt
    obtain ⟨⟨k, v⟩, hkv⟩ : ∃ p, kvs[i]? = some p := ⟨kvs[i], List.getElem?_eq_getElem hi⟩
    obtain ⟨en, q, hen, hkey, hq, hv⟩ := ent i k v hkv
    obtain ⟨ok, ov, he⟩ := st
    rw [← hsz] at he
    have hlt : it < s.heap.objs.size := Heap.lt_size he
    have hi' : i < es'.size := by omega
    have ee : es'[i] = en := by
      rw [Array.getElem?_eq_getElem hi'] at hen
      exact Option.some.inj hen
    refine wpAny_pyNext_items_item_raw he ⟨o, hgd, hx, hdt⟩ hi' fun h' ho hT hz hk => ?_
    rw [ee] at ho hT
    refine ⟨_, rfl, wpAny_letOwnedTupleGo_items (s := { s with heap := h' }) ho fun h'' he' sb => ?_⟩
    have hT2 : h''.get? s.heap.objs.size = some { cls := .type "tuple", data := .seq #[en.key, en.val] } := (sb.2 _ (Nat.ne_of_gt hlt)).trans hT
    have new : ObjOk X.prog X.w (upd H s.heap.objs.size (.tup [.ref q, v])) h'' s.heap.objs.size (.tup [.ref q, v]) := ⟨by show 2 ≤ sizeLine; decide, [en.key, en.val], .cons hkey (.cons hv .nil), ⟨_, hT2, rfl, _, rfl⟩⟩
    have I1 : Inv X pins σ (upd H s.heap.objs.size (.tup [.ref q, v])) { s with heap := h'' } :=
      I.turnedNew (t' := s.toks) (ch := [it]) (fun b ob hb e => (sb.2 b (by simpa using hb)).trans (hk b ob (by simpa using hb) e)) hf (Nat.le_refl _) new
    refine ⟨.ref s.heap.objs.size, _, I1, rfl, ⟨_, k, v, q, hkv, rfl, I.hok.fresh (Nat.le_refl _), hq, rfl⟩, ⟨en.key, en.val, ?_⟩, fun b hb => ?_⟩
    · rw [← hsz]; exact he'
    · have e : b = it := by simpa using hb
      rw [e, upd_ne (Nat.ne_of_lt hlt)]
      exact (hf it (by simp)).1
  done := by
    intro X hP hw hK hc i pins s σ H E I hf st hg
    subst hP hw hK
    obtain ⟨hd, hi⟩ := hg
    obtain ⟨f0, f1, f2, f3, f4, f5⟩ := hf it (by simp)
    obtain ⟨hs, hgd, hx, es', ep', hdt, hsz, ent⟩ := frzTv I hd
    obtain ⟨rfl, rfl⟩ := dict_ep hod hdt
    obtain ⟨ok, ov, he⟩ := st
    rw [← hsz] at he
    exact wpAny_pyNext_items_end_raw (I.ok.hd hc) he ⟨o, hgd, hx, hdt⟩ (by omega) fun h' eb => ⟨rfl, I.turned (t' := s.toks) (fun b ob hb e => eb b ob hb e) f0 f1 f3 f4 f5⟩
  self := fun A i s Q E st h => let ⟨_, _, e⟩ := st; PySem.W.kcp_self e h
def iItemsT (td : TE) : TI := fun σ H R => td σ H fun x H1 => ∃ d o kvs, x = .ref d ∧ H1 d = some (.frz o (.dT kvs)) ∧ R (ItI d o kvs) H1
theorem pi_itemsT {X : Cx} {e : Expr} {td : TE} {apos cpos : Pos} {elts : List Expr} {kk : Nat} {tpos : Pos} (he : PE X e td) (hbase : attributeBase e "items" X.env (eval e X.env) = eval e X.env := by rfl) (hline : (apos.endLine == cpos.line) = true := by rfl) :
    PI X (.Tuple elts kk tpos) (.Call (.Attribute e "items" apos) [] [] cpos) (iItemsT td) := by
  refine ⟨fun pins s σ H R I h => wpAny_Call_method (T := "dict") (id := "dict.items") hbase rfl hline F.plainAttrs_dict F.slot_dict_items F.type_dict_items (thn (he.run pins s σ H _ I h) fun u s1 ⟨x, H1, I1, rx, d, o, kvs, ex, hd, q⟩ => ?_)⟩
  subst ex
  obtain rfl : u = Value.ref d := rx
  obtain ⟨hs, hgd, hx, es, ep, hdt, hsz, ent⟩ := frzTv I1 hd
  have raw : s1.heap.DictRaw d es ep := ⟨o, hgd, hx, hdt⟩
  refine ⟨raw.typeIs, fun b e => ?_, ?_⟩
  · cases e
    exact ⟨o, hgd, hx.2.1⟩
  · have I2 : Inv X pins σ H1 { s1 with heap := s1.heap.push { cls := .type "dict_items", data := .fields #[.ref d] } } := I1.kept (t' := s1.toks) fun b ob q => Heap.get?_push_of_some _ q
    have fin : wpAny (model X.prog X.w) X.A (pyIter (.ref s1.heap.objs.size)) (PIE X pins σ (.Tuple elts kk tpos) R) X.xe { s1 with heap := s1.heap.push { cls := .type "dict_items", data := .fields #[.ref d] } } := by
      refine wpAny_pyIter_items_raw (d := d) ⟨_, Heap.get?_push_size _ rfl, rfl, rfl⟩ (raw.at fun o e => Heap.get?_push_of_some _ e) (pi_one (tk := s1.toks) I2 _ (turn_itemsT _ hdt) ⟨.none, .none, ?_⟩ q)
      rw [← hsz]
      exact Heap.get?_push_size _ rfl
    show wpAny _ _ (callWith cpos (.builtin "dict.items") [.ref d] [] []) _ X.xe s1
    exact method_meetsIn F.slot_dict_items F.entry_dict_items rfl (PySem.evalArgs_none ⟨rfl, raw.typeIs, F.args_dict_items_1 _, _, meets_dict_items_raw d hs, ⟨es, ep, raw⟩, fin⟩)
theorem for_itemsT {d : Addr} {o : Obj} {kvs : List (List Key × V)} {g : TG} {tb : TS} {D : Ends} {σ : L2.St} {H : Hp} (Pv : Nat → L2.St → Hp → Prop) (h0 : Pv 0 σ H) (hl : ∀ i σ H, Pv i σ H → H d = some (.frz o (.dT kvs)))
    (hs : ∀ i k v q T σ H, kvs[i]? = some (k, v) → Pv i σ H → H T = none → H q = some (.tup (k.map kV)) → g (.ref T) σ (upd H T (.tup [.ref q, v])) fun σ2 H2 => tb { D with nx := Pv (i + 1), ct := Pv (i + 1), bk := D.nx } σ2 H2) (hd : ∀ σ H, Pv kvs.length σ H → D.nx σ H) :
    ∃ W : Nat → Nat → L2.St → Hp → Prop, (∃ m, W 0 m σ H) ∧ ∀ i m σ H, W i m σ H →
      ((ItI d o kvs).stop i H ∧ D.nx σ H) ∨ ((ItI d o kvs).go i H ∧ ∃ N : L2.St → Hp → Prop, (∀ σ' H', N σ' H' → ∃ m', m' < m ∧ W (i + 1) m' σ' H') ∧ ∀ x H', (ItI d o kvs).yld i H x H' → g x σ H' fun σ2 H2 => tb { D with nx := N, ct := N, bk := D.nx } σ2 H2) := by
  refine ⟨fun i m σ H => m = kvs.length - i ∧ i ≤ kvs.length ∧ Pv i σ H, ⟨kvs.length, by simp, Nat.zero_le _, h0⟩, ?_⟩
  rintro i m σ H ⟨rfl, hi, p⟩
  by_cases hlt : i < kvs.length
  · refine .inr ⟨⟨hl _ _ _ p, hlt⟩, Pv (i + 1), fun σ' H' p' => ⟨kvs.length - (i + 1), by omega, rfl, hlt, p'⟩, fun x H' y => ?_⟩
    obtain ⟨T, k, v, q, hk, rfl, hT, hq, rfl⟩ := y
    exact hs i k v q T σ H hk p hT hq
  · have e : i = kvs.length := by omega
    subst e
    exact .inl ⟨⟨hl _ _ _ p, Nat.le_refl _⟩, hd σ H p⟩
end Rd
set_option Elab.async false
set_option linter.all false
set_option maxRecDepth 100000
set_option maxHeartbeats 4000000
/-! Rules of our own, fifth part: dicts with tuple keys made of pairs, or put into one another. -/
namespace Rd
open PySem PySem.Spec PyProof.Rows L2
/-- pairs laid over pairs -/
def mergeT (kvs more : List (List Key × V)) : List (List Key × V) := more.foldl (fun acc kv => putK acc kv.1 kv.2) kvs
theorem KT.mergeT {H : Hp} : ∀ {more : List (List Key × V)} {ps : List (List Key × Addr × Value)} {kvs : List (List Key × V)} {xs : List (List Key × Addr × Value)}, KT H more ps → KT H kvs xs → KT H (mergeT kvs more) (storedAllH xs ps)
  | [], _, _, _, .nil, h => h
  | kv :: more, p :: ps, kvs, xs, .cons q t, h => by
    show KT H (Rd.mergeT (putK kvs kv.1 kv.2) more) (storedAllH (storedH xs p.1 p.2.1 p.2.2) ps)
    have e : p.1 = kv.1 := q.1.symm
    rw [e]
    exact KT.mergeT t (h.put _ q.2.1 q.2.2)
theorem length_mergeT : ∀ (more kvs : List (List Key × V)), (mergeT kvs more).length ≤ kvs.length + more.length
  | [], kvs => Nat.le_refl _
  | kv :: more, kvs => by
    have h1 := length_mergeT more (putK kvs kv.1 kv.2)
    have h2 := length_putK kvs kv.1 kv.2
    show (mergeT (putK kvs kv.1 kv.2) more).length ≤ _
    rw [List.length_cons]
    omega
/-- the tuples ps hold a key and a value each -/
abbrev PrT (H : Hp) : List Addr → List (List Key × V) → Prop := Paired fun p kv => ∃ kq, H p = some (.tup [.ref kq, kv.2]) ∧ H kq = some (.tup (kv.1.map kV))
theorem prT_of {P : Program} {w : World} {H : Hp} {h : Heap} (ok : HOk P w H h) : ∀ {ps : List Addr} {kvs : List (List Key × V)}, PrT H ps kvs →
    ∃ xs : List (List Key × Addr × Value), KT H kvs xs ∧ xs.length = ps.length ∧ ∀ (j : Nat) (x : List Key × Addr × Value), xs[j]? = some x → ∃ b, ps[j]? = some b ∧ h.IsTuple b #[.ref x.2.1, x.2.2] ∧ (tupleKind (mixKind P w)).is h x.1 x.2.1
  | _, _, .nil => ⟨[], .nil, rfl, fun j x e => by simp at e⟩
  | _, _, .cons (a := p) (b := kv) q t => by
    obtain ⟨xs, r, l, g⟩ := prT_of ok t
    obtain ⟨kq, h1, h2⟩ := q
    obtain ⟨_, its, rv, o, ho, hc, n, hd⟩ := ok p _ h1
    obtain ⟨u1, u2, rfl, r1, r2⟩ := vals2 rv
    cases r1
    refine ⟨(kv.1, kq, u2) :: xs, .cons ⟨rfl, h2, r2⟩ r, by simp [l], fun j x e => ?_⟩
    cases j with
    | zero =>
      obtain rfl := Option.some.inj e
      exact ⟨p, rfl, ⟨o, ho, hc, n, hd⟩, key_of ok h2⟩
    | succ j => exact g j x e
def rDictT : List V → Hp → VK → Prop := fun vs H Q => ∃ (a : Addr) (ps : List Addr) (kvs : List (List Key × V)), vs = [.ref a] ∧ H a = some (.lst (ps.map V.ref)) ∧ PrT H ps kvs ∧ ∀ p, H p = none → Q (.ref p) (upd H p (.dT (mergeT [] kvs)))
theorem call_dictT {X : Cx} (hc : X.calm = true) (hu : X.A.units + 2 < cLine) : CallR X (.type "dict") rDictT := by
  intro pins s σ H vs us Q I r h
  obtain ⟨a, ps, kvs, rfl, ha, hp, q⟩ := h
  obtain rfl := Vals.ref1 r
  obtain ⟨its, rv, pl, hz⟩ := I.list (SqL.of ha)
  have ei := refs_at rv
  subst ei
  obtain ⟨xs, rel, hl, g⟩ := prT_of I.hok hp
  obtain ⟨o, n, ho, hcl, hd, hdat⟩ := pl
  have lk : kvs.length = xs.length := Paired.length rel
  have rr : ∀ x ∈ xs, (tupleKind (mixKind X.prog X.w)).is s.heap x.1 x.2.1 := fun x hx => by
    obtain ⟨j, hj⟩ := List.mem_iff_getElem?.mp hx
    obtain ⟨b, _, _, k⟩ := g j x hj
    exact k
  have ok : PlainSeq "list" s.heap a (ps.map Value.ref).toArray ∧ PairItems s.heap (ps.map Value.ref).toArray (fun j => ps.getD j 0) (xs.map fun x => (Value.ref x.2.1, x.2.2)) := by
    refine ⟨⟨o, n, ho, hcl, hd, hdat⟩, by simp [hl], ?_⟩
    intro j k v e
    rw [List.getElem?_map] at e
    obtain ⟨x, hx, e2⟩ := Option.map_eq_some_iff.mp e
    obtain ⟨b, hb, ht, _⟩ := g j x hx
    cases e2
    have e3 : ps.getD j 0 = b := by rw [List.getD_eq_getElem?_getD, hb]; rfl
    show _ = some (Value.ref (ps.getD j 0)) ∧ PairAt s.heap (ps.getD j 0) _ _
    rw [e3]
    exact ⟨by simp [hb], .inl ht⟩
  have hv : PairsHaveH (tupleKind (mixKind X.prog X.w)) (xs.map fun x => (Value.ref x.2.1, x.2.2)).length (PairRel (xs.map fun x => (Value.ref x.2.1, x.2.2))) xs := by
    refine ⟨by simp, ?_⟩
    intro i key v e
    rw [show PairRel (xs.map fun x => (Value.ref x.2.1, x.2.2)) i key v = ((xs.map fun x => (Value.ref x.2.1, x.2.2))[i]? = some (key, v)) from rfl, List.getElem?_map] at e
    obtain ⟨x, hx, e2⟩ := Option.map_eq_some_iff.mp e
    cases e2
    exact ⟨x.1, x.2.1, hx, rfl⟩
  have st : KeysStay (tupleKind (mixKind X.prog X.w)) s.heap s.heap.objs.size [] xs := by
    intro h' k x hx
    exact tupleKind_stays.stays (fun b o vs m e _ => k b o (Nat.ne_of_lt (Heap.lt_size e)) (by simp) e) (rr x hx)
  have sz : (xs.map fun x => (Value.ref x.2.1, x.2.2)).length ≤ sizeLine := by
    rw [List.length_map, hl]
    rw [List.length_map] at hz
    exact hz
  refine call_dict_pairsH (PairArg.list a _ (fun j => ps.getD j 0) (xs.map fun x => (Value.ref x.2.1, x.2.2))) (I.ok.hd hc) hu ok hv st sz fun h' tk hd' hk => ?_
  · have hm : (s.heap.objs.size == sysModules) = false := beq_eq_false_iff_ne.mpr (Nat.ne_of_gt I.big)
    have hlen : (mergeT [] kvs).length ≤ sizeLine := by
      refine Nat.le_trans (length_mergeT kvs []) ?_
      rw [List.length_nil, Nat.zero_add, lk, hl]
      rw [List.length_map] at hz
      exact hz
    have hn : H s.heap.objs.size = none := I.hok.fresh (Nat.le_refl _)
    obtain ⟨q1, es, ep, hq, h2, h3, h4, _, h5⟩ := hd'
    refine ⟨.ref s.heap.objs.size, upd H s.heap.objs.size (.dT (mergeT [] kvs)), I.laid (t' := tk) (fun b o e => hk b o (by simp) e) (Nat.le_refl _) ⟨hlen, hm, storedAllH [] xs, (KT.mergeT rel .nil).keeps fun c ys ec => ?_, q1, es, ep, hq, h2, h3, h4, h5⟩, rfl, q _ hn⟩
    rw [upd_ne (ne_of_none ec hn)]
    exact ec
/-! ### d.update(d2) -/
/-- the key of a step -/
def stK (p q : Nat) : List Key := [.inl (p : Int), .inl (q : Int)]
theorem stK_inj {p q p' q' : Nat} (h : stK p q = stK p' q') : p = p' ∧ q = q' := by
  unfold stK at h
  injection h with h1 h2
  injection h2 with h2 _
  injection h1 with h1
  injection h2 with h2
  omega
def stH (p q : Nat) : Int := reduceHash (Builtin.Tuple.tupleHashOf [hashInt (p : Int), hashInt (q : Int)])
theorem stH_eq (prog : Program) (w : World) (p q : Nat) : (tupleKind (mixKind prog w)).hash (stK p q) = stH p q := rfl
def all9 : List (Nat × Nat) := (List.range 9).flatMap fun p => (List.range 9).map fun q => (p, q)
theorem apart9 : (all9.map fun x => stH x.1 x.2).Nodup := by decide +kernel
theorem mem9 {p q : Nat} (hp : p < 9) (hq : q < 9) : (p, q) ∈ all9 := by
  unfold all9
  rw [List.mem_flatMap]
  exact ⟨p, List.mem_range.mpr hp, List.mem_map.mpr ⟨q, List.mem_range.mpr hq, rfl⟩⟩
theorem nodup_inj {α β : Type} {f : α → β} : ∀ {l : List α}, (l.map f).Nodup → ∀ x ∈ l, ∀ y ∈ l, f x = f y → x = y
  | [], _, _, h, _, _, _ => nomatch h
  | a :: l, n, x, hx, y, hy, e => by
    rw [List.map_cons, List.nodup_cons] at n
    rcases List.mem_cons.mp hx with e1 | hx2
    · rcases List.mem_cons.mp hy with e2 | hy2
      · rw [e1, e2]
      · exact absurd (List.mem_map.mpr ⟨y, hy2, by rw [← e, e1]⟩) n.1
    · rcases List.mem_cons.mp hy with e2 | hy2
      · exact absurd (List.mem_map.mpr ⟨x, hx2, by rw [e, e2]⟩) n.1
      · exact nodup_inj n.2 x hx2 y hy2 e
/-- the keys are steps between places below nine -/
def Steps9 (kvs : List (List Key × V)) : Prop := ∀ kv ∈ kvs, ∃ p q : Nat, p < 9 ∧ q < 9 ∧ kv.1 = stK p q
theorem hash_nodup {prog : Program} {w : World} : ∀ {kvs : List (List Key × V)}, Steps9 kvs → (kvs.map (·.1)).Nodup → (kvs.map fun p => (tupleKind (mixKind prog w)).hash p.1).Nodup
  | [], _, _ => .nil
  | kv :: kvs, h, n => by
    rw [List.map_cons, List.nodup_cons] at n ⊢
    refine ⟨fun hm => n.1 ?_, hash_nodup (fun x hx => h x (List.mem_cons_of_mem _ hx)) n.2⟩
    obtain ⟨x, hx, e⟩ := List.mem_map.mp hm
    obtain ⟨p, q, hp, hq, e1⟩ := h kv (List.mem_cons_self ..)
    obtain ⟨p', q', hp', hq', e2⟩ := h x (List.mem_cons_of_mem _ hx)
    rw [e1, e2, stH_eq, stH_eq] at e
    have e3 := nodup_inj apart9 (p', q') (mem9 hp' hq') (p, q) (mem9 hp hq) e
    injection e3 with e3 e4
    rw [e1, ← e3, ← e4, ← e2]
    exact List.mem_map.mpr ⟨x, hx, rfl⟩
theorem KT.map1 {H : Hp} : ∀ {kvs : List (List Key × V)} {xs : List (List Key × Addr × Value)}, KT H kvs xs → xs.map (·.1) = kvs.map (·.1)
  | _, _, .nil => rfl
  | _, _, .cons q t => by rw [List.map_cons, List.map_cons, KT.map1 t, q.1]
def rUpdT : V → List V → Hp → VK → Prop := fun x xs H Q => ∃ (a b : Addr) (kvs more : List (List Key × V)), x = .ref a ∧ xs = [.ref b] ∧ a ≠ b ∧ H a = some (.dT kvs) ∧ H b = some (.dT more) ∧ Steps9 more ∧ (more.map (·.1)).Nodup ∧ kvs.length + more.length ≤ 1000 ∧ Q .non (upd H a (.dT (mergeT kvs more)))
theorem mt_updT {X : Cx} (hu : X.A.units + 1 < cLine) : MtR X "dict.update" rUpdT := by
  intro pins s σ H x xs v us Q I rx rxs h
  obtain ⟨a, b, kvs, more, rfl, rfl, hab, ha, hb, h9, nd, hz, q⟩ := h
  cases rx
  obtain rfl := Vals.ref1 rxs
  obtain ⟨z, hd, vs, rel, dd⟩ := dt_of I.hok ha
  obtain ⟨z2, hd2, vs2, rel2, dd2⟩ := dt_of I.hok hb
  have l1 : kvs.length = vs.length := Paired.length rel
  have l2 : more.length = vs2.length := Paired.length rel2
  have hn : (vs2.map fun x => (tupleKind (mixKind X.prog X.w)).hash x.1).Nodup := by
    have e := hash_nodup (prog := X.prog) (w := X.w) h9 nd
    have e2 : (vs2.map fun x => (tupleKind (mixKind X.prog X.w)).hash x.1) = (more.map fun p => (tupleKind (mixKind X.prog X.w)).hash p.1) := by
      have e3 := congrArg (List.map fun k => (tupleKind (mixKind X.prog X.w)).hash k) (KT.map1 rel2)
      rw [List.map_map, List.map_map] at e3
      exact e3
    rw [e2]
    exact e
  have sz : vs.length + vs2.length ≤ sizeLine := by rw [sizeLine_eq]; omega
  refine call_update_dictH (tupleKind_room_in1 hu) hab hd2 dd dd2 (.inr ⟨keyed_apart tupleKind_stays dd2, hn⟩) sz fun h' dd' _ hs => ?_
  obtain ⟨q1, es, ep, hq, h2, h3, h4, _, h5⟩ := dd'
  have hlen : (mergeT kvs more).length ≤ sizeLine := by
    have := length_mergeT more kvs
    rw [sizeLine_eq]
    omega
  refine ⟨.non, upd H a (.dT (mergeT kvs more)), d_write (t' := s.toks) I (by rw [ha]; exact True.intro) hs ⟨q1, hq⟩ ⟨hlen, hd, storedAllH vs vs2, (KT.mergeT rel2 rel).keeps fun c ys ec => ?_, q1, es, ep, hq, h2, h3, h4, h5⟩, rfl, q⟩
  rw [upd_ne (ne_of ec ha (fun z => nomatch z))]
  exact ec
end Rd
set_option Elab.async false
set_option linter.all false
set_option maxRecDepth 100000
set_option maxHeartbeats 4000000
/-! Rules of our own, sixth part: list(reversed(list)). -/
namespace Rd
open PySem PySem.Spec PyProof.Rows L2 RT
section
variable {prog : Program} {w : World} {A : Around} {E : Value → Shared → Prop} {s : Shared}
/-- the new list made long by a walk backwards -/
theorem ext_rev {R : Result → Shared → Prop} {it l S : Addr} {items : Array Value} {c0 : Nat} (hh : A.handled = none) (hit : s.heap.IsRevIter it l ((items.size : Int) - 1)) (hl : s.heap.IsList l items) (hne : l ≠ it) (hn : items.size ≤ sizeLine)
    (hS : s.heap.get? S = some { cls := .type "list", data := .seq #[] c0 }) (hSi : S ≠ it) (hSl : S ≠ l)
    (hR : ∀ (h' : Heap) (tk : Nat) (acc : Array Value) (c : Nat), (∀ b o, b ≠ S → b ≠ it → s.heap.get? b = some o → h'.get? b = some o) → h'.get? S = some { cls := .type "list", dict := none, data := .seq acc c, slots := #[] } →
      ItemsOf (fun i v => items[items.size - 1 - i]? = some v) acc items.size → R (.ok (.ret .none)) { s with heap := h', toks := tk }) :
    wpAny (model prog w) A.in1 (Builtin.List.listExtendWith (.ref S) (.ref it) .none)
      (fun fin s' => match fin with | .done f => R (.ok f) s' | .again c' => c'.quiet = true ∧ codeAny (model prog w) A c' R s') (fun e s' => R (.error e) s') s := by
  have Wk := (Walks.listRev (prog := prog) (w := w) (A := A.in1) hh it l hne items).toS
  have hSf : S ∉ [it, l] := by simp only [List.mem_cons, List.not_mem_nil, or_false, not_or]; exact ⟨hSi, hSl⟩
  have hT : s.TypeIs (.ref it) "list_reverseiterator" := hit.typeIs
  have h1 : Builtin.List.listSameRef (.ref S) (.ref it) = false := by simp [Builtin.List.listSameRef, hSi]
  unfold Builtin.List.listExtendWith
  refine wpAny_bind (wpAny_typeOf hT ?_)
  rw [if_neg (by rw [h1]; decide)]
  refine wpAny_bind (wpAny_pyIter_revIter hit ?_)
  refine wpAny_bind (wpAny_holding ?_)
  unfold Builtin.List.listLengthHint
  refine wpAny_bind (wpAny_specialOf hT nolen_lri ?_)
  show wpAny _ A.in1 (specialOf (Value.ref it) (Str.ofString "__length_hint__") >>= _) _ _ _
  refine wpAny_bind (wpAny_specialOf hT hint_lri ?_)
  generalize hid : ("list_reverseiterator.__length_hint__" : String) = id0
  wp_delta
  rw [show splitId id0 = some ("list_reverseiterator", "__length_hint__") from by subst hid; decide +kernel]
  subst hid
  refine wpAny_bind (wpAny_isInstance (b := true) hT (by rw [isSubtype_type]; kernel_rfl) ?_)
  refine wpAny_pure ?_
  rw [if_neg (by decide)]
  have e0 : ((items.size : Nat) : Int) - 1 - ((0 : Nat) : Int) = (items.size : Int) - 1 := by omega
  refine wpAny_pure ⟨plainId_quiet F.plain_extend_loop _, codeAny_extend_loopS Wk hn _ hSf _ items.size 0 _ _ _ rfl (Nat.zero_le _) ⟨Nat.zero_le _, by rw [e0]; exact hit, hl⟩ hS (ItemsOf.nil _) fun s' acc' c' hm hS' hacc => ?_⟩
  rw [Moved.eq_with hm]
  exact hR s'.heap s'.toks acc' c' (fun b o hb hi e => hm.heap b o (by simp [hb, hi]) e) hS' hacc
theorem init_rev {R : Result → Shared → Prop} {it l S : Addr} {items : Array Value} (hh : A.handled = none) (hit : s.heap.IsRevIter it l ((items.size : Int) - 1)) (hl : s.heap.IsList l items) (hne : l ≠ it) (hn : items.size ≤ sizeLine)
    (hS : s.heap.get? S = some { cls := .type "list", data := .seq #[] }) (hSi : S ≠ it) (hSl : S ≠ l)
    (hR : ∀ (h' : Heap) (tk : Nat) (acc : Array Value) (c : Nat), (∀ b o, b ≠ S → b ≠ it → s.heap.get? b = some o → h'.get? b = some o) → h'.get? S = some { cls := .type "list", dict := none, data := .seq acc c, slots := #[] } →
      ItemsOf (fun i v => items[items.size - 1 - i]? = some v) acc items.size → R (.ok (.ret .none)) { s with heap := h', toks := tk }) :
    wpAny (model prog w) A.in1 (Builtin.«list.__init__» ⟨[.ref S, .ref it], []⟩)
      (fun fin s' => match fin with | .done f => R (.ok f) s' | .again c' => c'.quiet = true ∧ codeAny (model prog w) A c' R s') (fun e s' => R (.error e) s') s := by
  show wpAny _ _ (do let old ← Builtin.List.listItems (.ref S); Builtin.List.listUpdate (.ref S) (fun _ => #[]); letGo old.toList.reverse; Builtin.List.listExtendWith (.ref S) (.ref it) .none) _ _ s
  refine wpAny_bind ?_
  unfold Builtin.List.listItems
  refine wpAny_bind (wpAny_seqItems hS rfl (wpAny_pure ?_))
  show wpAny _ _ (updateSeq S (fun _ => #[]) >>= fun _ => letGo (#[] : Array Value).toList.reverse >>= fun _ => Builtin.List.listExtendWith (.ref S) (.ref it) .none) _ _ s
  refine wpAny_bind (wpAny_updateSeq hS rfl ?_)
  have hS2 := Heap.get?_update_self (Obj.mapSeq (fun _ => (#[] : Array Value))) hS rfl
  have oth : ∀ b o, b ≠ S → s.heap.get? b = some o → (s.heap.update S (Obj.mapSeq (fun _ => (#[] : Array Value)))).get? b = some o := fun b o hb e => (Heap.get?_update_other _ _ (Ne.symm hb)).trans e
  refine wpAny_bind (wpAny_letGo ?_)
  obtain ⟨ol, hol, cl⟩ := id hl
  exact ext_rev (s := { s with heap := s.heap.update S (Obj.mapSeq (fun _ => (#[] : Array Value))) }) hh (hit.at fun o e => oth it o hSi.symm e) ⟨ol, oth l ol hSl.symm hol, cl⟩ hne hn hS2 hSi hSl fun h' tk acc c hk => hR h' tk acc c fun b o hb hi e => hk b o hb hi (oth b o hb e)
theorem list_rev {it l : Addr} {items : Array Value} {Q : Value → Shared → Prop} (hh : A.handled = none) (hit : s.heap.IsRevIter it l ((items.size : Int) - 1)) (hl : s.heap.IsList l items) (hne : l ≠ it) (hn : items.size ≤ sizeLine)
    (hQ : ∀ (h' : Heap) (tk : Nat) (acc : Array Value) (c : Nat), (∀ b o, b ≠ it → s.heap.get? b = some o → h'.get? b = some o) → h'.get? s.heap.objs.size = some { cls := .type "list", dict := none, data := .seq acc c, slots := #[] } →
      ItemsOf (fun i v => items[items.size - 1 - i]? = some v) acc items.size → Q (.ref s.heap.objs.size) { s with heap := h', toks := tk }) :
    wpAny (model prog w) A (call (.type "list") [.ref it]) Q E s := by
  refine callType_codes (Q₁ := fun obj s₁ => obj = .ref s.heap.objs.size ∧ s₁ = { s with heap := s.heap.push { cls := .type "list", data := .seq #[] } }) PySem.F.called_list (PySem.F.typeCall_list_1 _) PySem.F.entry_list_init
    (code_list_new _ ⟨rfl, rfl⟩) fun obj s1 h1 => ?_
  obtain ⟨rfl, rfl⟩ := h1
  have hS : (s.heap.push { cls := .type "list", data := .seq #[] }).get? s.heap.objs.size = some { cls := .type "list", data := .seq #[] } := Heap.get?_push_size _ rfl
  obtain ⟨oi, hoi, _⟩ := id hit
  obtain ⟨ol, hol, _⟩ := id hl
  refine ⟨⟨_, hS, rfl⟩, PySem.F.args_list_init_2 _ _, init_rev (A := A.in1) (s := { s with heap := s.heap.push { cls := .type "list", data := .seq #[] } }) hh (hit.at fun o e => Heap.get?_push_of_some _ e) (hl.push _) hne hn hS (Nat.ne_of_gt (Heap.lt_size hoi)) (Nat.ne_of_gt (Heap.lt_size hol)) (fun h' tk acc c hk hS' hacc => ?_)⟩
  exact ⟨rfl, hQ h' tk acc c (fun b o hi e => hk b o (Nat.ne_of_lt (Heap.lt_size e)) hi (Heap.get?_push_of_some _ e)) hS' hacc⟩
end
section
variable {X : Cx}
/-- list(reversed(xs)) of a tracked list: a new list -/
def tListRev (te : TE) : TE := fun σ H Q => te σ H fun v H1 => ∃ (a : Addr) (xs : List V), v = .ref a ∧ H1 a = some (.lst xs) ∧ ∀ q, H1 q = none → Q (.ref q) (upd H1 q (.lst xs.reverse))
theorem pe_listRev {e : Expr} {te : TE} {p p2 pos pos2 : Pos} (hc : X.calm = true) (hg : Gl X "list") (hm : X.mg "list" = none) (hg2 : Gl X "reversed") (hm2 : X.mg "reversed" = none) (he : PE X e te)
    (hs : starEach [e] X.env = (false, eval e X.env) :: starEach [] X.env := by rfl)
    (hs2 : starEach [.Call (.Name "reversed" p2) [e] [] pos2] X.env = (false, eval (.Call (.Name "reversed" p2) [e] [] pos2) X.env) :: starEach [] X.env := by rfl) :
    PE X (.Call (.Name "list" p) [.Call (.Name "reversed" p2) [e] [] pos2] [] pos) (tListRev te) := by
  refine ⟨fun pins s σ H Q I h => ?_⟩
  refine Call_ (ld_blt I hg hm boot_list (PyProof.Rows.callWith_type1 (args_cons (Call_ (ld_blt I hg2 hm2 PyProof.Rows.boot_reversed (PyProof.Rows.callWith_type1 (args_cons (thn (he.run pins s σ H _ I h) fun u s1 ⟨v, H1, I1, r1, q1⟩ => args_nil ?_) hs) hs rfl))) hs2) hs2 rfl))
  obtain ⟨a, xs, ev, hq, q⟩ := q1
  subst ev
  obtain rfl : u = Value.ref a := r1
  obtain ⟨its, rv, p', hz⟩ := I1.list (SqL.of hq)
  refine call_reversed_list p'.isList (args_nil ?_)
  have I2 : Inv X pins σ H1 { s1 with heap := s1.heap.push (revObj a ((its.toArray.size : Int) - 1)) } := I1.kept (t' := s1.toks) fun b o e => Heap.get?_push_of_some _ e
  obtain ⟨f0, f1, f2, f3, f4, f5⟩ := I1.fpOk (H' := H1) (b := s1.heap.objs.size) (Nat.le_refl _) (I1.hok.fresh (Nat.le_refl _))
  have hl := p'.isList
  obtain ⟨ol, hol, _⟩ := id hl
  have hn : its.toArray.size ≤ sizeLine := by rw [List.size_toArray, ← rv.length]; exact hz
  refine list_rev (s := { s1 with heap := s1.heap.push (revObj a ((its.toArray.size : Int) - 1)) }) (I1.ok.hd hc) ⟨_, Heap.get?_push_size _ rfl, rfl, rfl⟩ (hl.push _) (Nat.ne_of_lt (Heap.lt_size hol)) hn fun h' tk acc c hk hS hi => ?_
  have I3 : Inv X pins σ H1 { s1 with heap := h', toks := tk } := I2.turned (t' := tk) (fun b o hb e => hk b o hb e) f0 f1 f3 f4 f5
  have zz : s1.heap.objs.size ≤ (s1.heap.push (revObj a ((its.toArray.size : Int) - 1))).objs.size := by rw [Heap.size_push]; exact Nat.le_succ _
  have hnone : H1 (s1.heap.push (revObj a ((its.toArray.size : Int) - 1))).objs.size = none := I1.hok.fresh zz
  refine ⟨.ref (s1.heap.push (revObj a ((its.toArray.size : Int) - 1))).objs.size, upd H1 (s1.heap.push (revObj a ((its.toArray.size : Int) - 1))).objs.size (.lst xs.reverse), I3.take (h' := h') (t' := tk) (fun b ob _ e => e) (I2.fpOk (Nat.le_refl _) hnone) ⟨by rw [List.length_reverse]; exact hz, acc.toList, c, vals_rev rv hi, ?_⟩, rfl, q _ hnone⟩
  rw [Array.toArray_toList]
  exact hS
end
end Rd
set_option Elab.async false
set_option linter.all false
set_option maxRecDepth 100000
set_option maxHeartbeats 4000000
/-! Rules of our own, seventh part: list(zip(a, b)). -/
namespace Rd
open PySem PySem.Spec PyProof.Rows L2
theorem nolen_zip : typeLookup (.type "zip") "__len__" = pure none := by rw [typeLookup_type, builtinLookup_eq_fast]; kernel_rfl
theorem nohint_zip : typeLookup (.type "zip") "__length_hint__" = pure none := by rw [typeLookup_type, builtinLookup_eq_fast]; kernel_rfl
/-- how a zip stands whose pairs are kept: fresh, or its last pair is out (far above) -/
def ZC (h : Heap) (S z TI TO : Addr) : Prop := (IsZip h z TI TO .none ∧ ∃ a b, IsTupOf2 h TO a b) ∨ ∃ T f oT, IsZipHeld h z TI TO T f ∧ h.get? T = some oT ∧ z < T ∧ T ≠ S
section
variable {prog : Program} {w : World} {A : Around} {E : Value → Shared → Prop} {s : Shared} {S z TI TO i1 i2 : Addr} {fp1 fp2 : List Addr} {n i : Nat} {P1 P2 : Nat → Value → Prop} {St1 St2 : Nat → Heap → Prop}
theorem ZC.keep {h h' : Heap} (x : ZC h S z TI TO) (k : ∀ b o, b ≠ S → h.get? b = some o → h'.get? b = some o) (hz : z ≠ S) (hO : TO ≠ S) : ZC h' S z TI TO := by
  rcases x with ⟨a, b, c, d⟩ | ⟨T, f, oT, a, b, c, d⟩
  · exact .inl ⟨k _ _ hz a, b, c, k _ _ hO d⟩
  · exact .inr ⟨T, f, oT, k _ _ hz a, k _ _ d b, c, d⟩
theorem held_item {T : Addr} {f : Bool} {oT : Obj} {Q : Value → Shared → Prop} (D : ZipSep2 z TI TO i1 i2 fp1 fp2) (D1 : Draws prog w A i1 fp1 n P1 St1) (D2 : Draws prog w A i2 fp2 n P2 St2)
    (hz : IsZipHeld s.heap z TI TO T f) (hT : s.heap.get? T = some oT) (hTI : IsTupOf2 s.heap TI (.ref i1) (.ref i2)) (t1 : St1 i s.heap) (t2 : St2 i s.heap) (hi : i < n)
    (hQ : ∀ x y h' tk, P1 i x → P2 i y → IsZipHeld h' z TI TO T true → St1 (i + 1) h' → St2 (i + 1) h' → IsTupOf2 h' s.heap.objs.size x y → h'.objs.size = s.heap.objs.size + 1 →
      (∀ c o, c ≠ z → c ≠ i1 → c ≠ i2 → s.heap.get? c = some o → h'.get? c = some o) → Q (.ref s.heap.objs.size) { s with heap := h', toks := tk }) :
    wpAny (model prog w) A (Builtin.«zip.__next__» ⟨[.ref z], []⟩) (fun fin s' => ∃ v, fin = .done (.ret v) ∧ Q v s') E s := by
  show wpAny _ _ (field (.ref z) 2 >>= _) _ _ _
  refine wpAny_bind (wpAny_field hz rfl (x := .bool false) rfl ?_)
  show wpAny _ _ (field (.ref z) 3 >>= _) _ _ _
  refine wpAny_bind (wpAny_field hz rfl (x := .ref TI) rfl ?_)
  refine wpAny_bind (wpAny_seqItems hTI rfl ?_)
  show wpAny _ _ (Builtin.SmallTypes.ownedTupleIsFree (.ref z) >>= _) _ _ _
  refine wpAny_bind (wpAny_tupleHeld_zip hz hT fun g1 hz1 hs1 => ?_)
  simp only [Bool.false_eq_true, if_false]
  refine wpAny_bind ?_
  rw [← Array.forIn_toList]
  simp only [List.forIn_cons, List.forIn_nil]
  refine wpAny_bind (wpAny_bind (wpAny_holding ?_))
  show wpAny _ _ (Builtin.SmallTypes.nextOf (.ref i1) >>= _) _ _ _
  refine wpAny_bind (D1.item i { s with heap := g1 } _ _ hi (D1.over t1 hs1 D.zf1) fun x g2 k2 px u1 hs2 => wpAny_pure ?_)
  refine wpAny_pure ?_
  refine wpAny_bind (wpAny_bind (wpAny_holding ?_))
  show wpAny _ _ (Builtin.SmallTypes.nextOf (.ref i2) >>= _) _ _ _
  refine wpAny_bind (D2.item i { s with heap := g2, toks := k2 } _ _ hi (D2.over (D2.over t2 hs1 D.zf2) hs2 D.sep1_2) fun y g3 k3 py u2 hs3 => wpAny_pure ?_)
  refine wpAny_pure (wpAny_pure ?_)
  show wpAny _ _ (newTuple [x, y] >>= _) _ _ _
  refine wpAny_bind (wpAny_newTuple ?_)
  replace hs1 : Heap.SameBut z s.heap g1 := hs1
  replace hs2 : Heap.SameBut i1 g1 g2 := hs2
  replace hs3 : Heap.SameBut i2 g2 g3 := hs3
  have sz : g3.objs.size = s.heap.objs.size := by rw [hs3.1, hs2.1, hs1.1]
  have hz3 : IsZipHeld g3 z TI TO T true := hs3.extBut _ _ D.zi2 (hs2.extBut _ _ D.zi1 hz1)
  have kp : ∀ c o, c ≠ z → c ≠ i1 → c ≠ i2 → s.heap.get? c = some o → g3.get? c = some o := fun c o c1 c2 c3 e => hs3.extBut _ _ c3 (hs2.extBut _ _ c2 (hs1.extBut _ _ c1 e))
  refine wpAny_pure ⟨_, rfl, ?_⟩
  show Q (.ref g3.objs.size) _
  have hp : IsTupOf2 (g3.push { cls := .type "tuple", data := .seq #[x, y] }) g3.objs.size x y := Heap.get?_push_size _ rfl
  have z4 : (g3.push { cls := .type "tuple", data := .seq #[x, y] }).objs.size = g3.objs.size + 1 := Heap.size_push ..
  rw [sz] at hp z4 ⊢
  exact hQ x y _ k3 px py (Heap.get?_push_of_some _ hz3) (D1.frame _ _ _ (D1.over u1 hs3 D.sep2_1) fun b _ o e => Heap.get?_push_of_some _ e) (D2.frame _ _ _ u2 fun b _ o e => Heap.get?_push_of_some _ e) hp z4 fun c o c1 c2 c3 e => Heap.get?_push_of_some _ (kp c o c1 c2 c3 e)
theorem held_end {T : Addr} {f : Bool} {oT : Obj} {Q : Fin → Shared → Prop} (D : ZipSep2 z TI TO i1 i2 fp1 fp2) (D1 : Draws prog w A i1 fp1 n P1 St1)
    (hz : IsZipHeld s.heap z TI TO T f) (hT : s.heap.get? T = some oT) (hTI : IsTupOf2 s.heap TI (.ref i1) (.ref i2)) (t1 : St1 n s.heap)
    (hE : ∀ h' e, (∀ c o, c ≠ z → c ≠ i1 → s.heap.get? c = some o → h'.get? c = some o) → (∃ o, h'.get? e = some o ∧ o.cls = .type "StopIteration") → E (.ref e) { s with heap := h' }) :
    wpAny (model prog w) A (Builtin.«zip.__next__» ⟨[.ref z], []⟩) Q E s := by
  show wpAny _ _ (field (.ref z) 2 >>= _) _ _ _
  refine wpAny_bind (wpAny_field hz rfl (x := .bool false) rfl ?_)
  show wpAny _ _ (field (.ref z) 3 >>= _) _ _ _
  refine wpAny_bind (wpAny_field hz rfl (x := .ref TI) rfl ?_)
  refine wpAny_bind (wpAny_seqItems hTI rfl ?_)
  show wpAny _ _ (Builtin.SmallTypes.ownedTupleIsFree (.ref z) >>= _) _ _ _
  refine wpAny_bind (wpAny_tupleHeld_zip hz hT fun g1 hz1 hs1 => ?_)
  simp only [Bool.false_eq_true, if_false]
  refine wpAny_bind ?_
  rw [← Array.forIn_toList]
  simp only [List.forIn_cons, List.forIn_nil]
  refine wpAny_bind (wpAny_bind (wpAny_holding ?_))
  show wpAny _ _ (Builtin.SmallTypes.nextOf (.ref i1) >>= _) _ _ _
  refine wpAny_bind (D1.done { s with heap := g1 } _ _ (D1.over t1 hs1 D.zf1) fun g2 e hs2 he => ?_)
  exact hE g2 e (fun c o c1 c2 x => hs2 _ _ c2 (hs1.extBut _ _ c1 x)) he
/-- the next pair, kept -/
theorem zc_item {Q : Option Value → Shared → Prop} (D : ZipSep2 z TI TO i1 i2 fp1 fp2) (D1 : Draws prog w A.in1 i1 fp1 n P1 St1) (D2 : Draws prog w A.in1 i2 fp2 n P2 St2)
    (zc : ZC s.heap S z TI TO) (hS : S < s.heap.objs.size) (hl1 : i1 < z) (hl2 : i2 < z) (hTI : IsTupOf2 s.heap TI (.ref i1) (.ref i2)) (t1 : St1 i s.heap) (t2 : St2 i s.heap) (hi : i < n)
    (hQ : ∀ x y h' tk, P1 i x → P2 i y → ZC h' S z TI TO → St1 (i + 1) h' → St2 (i + 1) h' → IsTupOf2 h' s.heap.objs.size x y → h'.objs.size = s.heap.objs.size + 1 →
      (∀ c o, c ≠ z → c ≠ TO → c ≠ i1 → c ≠ i2 → s.heap.get? c = some o → h'.get? c = some o) → Q (some (.ref s.heap.objs.size)) { s with heap := h', toks := tk }) :
    wpAny (model prog w) A (pyNext (.ref z)) Q E s := by
  rcases zc with ⟨hz, a, b, hTO⟩ | ⟨T, f, oT, hz, hT, hzT, hTS⟩
  · refine wpAny_pyNext_zipD2_item D D1 D2 hz hTI hTO t1 t2 hi hi fun x y h' tk px py hz' hTO' u1 u2 hN sz kp => hQ x y h' tk px py ?_ u1 u2 hN sz kp
    exact .inr ⟨s.heap.objs.size, false, _, hz', hN, Heap.lt_size hz, (Nat.ne_of_lt hS).symm⟩
  · have hTy : s.TypeIs (.ref z) "zip" := ⟨_, hz, rfl⟩
    unfold pyNext
    refine wpAny_bind (wpAny_attempt (wpAny_callSpecial?_slot (name := Str.ofString "__next__") hTy PySem.F.slot_zip_next (wpAny_call_entry PySem.F.slot_zip_next hTy PySem.F.entry_zip_next ?_ (PySem.F.args_zip_next_1 _))))
    refine held_item D D1 D2 hz hT hTI t1 t2 hi fun x y h' tk px py hz' u1 u2 hN sz kp => wpAny_pure (hQ x y h' tk px py ?_ u1 u2 hN sz fun c o c1 _ c3 c4 e => kp c o c1 c3 c4 e)
    exact .inr ⟨T, true, oT, hz', kp _ _ (Nat.ne_of_gt hzT) (Nat.ne_of_gt (Nat.lt_trans hl1 hzT)) (Nat.ne_of_gt (Nat.lt_trans hl2 hzT)) hT, hzT, hTS⟩
theorem zc_end {Q : Option Value → Shared → Prop} (D : ZipSep2 z TI TO i1 i2 fp1 fp2) (D1 : Draws prog w A.in1 i1 fp1 n P1 St1) (D2 : Draws prog w A.in1 i2 fp2 n P2 St2)
    (zc : ZC s.heap S z TI TO) (hTI : IsTupOf2 s.heap TI (.ref i1) (.ref i2)) (t1 : St1 n s.heap) (t2 : St2 n s.heap)
    (hQ : ∀ h' tk, (∀ c o, c ≠ z → c ≠ TO → c ≠ i1 → c ≠ i2 → s.heap.get? c = some o → h'.get? c = some o) → Q none { s with heap := h', toks := tk }) :
    wpAny (model prog w) A (pyNext (.ref z)) Q E s := by
  rcases zc with ⟨hz, a, b, hTO⟩ | ⟨T, f, oT, hz, hT, hzT, hTS⟩
  · exact wpAny_pyNext_zipD2_end D D1 D2 hz hTI hTO t1 t2 (Nat.le_refl _) (Nat.le_refl _) (.inl rfl) fun h' tk kp => hQ h' tk kp
  · have hTy : s.TypeIs (.ref z) "zip" := ⟨_, hz, rfl⟩
    unfold pyNext
    refine wpAny_bind (wpAny_attempt (wpAny_callSpecial?_slot (name := Str.ofString "__next__") hTy PySem.F.slot_zip_next (wpAny_call_entry PySem.F.slot_zip_next hTy PySem.F.entry_zip_next (held_end D D1 hz hT hTI t1 fun h' e kp he => ?_) (PySem.F.args_zip_next_1 _))))
    obtain ⟨o, ho, hc⟩ := he
    refine wpAny_bind (wpAny_isInstance (T := "StopIteration") (b := true) ⟨o, ho, hc⟩ isSubtype_stop ?_)
    exact wpAny_pure (hQ _ s.toks fun c o c1 _ c3 _ e => kp c o c1 c3 e)
/-- the pairs that were made -/
structure ZD (P1 P2 : Nat → Value → Prop) (lo : Addr) (h : Heap) (as : List Addr) : Prop where
  rise : as.Pairwise (· < ·)
  above : ∀ a ∈ as, lo < a
  pairs : ∀ (j : Nat) (a : Addr), as[j]? = some a → ∃ x y, P1 j x ∧ P2 j y ∧ h.get? a = some { cls := .type "tuple", data := .seq #[x, y] }
theorem ZD.there {lo : Addr} {h : Heap} {as : List Addr} (g : ZD P1 P2 lo h as) {a : Addr} (ha : a ∈ as) : a < h.objs.size := by
  obtain ⟨j, hj⟩ := List.mem_iff_getElem?.mp ha
  obtain ⟨_, _, _, _, e⟩ := g.pairs j a hj
  exact Heap.lt_size e
/-- all lies below the new list -/
structure ZB (S z TI TO i1 i2 : Addr) (fp1 fp2 : List Addr) : Prop where
  zS : z < S
  TIz : TI < z
  TOz : TO < z
  i1z : i1 < z
  i2z : i2 < z
  f1 : ∀ b ∈ fp1, b < S
  f2 : ∀ b ∈ fp2, b < S
theorem zl_loop {R : Result → Shared → Prop} (D : ZipSep2 z TI TO i1 i2 fp1 fp2) (D1 : Draws prog w A.in1.in1 i1 fp1 n P1 St1) (D2 : Draws prog w A.in1.in1 i2 fp2 n P2 St2) (B : ZB S z TI TO i1 i2 fp1 fp2) (hn : n ≤ sizeLine) (res : Value) {h0 : Heap}
    (hR : ∀ h' tk acc c as, (∀ b o, S ≠ b → b ∉ [z, TO, i1, i2] → h0.get? b = some o → h'.get? b = some o) → h'.get? S = some { cls := .type "list", dict := none, data := .seq acc c, slots := #[] } → as.length = n → ZD P1 P2 S h' as →
      acc.toList = as.map Value.ref → R (.ok (.ret res)) { s with heap := h', toks := tk }) :
    ∀ (k i : Nat) (h : Heap) (tk c : Nat) (acc : Array Value) (as : List Addr), n - i = k → i ≤ n → ZC h S z TI TO → IsTupOf2 h TI (.ref i1) (.ref i2) → St1 i h → St2 i h → (∀ b o, S ≠ b → b ∉ [z, TO, i1, i2] → h0.get? b = some o → h.get? b = some o) →
      h.get? S = some { cls := .type "list", dict := none, data := .seq acc c, slots := #[] } → acc.toList = as.map Value.ref → as.length = i → ZD P1 P2 S h as →
      codeAny (model prog w) A (.builtin "list.extend.loop" ⟨[.ref S, .ref z, res], []⟩) R { s with heap := h, toks := tk } := by
  have nz : S ≠ z := Nat.ne_of_gt B.zS
  have nTI : S ≠ TI := Nat.ne_of_gt (Nat.lt_trans B.TIz B.zS)
  have nTO : S ≠ TO := Nat.ne_of_gt (Nat.lt_trans B.TOz B.zS)
  have n1 : S ≠ i1 := Nat.ne_of_gt (Nat.lt_trans B.i1z B.zS)
  have n2 : S ≠ i2 := Nat.ne_of_gt (Nat.lt_trans B.i2z B.zS)
  have hiS : ∀ {a : Addr}, S < a → a ≠ z ∧ a ≠ TO ∧ a ≠ i1 ∧ a ≠ i2 := fun {a} q => ⟨Nat.ne_of_gt (Nat.lt_trans B.zS q), Nat.ne_of_gt (Nat.lt_trans (Nat.lt_trans B.TOz B.zS) q), Nat.ne_of_gt (Nat.lt_trans (Nat.lt_trans B.i1z B.zS) q), Nat.ne_of_gt (Nat.lt_trans (Nat.lt_trans B.i2z B.zS) q)⟩
  have off : ∀ {b : Addr}, b ∉ [z, TO, i1, i2] → b ≠ z ∧ b ≠ TO ∧ b ≠ i1 ∧ b ≠ i2 := fun {b} q => by simpa using q
  intro k
  induction k with
  | zero =>
    intro i h tk c acc as hk hi zc hTI t1 t2 keep hS hacc hal hG
    have e : i = n := by omega
    subst e
    refine codeAny_builtin PySem.F.entry_extend_loop ?_
    rw [Around.under_plainId PySem.F.plain_extend_loop _]
    show wpAny _ A.in1 (pyNext (.ref z) >>= _) _ _ _
    refine wpAny_bind (zc_end (s := { s with heap := h, toks := tk }) (A := A.in1) D D1 D2 zc hTI t1 t2 fun h' tk' kp => ?_)
    replace kp : ∀ c o, c ≠ z → c ≠ TO → c ≠ i1 → c ≠ i2 → h.get? c = some o → h'.get? c = some o := kp
    refine wpAny_pure (hR h' tk' acc c as (fun b o b1 b2 e => ?_) (kp _ _ nz nTO n1 n2 hS) hal ⟨hG.rise, hG.above, fun j a hj => ?_⟩ hacc)
    · obtain ⟨q1, q2, q3, q4⟩ := off b2
      exact kp b o q1 q2 q3 q4 (keep b o b1 b2 e)
    · obtain ⟨x, y, px, py, e⟩ := hG.pairs j a hj
      obtain ⟨q1, q2, q3, q4⟩ := hiS (hG.above a (List.mem_of_getElem? hj))
      exact ⟨x, y, px, py, kp a _ q1 q2 q3 q4 e⟩
  | succ k ih =>
    intro i h tk c acc as hk hi zc hTI t1 t2 keep hS hacc hal hG
    have hlt : i < n := by omega
    have hsz : acc.size = i := by rw [← Array.length_toList, hacc, List.length_map, hal]
    refine codeAny_builtin PySem.F.entry_extend_loop ?_
    rw [Around.under_plainId PySem.F.plain_extend_loop _]
    show wpAny _ A.in1 (pyNext (.ref z) >>= _) _ _ _
    have hSl : S < h.objs.size := Heap.lt_size hS
    refine wpAny_bind (zc_item (s := { s with heap := h, toks := tk }) (S := S) D D1 D2 zc hSl B.i1z B.i2z hTI t1 t2 hlt fun x y h' tk' px py zc' u1 u2 ht hz kp => ?_)
    dsimp only at ht hz kp ⊢
    have hS1 := kp S _ nz nTO n1 n2 hS
    have up : ∀ b o, S ≠ b → h'.get? b = some o → (h'.update S (Obj.mapSeq (·.push (Value.ref h.objs.size)))).get? b = some o := fun b o hb e => (Heap.get?_update_other _ _ hb).trans e
    show wpAny _ A.in1 (updateSeq S (·.push (Value.ref h.objs.size)) >>= _) _ _ _
    refine wpAny_bind ?_
    refine wpAny_updateSeq hS1 rfl (wpAny_pure ⟨plainId_quiet PySem.F.plain_extend_loop _, ih (i + 1) _ tk' _ (acc.push (Value.ref h.objs.size)) (as ++ [h.objs.size]) (by omega) hlt (zc'.keep (fun b o hb e => up b o hb.symm e) nz.symm nTO.symm) (up _ _ nTI (kp _ _ D.TIz D.TITO D.TIi1 D.TIi2 hTI))
      (D1.frame _ _ _ u1 fun b hb o e => up b o (Nat.ne_of_gt (B.f1 b hb)) e) (D2.frame _ _ _ u2 fun b hb o e => up b o (Nat.ne_of_gt (B.f2 b hb)) e)
      (fun b o b1 b2 e => ?_) (Heap.get?_update_self _ hS1 rfl) (by rw [Array.toList_push, hacc, List.map_append]; rfl) (by rw [List.length_append, hal]; rfl) ⟨?_, ?_, ?_⟩⟩) (by rw [hsz]; omega) (by show (acc.push (Value.ref h.objs.size)).size ≤ sizeLine + 1; rw [Array.size_push, hsz]; omega)
    · obtain ⟨q1, q2, q3, q4⟩ := off b2
      exact up b o b1 (kp b o q1 q2 q3 q4 (keep b o b1 b2 e))
    · refine List.pairwise_append.mpr ⟨hG.rise, List.pairwise_singleton _ _, fun a ha b hb => ?_⟩
      rw [List.mem_singleton.mp hb]
      exact hG.there ha
    · intro a ha
      rcases List.mem_append.mp ha with ha | ha
      · exact hG.above a ha
      · rw [List.mem_singleton.mp ha]
        exact hSl
    · intro j b hj
      rcases Nat.lt_trichotomy j as.length with q | q | q
      · rw [List.getElem?_append_left q] at hj
        obtain ⟨x', y', px', py', e⟩ := hG.pairs j b hj
        have hb := hG.above b (List.mem_of_getElem? hj)
        obtain ⟨q1, q2, q3, q4⟩ := hiS hb
        exact ⟨x', y', px', py', up b _ (Nat.ne_of_lt hb) (kp b _ q1 q2 q3 q4 e)⟩
      · subst q
        have hb : h.objs.size = b := by simpa using hj
        subst hb
        subst hal
        exact ⟨x, y, px, py, up _ _ (Nat.ne_of_lt hSl) ht⟩
      · have hnone : (as ++ [h.objs.size])[j]? = none := List.getElem?_eq_none (by rw [List.length_append, List.length_singleton]; omega)
        rw [hnone] at hj; cases hj
/-- the new list made long by a zip -/
theorem zl_ext {R : Result → Shared → Prop} (D : ZipSep2 z TI TO i1 i2 fp1 fp2) (D1 : Draws prog w A.in1.in1 i1 fp1 n P1 St1) (D2 : Draws prog w A.in1.in1 i2 fp2 n P2 St2) (B : ZB S z TI TO i1 i2 fp1 fp2) (hn : n ≤ sizeLine) (res : Value) {c0 : Nat} {a1 a2 : Value}
    (hz : IsZip s.heap z TI TO .none) (hTI : IsTupOf2 s.heap TI (.ref i1) (.ref i2)) (hTO : IsTupOf2 s.heap TO a1 a2) (t1 : St1 0 s.heap) (t2 : St2 0 s.heap) (hS : s.heap.get? S = some { cls := .type "list", data := .seq #[] c0 })
    (hR : ∀ h' tk acc c as, (∀ b o, S ≠ b → b ∉ [z, TO, i1, i2] → s.heap.get? b = some o → h'.get? b = some o) → h'.get? S = some { cls := .type "list", dict := none, data := .seq acc c, slots := #[] } → as.length = n → ZD P1 P2 S h' as →
      acc.toList = as.map Value.ref → R (.ok (.ret res)) { s with heap := h', toks := tk }) :
    wpAny (model prog w) A.in1 (Builtin.List.listExtendWith (.ref S) (.ref z) res)
      (fun fin s' => match fin with | .done f => R (.ok f) s' | .again c' => c'.quiet = true ∧ codeAny (model prog w) A c' R s') (fun e s' => R (.error e) s') s := by
  have nz : S ≠ z := Nat.ne_of_gt B.zS
  have nTI : S ≠ TI := Nat.ne_of_gt (Nat.lt_trans B.TIz B.zS)
  have nTO : S ≠ TO := Nat.ne_of_gt (Nat.lt_trans B.TOz B.zS)
  have key : ∀ (h : Heap) (c1 tk : Nat), (∀ b o, S ≠ b → s.heap.get? b = some o → h.get? b = some o) →
      h.get? S = some { cls := .type "list", data := .seq #[] c1 } → codeAny (model prog w) A (.builtin "list.extend.loop" ⟨[.ref S, .ref z, res], []⟩) R { s with heap := h, toks := tk } := by
    intro h c1 tk hk hS1
    exact zl_loop (h0 := s.heap) D D1 D2 B hn res hR n 0 h tk c1 #[] [] (Nat.sub_zero _) (Nat.zero_le _) (.inl ⟨hk _ _ nz hz, a1, a2, hk _ _ nTO hTO⟩) (hk _ _ nTI hTI) (D1.frame _ _ _ t1 fun b hb o e => hk b o (Nat.ne_of_gt (B.f1 b hb)) e) (D2.frame _ _ _ t2 fun b hb o e => hk b o (Nat.ne_of_gt (B.f2 b hb)) e)
      (fun b o b1 _ e => hk b o b1 e) hS1 rfl rfl ⟨List.Pairwise.nil, (fun _ ha => nomatch ha), (fun j a hj => by simp at hj)⟩
  have hT : s.TypeIs (.ref z) "zip" := ⟨_, hz, rfl⟩
  unfold Builtin.List.listExtendWith
  refine wpAny_bind (wpAny_typeOf (T := "zip") hT ?_)
  have e1 : Builtin.List.listSameRef (.ref S) (.ref z) = false := by simp [Builtin.List.listSameRef, nz]
  rw [if_neg (by rw [e1]; decide)]
  refine wpAny_bind (wpAny_pyIter_zip hz ?_)
  refine wpAny_bind (wpAny_holding ?_)
  unfold Builtin.List.listLengthHint
  refine wpAny_bind (wpAny_specialOf hT nolen_zip ?_)
  show wpAny _ A.in1 (specialOf (Value.ref z) (Str.ofString "__length_hint__") >>= _) _ _ _
  refine wpAny_bind (wpAny_specialOf hT nohint_zip ?_)
  refine wpAny_pure ?_
  refine wpAny_ite_split (fun _ => ?_) (fun _ => wpAny_pure ⟨plainId_quiet PySem.F.plain_extend_loop _, key _ c0 _ (fun b o _ e => e) hS⟩)
  refine wpAny_bind (wpAny_rule ?_)
  refine wpAny_bind ?_
  show wpAny _ _ (updateSeq S (·.push .none) >>= fun _ => updateSeq S (·.pop)) _ _ _
  refine wpAny_bind (wpAny_updateSeq hS rfl ?_)
  have hS2 := Heap.get?_update_self (Obj.mapSeq (·.push Value.none)) hS rfl
  refine wpAny_updateSeq (hz := by seq_fits) hS2 rfl ?_
  have hS3 := Heap.get?_update_self (Obj.mapSeq (·.pop)) hS2 rfl
  refine wpAny_pure ⟨plainId_quiet PySem.F.plain_extend_loop _, key _ _ _ (fun b o hb e => ?_) hS3⟩
  exact (Heap.get?_update_other _ _ hb).trans ((Heap.get?_update_other _ _ hb).trans e)
theorem zl_init {R : Result → Shared → Prop} (D : ZipSep2 z TI TO i1 i2 fp1 fp2) (D1 : Draws prog w A.in1.in1 i1 fp1 n P1 St1) (D2 : Draws prog w A.in1.in1 i2 fp2 n P2 St2) (B : ZB S z TI TO i1 i2 fp1 fp2) (hn : n ≤ sizeLine) {a1 a2 : Value}
    (hz : IsZip s.heap z TI TO .none) (hTI : IsTupOf2 s.heap TI (.ref i1) (.ref i2)) (hTO : IsTupOf2 s.heap TO a1 a2) (t1 : St1 0 s.heap) (t2 : St2 0 s.heap) (hS : s.heap.get? S = some { cls := .type "list", data := .seq #[] })
    (hR : ∀ h' tk acc c as, (∀ b o, S ≠ b → b ∉ [z, TO, i1, i2] → s.heap.get? b = some o → h'.get? b = some o) → h'.get? S = some { cls := .type "list", dict := none, data := .seq acc c, slots := #[] } → as.length = n → ZD P1 P2 S h' as →
      acc.toList = as.map Value.ref → R (.ok (.ret .none)) { s with heap := h', toks := tk }) :
    wpAny (model prog w) A.in1 (Builtin.«list.__init__» ⟨[.ref S, .ref z], []⟩)
      (fun fin s' => match fin with | .done f => R (.ok f) s' | .again c' => c'.quiet = true ∧ codeAny (model prog w) A c' R s') (fun e s' => R (.error e) s') s := by
  show wpAny _ _ (do let old ← Builtin.List.listItems (.ref S); Builtin.List.listUpdate (.ref S) (fun _ => #[]); letGo old.toList.reverse; Builtin.List.listExtendWith (.ref S) (.ref z) .none) _ _ s
  refine wpAny_bind ?_
  unfold Builtin.List.listItems
  refine wpAny_bind (wpAny_seqItems hS rfl (wpAny_pure ?_))
  show wpAny _ _ (updateSeq S (fun _ => #[]) >>= fun _ => letGo (#[] : Array Value).toList.reverse >>= fun _ => Builtin.List.listExtendWith (.ref S) (.ref z) .none) _ _ s
  refine wpAny_bind (wpAny_updateSeq hS rfl ?_)
  have hS2 := Heap.get?_update_self (Obj.mapSeq (fun _ => (#[] : Array Value))) hS rfl
  have oth : ∀ b o, S ≠ b → s.heap.get? b = some o → (s.heap.update S (Obj.mapSeq (fun _ => (#[] : Array Value)))).get? b = some o := fun b o hb e => (Heap.get?_update_other _ _ hb).trans e
  refine wpAny_bind (wpAny_letGo ?_)
  have nz : S ≠ z := Nat.ne_of_gt B.zS
  have nTI : S ≠ TI := Nat.ne_of_gt (Nat.lt_trans B.TIz B.zS)
  have nTO : S ≠ TO := Nat.ne_of_gt (Nat.lt_trans B.TOz B.zS)
  exact zl_ext (s := { s with heap := s.heap.update S (Obj.mapSeq (fun _ => (#[] : Array Value))) }) D D1 D2 B hn .none (oth _ _ nz hz) (oth _ _ nTI hTI) (oth _ _ nTO hTO) (D1.frame _ _ _ t1 fun b hb o e => oth b o (Nat.ne_of_gt (B.f1 b hb)) e) (D2.frame _ _ _ t2 fun b hb o e => oth b o (Nat.ne_of_gt (B.f2 b hb)) e) hS2
    fun h' tk acc c as hk => hR h' tk acc c as fun b o b1 b2 e => hk b o b1 b2 (oth b o b1 e)
theorem list_zip {Q : Value → Shared → Prop} (D : ZipSep2 z TI TO i1 i2 fp1 fp2) (D1 : Draws prog w A.in1.in1.in1 i1 fp1 n P1 St1) (D2 : Draws prog w A.in1.in1.in1 i2 fp2 n P2 St2) (B : ZB s.heap.objs.size z TI TO i1 i2 fp1 fp2) (hn : n ≤ sizeLine) {a1 a2 : Value}
    (hz : IsZip s.heap z TI TO .none) (hTI : IsTupOf2 s.heap TI (.ref i1) (.ref i2)) (hTO : IsTupOf2 s.heap TO a1 a2) (t1 : St1 0 s.heap) (t2 : St2 0 s.heap)
    (hQ : ∀ h' tk acc c as, (∀ b o, b ∉ [z, TO, i1, i2] → s.heap.get? b = some o → h'.get? b = some o) → h'.get? s.heap.objs.size = some { cls := .type "list", dict := none, data := .seq acc c, slots := #[] } → as.length = n → ZD P1 P2 s.heap.objs.size h' as →
      acc.toList = as.map Value.ref → Q (.ref s.heap.objs.size) { s with heap := h', toks := tk }) :
    wpAny (model prog w) A (call (.type "list") [.ref z]) Q E s := by
  refine callType_codes (Q₁ := fun obj s₁ => obj = .ref s.heap.objs.size ∧ s₁ = { s with heap := s.heap.push { cls := .type "list", data := .seq #[] } }) PySem.F.called_list (PySem.F.typeCall_list_1 _) PySem.F.entry_list_init
    (code_list_new _ ⟨rfl, rfl⟩) fun obj s1 h1 => ?_
  obtain ⟨rfl, rfl⟩ := h1
  have hS : (s.heap.push { cls := .type "list", data := .seq #[] }).get? s.heap.objs.size = some { cls := .type "list", data := .seq #[] } := Heap.get?_push_size _ rfl
  have ps : ∀ b o, s.heap.get? b = some o → (s.heap.push { cls := .type "list", data := .seq #[] }).get? b = some o := fun b o e => Heap.get?_push_of_some _ e
  refine ⟨⟨_, hS, rfl⟩, PySem.F.args_list_init_2 _ _, zl_init (A := A.in1) (s := { s with heap := s.heap.push { cls := .type "list", data := .seq #[] } }) D D1 D2 B hn (ps _ _ hz) (ps _ _ hTI) (ps _ _ hTO) (D1.frame _ _ _ t1 fun b _ o e => ps b o e) (D2.frame _ _ _ t2 fun b _ o e => ps b o e) hS fun h' tk acc c as hk hS' hl hG hacc => ?_⟩
  exact ⟨rfl, hQ h' tk acc c as (fun b o b2 e => hk b o (Nat.ne_of_gt (Heap.lt_size e)) b2 (ps b o e)) hS' hl hG hacc⟩
end
end Rd
set_option Elab.async false
set_option linter.all false
set_option maxRecDepth 100000
set_option maxHeartbeats 4000000
/-! Rules of our own, eighth part: list(zip(a, b)) as an expression. -/
namespace Rd
open PySem PySem.Spec PyProof.Rows L2
/-- what zip takes of a tracked list or tuple -/
theorem seq_src {P : Program} {w : World} {H : Hp} {h : Heap} {a : Addr} {xs : List V} (k : HOk P w H h) (q : Sq H a xs) : ∃ (its : List Value) (o : Obj) (G : Heap → Prop), Vals xs its ∧ Begins (.ref a) o G ∧ G h ∧ xs.length ≤ sizeLine ∧ a < h.objs.size ∧
    ∀ (A : Around) (it : Addr), A.handled = none → a ≠ it → ∃ St, Draws P w A it [it, a] its.length (fun i v => its[i]? = some v) St ∧ ∀ h' : Heap, h'.get? it = some o → (∀ b o, h.get? b = some o → h'.get? b = some o) → St 0 h' := by
  rcases q with q | q
  · obtain ⟨z, its, n, rv, e⟩ := k a _ q
    refine ⟨its, _, _, rv, begins_list a its.toArray, ⟨_, e, rfl, n, rfl⟩, z, Heap.lt_size e, fun A it hh hne => ⟨fun i h => h.IsListIter it a i ∧ h.IsList a its.toArray, ?_, fun h' e1 e2 => ?_⟩⟩
    · have D := Draws.list (prog := P) (w := w) (A := A) hh it a hne its.toArray
      simpa using D
    · exact ⟨⟨_, e1, rfl, rfl⟩, ⟨_, e2 _ _ e, rfl, n, rfl⟩⟩
  · obtain ⟨z, its, rv, o, ho, hc, n, hd⟩ := rd_of k q
    refine ⟨its, _, _, rv, begins_tuple a its.toArray, ⟨o, ho, hc, n, hd⟩, z, Heap.lt_size ho, fun A it hh hne => ⟨fun i h => h.IsTupleIter it a i ∧ h.IsTuple a its.toArray, ?_, fun h' e1 e2 => ?_⟩⟩
    · have D := Draws.tuple (prog := P) (w := w) (A := A) hh it a hne its.toArray
      simpa using D
    · exact ⟨⟨_, e1, rfl, rfl⟩, ⟨o, e2 _ _ ho, hc, n, hd⟩⟩
/-- list(zip(xs, ys)), as long as each other: new pairs in a new list -/
def tListZip (ta : TA) : TE := fun σ H Q => ta σ H fun vs H1 => ∃ a b xs ys, vs = [.ref a, .ref b] ∧ Sq H1 a xs ∧ Sq H1 b ys ∧ xs.length = ys.length ∧
  ∀ (H' : Hp) (l : Addr) (ts : List Addr), Kp [] H1 H' → H1 l = none → H' l = some (.lst (ts.map V.ref)) → ts.length = xs.length → (∀ (j : Nat) (t : Addr), ts[j]? = some t → H1 t = none ∧ ∃ x y, xs[j]? = some x ∧ ys[j]? = some y ∧ H' t = some (.tup [x, y])) → Q (.ref l) H'
theorem pe_listZip {X : Cx} {e e2 : Expr} {ta : TA} {p p2 pos pos2 : Pos} (hc : X.calm = true) (hg : Gl X "list") (hm : X.mg "list" = none) (hg2 : Gl X "zip") (hm2 : X.mg "zip" = none) (ha : PA X [e, e2] ta)
    (hs : starEach [e, e2] X.env = (false, eval e X.env) :: starEach [e2] X.env := by rfl) (hpl : (backTo pos2 (starEach [e2] X.env)).any (·.1) = false := by rfl)
    (hs2 : starEach [.Call (.Name "zip" p2) [e, e2] [] pos2] X.env = (false, eval (.Call (.Name "zip" p2) [e, e2] [] pos2) X.env) :: starEach [] X.env := by rfl) :
    PE X (.Call (.Name "list" p) [.Call (.Name "zip" p2) [e, e2] [] pos2] [] pos) (tListZip ta) := by
  refine ⟨fun pins s σ H Q I h => ?_⟩
  refine Call_ (ld_blt I hg hm boot_list (PyProof.Rows.callWith_type1 (args_cons (Call_ (ld_blt I hg2 hm2 PyProof.Rows.boot_zip (PyProof.Rows.callWith_type1 (thn (ha.run pos2 pins s σ H _ I h) fun us s1 ⟨vs, H1, I1, r1, q1⟩ => ?_) hs hpl))) hs2) hs2 rfl))
  obtain ⟨a, b, xs, ys, ex, qa, qb, hl, q⟩ := q1
  subst ex
  obtain ⟨u1, u2, rfl, r1, r2⟩ := vals2 r1
  cases r1
  cases r2
  obtain ⟨its, o1, G1, rv1, B1, g1, z1, la, S1⟩ := seq_src I1.hok qa
  obtain ⟨its2, o2, G2, rv2, B2, g2, z2, lb, S2⟩ := seq_src I1.hok qb
  have hh := I1.ok.hd hc
  generalize hN : s1.heap.objs.size = N at la lb
  refine zip_begins2 B1 B2 g1 g2 fun h' hz hTI hTO e1 e2 hsz hk => args_nil ?_
  rw [hN] at hz hTI hTO e1 e2 hsz
  obtain ⟨St1, D1, w1⟩ := S1 X.A.in1.in1.in1 N hh (Nat.ne_of_lt la)
  obtain ⟨St2, D2, w2⟩ := S2 X.A.in1.in1.in1 (N + 1) hh (Nat.ne_of_lt (Nat.lt_succ_of_lt lb))
  have l1 : its.length = xs.length := rv1.length.symm
  have l2 : its2.length = xs.length := by rw [hl]; exact rv2.length.symm
  rw [l1] at D1
  rw [l2] at D2
  have D : ZipSep2 (N + 4) (N + 2) (N + 3) N (N + 1) [N, a] [N + 1, b] := zip_sep2 (fp1 := [a]) (fp2 := [b]) (by simpa using la) (by simpa using lb)
  have la' : (a : Nat) < N := la
  have lb' : (b : Nat) < N := lb
  have hs' : ({ s1 with heap := h' } : Shared).heap.objs.size = N + 5 := hsz
  have B : ZB ({ s1 with heap := h' } : Shared).heap.objs.size (N + 4) (N + 2) (N + 3) N (N + 1) [N, a] [N + 1, b] := by
    rw [hs']
    refine ⟨show N + 4 < N + 5 by omega, show N + 2 < N + 4 by omega, show N + 3 < N + 4 by omega, show N < N + 4 by omega, show N + 1 < N + 4 by omega, fun c hc' => ?_, fun c hc' => ?_⟩
    · have e : c = N ∨ c = a := by simpa using hc'
      rcases e with e | e
      · rw [e]; show N < N + 5; omega
      · rw [e]; exact Nat.lt_of_lt_of_le la (Nat.le_add_right _ _)
    · have e : c = N + 1 ∨ c = b := by simpa using hc'
      rcases e with e | e
      · rw [e]; show N + 1 < N + 5; omega
      · rw [e]; exact Nat.lt_of_lt_of_le lb (Nat.le_add_right _ _)
  rw [hN]
  have I2 : Inv X pins σ H1 { s1 with heap := h' } := I1.kept (t' := s1.toks) hk
  refine list_zip (s := { s1 with heap := h' }) D D1 D2 B z1 hz hTI hTO (w1 h' e1 hk) (w2 h' e2 hk) fun h2 tk acc c as hk2 hS hal hG hacc => ?_
  rw [hs'] at hS hG ⊢
  have I3 : Inv X pins σ H1 { s1 with heap := h2, toks := tk } := I1.kept (t' := tk) fun b' o e => by
    have hb : (b' : Nat) < N := by rw [← hN]; exact Heap.lt_size e
    refine hk2 b' o (fun hm' => ?_) (hk b' o e)
    have e' : b' = N + 4 ∨ b' = N + 3 ∨ b' = N ∨ b' = N + 1 := by simpa using hm'
    rcases e' with z | z | z | z <;> exact absurd hb (by rw [z]; exact Nat.not_lt.mpr (by first | exact Nat.le_add_right _ _ | exact Nat.le_refl _))
  have new : ∀ {b' : Addr}, N + 5 ≤ b' → H1 b' = none ∧ s1.heap.objs.size ≤ b' := fun {b'} hb => by
    have hb2 : s1.heap.objs.size ≤ b' := by rw [hN]; exact Nat.le_trans (Nat.le_add_right _ _) hb
    exact ⟨I1.hok.fresh hb2, hb2⟩
  obtain ⟨n0, m0⟩ := new (b' := N + 5) (Nat.le_refl _)
  have I4 : Inv X pins σ (upd H1 (N + 5) (.lst (as.map V.ref))) { s1 with heap := h2, toks := tk } := I3.take (h' := h2) (t' := tk) (fun b ob _ e => e) (I1.fpOk m0 n0) ⟨by rw [List.length_map, hal]; exact z1, acc.toList, c, by rw [hacc]; exact vals_maps V.ref Value.ref as fun _ _ => rfl, by rw [Array.toArray_toList]; exact hS⟩
  have nd : as.Nodup := List.Pairwise.imp (fun h => Nat.ne_of_lt h) hG.rise
  obtain ⟨H2, I5, g, qt⟩ := L2.DX.takeT (P := fun t vs => ∃ (j : Nat) (x y : V), as[j]? = some t ∧ xs[j]? = some x ∧ ys[j]? = some y ∧ vs = [x, y]) I1 as _ I4 nd fun t ht => by
    obtain ⟨j, hj⟩ := List.mem_iff_getElem?.mp ht
    obtain ⟨u, v, pu, pv, e⟩ := hG.pairs j t hj
    have ab : N + 5 < t := hG.above t ht
    obtain ⟨n1, m1⟩ := new (Nat.le_of_lt ab)
    have jl : j < xs.length := by
      rw [← hal]
      exact (List.getElem?_eq_some_iff.mp hj).1
    obtain ⟨u', hu', ru⟩ := rv1.get (List.getElem?_eq_getElem jl)
    obtain ⟨v', hv', rv'⟩ := rv2.get (List.getElem?_eq_getElem (show j < ys.length by omega))
    rw [hu'] at pu
    rw [hv'] at pv
    cases pu
    cases pv
    refine ⟨m1, ?_, [xs[j], ys[j]], ⟨j, _, _, hj, List.getElem?_eq_getElem jl, List.getElem?_eq_getElem (by omega), rfl⟩, fun H3 => ⟨(by show 2 ≤ sizeLine; decide), [u, v], .cons ru (.cons rv' .nil), ⟨_, e, rfl, 0, rfl⟩⟩⟩
    rw [upd_ne (Nat.ne_of_gt ab)]
    exact n1
  have gr : ∀ b o, H1 b = some o → H2 b = some o := fun b o e => g b o (by rw [upd_ne (ne_of_none e n0)]; exact e)
  refine ⟨.ref (N + 5), H2, I5, rfl, q H2 (N + 5) as (fun b o e _ => gr b o e) n0 (g _ _ upd_same) hal fun j t hj => ?_⟩
  have tm := List.mem_of_getElem? hj
  obtain ⟨vs, ⟨j', x, y, j1, j2, j3, ev⟩, hH⟩ := qt t tm
  have eij : j = j' := (List.getElem?_inj (List.getElem?_eq_some_iff.mp hj).1 nd).mp (hj.trans j1.symm)
  subst eij
  subst ev
  exact ⟨(new (Nat.le_of_lt (hG.above t tm))).1, x, y, j2, j3, hH⟩
end Rd
set_option Elab.async false
set_option linter.all false
set_option maxRecDepth 100000
set_option maxHeartbeats 4000000
/-! Rules of our own, ninth part: not in, of tuples. -/
namespace Rd
open PySem PySem.Spec PyProof.Rows L2
section
variable {X : Cx}
def rNinL : R2 := fun x y H Q => ∃ d ds, DD H x d ∧ DD H y (.list ds) ∧ Q (.bl (!ds.any fun z => PyData.eqv z d)) H
def rNinT : R2 := fun x y H Q => ∃ d ds, DD H x d ∧ DD H y (.tuple ds) ∧ Q (.bl (!ds.any fun z => PyData.eqv z d)) H
theorem op_ninL (hu : X.A.units + 65 < cLine) : OpR X (compareOp .NotIn) rNinL := by
  intro pins s σ H x y v u Q I rx ry h
  obtain ⟨d, ds, hd, he, q⟩ := h
  exact op_notInD hu pins s σ H x y v u Q I rx ry ⟨d, ds, hd.1 _, he.1 _, hd.2, he.2, q⟩
theorem op_ninT (hu : X.A.units + 65 < cLine) : OpR X (compareOp .NotIn) rNinT := by
  intro pins s σ H x y v u Q I rx ry h
  obtain ⟨d, ds, ⟨hd, sd⟩, ⟨he, se⟩, q⟩ := h
  obtain ⟨as, r1⟩ := Dp.reads I d x v (hd _) rx
  obtain ⟨bs, r2⟩ := Dp.reads I (.tuple ds) y u (he _) ry
  exact SeqAt.notIn_tuple_reads r2 r1 (SeqAt.canLay_of_shaped se) (SeqAt.canLay_of_shaped sd) (room_in_shaped sd hu) ⟨.bl _, H, I, rfl, q⟩
end
end Rd
set_option Elab.async false
set_option linter.all false
set_option maxRecDepth 100000
set_option maxHeartbeats 4000000
/-! Rules of our own, tenth part: rows whose methods are called: tuples known to the object. -/
namespace Rd
open PySem PySem.Spec PyProof.Rows L2
/-- a tuple without a dict of its own -/
def FzT (H : Hp) (a : Addr) (xs : List V) : Prop := ∃ o, o.dict = none ∧ H a = some (.frz o (.tup xs))
theorem FzT.rd {H : Hp} {a : Addr} {xs : List V} (h : FzT H a xs) : L2.Rd H a (.tup xs) := let ⟨o, _, e⟩ := h; .inr ⟨o, e⟩
theorem FzT.sq {H : Hp} {a : Addr} {xs : List V} (h : FzT H a xs) : Sq H a xs := .inr h.rd
theorem FzT.t {H : Hp} {a : Addr} {xs : List V} {K : PySem.W.Frag} (h : FzT H a xs) : SqT K H a xs := .inl h.rd
theorem FzT.kp {H H' : Hp} {a : Addr} {xs : List V} {L : List Addr} (h : FzT H a xs) (k : Kp L H H') (n : a ∉ L) : FzT H' a xs := let ⟨o, d, e⟩ := h; ⟨o, d, k a _ e n⟩
section
variable {X : Cx}
def rTupF : List V → Hp → VK → Prop := fun vs H Q => ∃ a xs, vs = [.ref a] ∧ H a = some (.lst xs) ∧ ∀ p u, H p = none → (∀ H', H' p = some u → FzT H' p xs) → (∀ l, u ≠ .lst l) → Q (.ref p) (upd H p u)
theorem call_tupF : CallR X (.type "tuple") rTupF := by
  intro pins s σ H vs us Q I r ⟨a, xs, e, ha, q⟩
  subst e
  obtain rfl := Vals.ref1 r
  obtain ⟨its, r', pl, hz⟩ := I.list (SqL.of ha)
  have hlen := r'.length
  refine call_tuple_list pl.isList (fun h' kp => ?_) (by simp only [List.size_toArray] <;> omega)
  have I1 : Inv X pins σ H { s with heap := h' } := I.kept (t' := s.toks) kp
  have e1 : (h'.push { cls := .type "tuple", data := .seq its.toArray }).get? h'.objs.size = some { cls := .type "tuple", data := .seq its.toArray } := Heap.get?_push_size _ rfl
  have I2 : Inv X pins σ (upd H h'.objs.size (.frz { cls := .type "tuple", data := .seq its.toArray } (.tup xs))) { s with heap := h'.push { cls := .type "tuple", data := .seq its.toArray } } :=
    I1.laid (t' := s.toks) (fun b o e => Heap.get?_push_of_some _ e) (Nat.le_refl _) (show ObjOk X.prog X.w _ _ _ (.frz { cls := .type "tuple", data := .seq its.toArray } (.tup xs)) from ⟨e1, hz, its, r', IsTup.new _ _⟩)
  exact ⟨.ref h'.objs.size, _, I2, rfl, q _ _ (I1.hok.fresh (Nat.le_refl _)) (fun H' e => ⟨_, rfl, e⟩) fun l z => nomatch z⟩
/-- row.index(k) -/
def tTix (to : TE) (t : TA) : TE := fun σ H Q => to σ H fun x H1 => ∃ (a : Addr) (ns : List Int), x = .ref a ∧ FzT H1 a (ns.map V.int) ∧ t σ H1 fun xs H2 => ∃ k, xs = [.int k] ∧ FzT H2 a (ns.map V.int) ∧ k ∈ ns ∧ Q (.int (ns.idxOf k : Nat)) H2
theorem pe_tix {o e : Expr} {to : TE} {t : TA} {apos cpos : Pos} (ho : PE X o to) (ha : PA X [e] t)
    (hbase : attributeBase o "index" X.env (eval o X.env) = eval o X.env := by rfl)
    (hfew : ((backTo cpos (starEach [e] X.env)).all (fun x => !x.1) && (backToKw cpos (keywordEach [] X.env)).all (fun x => x.1.isSome)
      && decide ([e].length + ([] : List Keyword).length + (if ([] : List Keyword).isEmpty then 0 else 1) < 30)) = true := by rfl)
    (hline : (apos.endLine == cpos.line) = true := by rfl) (hs : starEach [e] X.env = (false, eval e X.env) :: starEach [] X.env := by rfl) (hplain : (backTo cpos (starEach [] X.env)).any (·.1) = false := by rfl) :
    PE X (.Call (.Attribute o "index" apos) [e] [] cpos) (tTix to t) := by
  refine ⟨fun pins s σ H Q I h => ?_⟩
  refine wpAny_Call_method_late hbase hfew hline rfl (thn (ho.run pins s σ H _ I h) fun v s1 ⟨x, H1, I1, r1, q1⟩ => ?_)
  obtain ⟨a, ns, ex, ⟨ob, od, hf⟩, q1⟩ := q1
  subst ex
  obtain rfl : v = Value.ref a := r1
  obtain ⟨g1, hz, its, rv, o2, ho2, hc2, hd2⟩ := I1.hok a _ hf
  have eo : o2 = ob := Option.some.inj (ho2.symm.trans g1)
  subst eo
  refine ⟨"tuple", "tuple.index", PySem.F.plainAttrs_tuple, PySem.F.slot_tuple_index, PySem.F.type_tuple_index, ⟨_, g1, hc2⟩, fun b eb => ?_, ?_⟩
  · cases eb
    exact ⟨_, g1, od⟩
  · have hA := ha.run cpos pins s1 σ H1 _ I1 q1
    rw [hs] at hA ⊢
    refine Calls.callWith_builtin (by show (false || (backTo cpos (starEach [] X.env)).any (·.1)) = false; rw [hplain] <;> rfl) (Calls.evalArgs_plain ?_)
    refine thn hA fun us s2 ⟨vs, H2, I2, r2, k, ev, hf2, hk, q2⟩ => ?_
    subst ev
    exact mt_tidx pins s2 σ H2 (.ref a) [.int k] (.ref a) us Q I2 rfl r2 ⟨a, ns, k, rfl, rfl, hf2.rd, hk, q2⟩
end
end Rd
set_option Elab.async false
set_option linter.all false
set_option maxRecDepth 100000
set_option maxHeartbeats 4000000
/-! How places, rows, webs, steps stand in the heap. -/
namespace Rd
open PySem PySem.Spec PyProof.Rows L2
theorem units200 {k : Nat} {A : Around} (r : Room k A) : A.units + 200 < cLine := by have := r.un; omega
abbrev nV (q : Nat) : V := .int (q : Int)
abbrev nVs (l : List Nat) : List V := l.map nV
/-- a web: a tuple of tuples of places -/
def WebT (H : Hp) (a : Addr) (n : Nat) (R : Nat → List Nat) : Prop := ∃ f : Nat → Addr, H a = some (.tup ((List.range n).map fun p => V.ref (f p))) ∧ ∀ p, p < n → FzT H (f p) (nVs (R p))
/-- objects told by what they hold -/
abbrev Objs {α : Type} (H : Hp) (o : α → HO) : List Addr → List α → Prop := Paired fun t s => H t = some (o s)
abbrev stO (s : Nat × Nat) : HO := .tup [nV s.1, nV s.2]
section
variable {H H' : Hp} {a : Addr} {n : Nat} {R : Nat → List Nat}
theorem WebT.kp (h : WebT H a n R) (k : Kp [] H H') : WebT H' a n R := by
  obtain ⟨f, h1, h2⟩ := h
  exact ⟨f, k.same _ _ h1, fun p hp => (h2 p hp).kp k (by simp)⟩
theorem Objs.kp {α : Type} {o : α → HO} {ts : List Addr} {ss : List α} (h : Objs H o ts ss) (k : Kp [] H H') : Objs H' o ts ss := Paired.mapP h fun _ _ e => k.same _ _ e
theorem Objs.len {α : Type} {o : α → HO} {ts : List Addr} {ss : List α} (h : Objs H o ts ss) : ts.length = ss.length := Paired.length h
theorem Paired.at {α β : Type} {F : α → β → Prop} {l : List α} {m : List β} (h : Paired F l m) : ∀ {j : Nat} {x : α}, l[j]? = some x → ∃ y, m[j]? = some y ∧ F x y := by
  induction h with
  | nil => intro j x e; simp at e
  | cons q _ ih =>
    intro j x e
    cases j with
    | zero => cases e; exact ⟨_, rfl, q⟩
    | succ j => exact ih e
theorem Paired.at2 {α β : Type} {F : α → β → Prop} {l : List α} {m : List β} (h : Paired F l m) : ∀ {j : Nat} {y : β}, m[j]? = some y → ∃ x, l[j]? = some x ∧ F x y := by
  induction h with
  | nil => intro j x e; simp at e
  | cons q _ ih =>
    intro j x e
    cases j with
    | zero => cases e; exact ⟨_, rfl, q⟩
    | succ j => exact ih e
theorem Paired.app {α β : Type} {F : α → β → Prop} {l l' : List α} {m m' : List β} (h : Paired F l m) (q : Paired F l' m') : Paired F (l ++ l') (m ++ m') := by
  induction h with
  | nil => exact q
  | cons a _ ih => exact .cons a ih
theorem flat_nVs (l : List Nat) : (nVs l).all flatV = true := by
  rw [List.all_eq_true]
  intro x hx
  obtain ⟨q, _, rfl⟩ := List.mem_map.mp hx
  rfl
theorem inV_nVs (q : Nat) (l : List Nat) : inV (nV q) (nVs l) = decide (q ∈ l) := by
  unfold inV
  induction l with
  | nil => rfl
  | cons x l ih =>
    show (eqV (nV x) (nV q) || (nVs l).any fun y => eqV y (nV q)) = _
    rw [ih]
    have e : eqV (nV x) (nV q) = decide (x = q) := by
      show ((x : Int) == (q : Int)) = decide (x = q)
      by_cases h : x = q
      · subst h; simp
      · rw [decide_eq_false h, beq_eq_false_iff_ne]; omega
    rw [e]
    by_cases h : x = q
    · subst h; simp
    · have h2 : q ≠ x := fun z => h z.symm
      simp [h, h2]
theorem ints_at {l : List Nat} {i : Nat} {q : Nat} (h : l[i]? = some q) : (nVs l)[i]? = some (nV q) := by rw [List.getElem?_map, h]; rfl
theorem atI_nVs {l : List Nat} {i : Nat} {q : Nat} (h : l[i]? = some q) : atI (nVs l) (i : Int) = some (nV q) := atI_nat (ints_at h)
theorem range_at {f : Nat → Addr} {p : Nat} (h : p < n) : ((List.range n).map fun p => V.ref (f p))[p]? = some (V.ref (f p)) := by
  rw [List.getElem?_map, List.getElem?_range h]; rfl
theorem atI_range {f : Nat → Addr} {p : Nat} (h : p < n) : atI ((List.range n).map fun p => V.ref (f p)) (p : Int) = some (V.ref (f p)) := atI_nat (range_at h)
/-- the item ahead of place i, going round -/
theorem atI_prev {l : List Nat} {i : Nat} (h : i < l.length) : atI (nVs l) ((i : Int) - 1) = some (nV (if i = 0 then l[l.length - 1]'(by omega) else l[i - 1]'(by omega))) := by
  by_cases h0 : i = 0
  · subst h0
    obtain ⟨l', z, rfl⟩ : ∃ l' z, l = l' ++ [z] := by
      have : l ≠ [] := by intro e; subst e; simp at h
      exact ⟨l.dropLast, l.getLast this, (List.dropLast_concat_getLast this).symm⟩
    have e : nVs (l' ++ [z]) = nVs l' ++ [nV z] := by simp [nVs]
    rw [e]
    have := atI_last (nVs l') (nV z)
    simpa using this
  · rw [if_neg h0]
    have e : ((i : Int) - 1) = ((i - 1 : Nat) : Int) := by omega
    rw [e]
    exact atI_nVs (List.getElem?_eq_getElem _)
end
end Rd
set_option Elab.async false
set_option linter.all false
set_option maxRecDepth 100000
set_option maxHeartbeats 4000000
/-! Small defs. -/
namespace Rd
open PySem PySem.Spec PyProof.Rows L2
section
variable {P : Program} {w : World} {K : PySem.W.Frag} {mg : Str → Option Value} {base : Heap}
/-! ### is_whole: a whole number -/
theorem sc_is_whole : FnScope ["thing"] ["thing"] (defScope s_is_whole) := ⟨rfl, rfl, rfl, by decide +kernel, rfl, by decide +kernel, by decide +kernel⟩
def sp_is_whole : Sp := fun vs H Q _ => ∃ i : Int, vs = [.int i] ∧ Q (.bl true) H
theorem ok_is_whole (T : Txt K mg) : Ok P w K mg base 1 "is_whole" ["thing"] sp_is_whole := by
  refine def_ok T 0 rfl rfl sc_is_whole (fun _ _ _ _ _ _ us hl => match us, hl with | [_], _ => rfl) (fun vs H Q E h => ?_) (fun cdv A outer s H vs Q E hr h => ?_)
  · obtain ⟨i, rfl, _⟩ := h
    rfl
  · obtain ⟨i, rfl, q⟩ := h
    refine ⟨_, (pss_one (ps_ret (pe_and (pe_callB call_isi (by rfl) T.z_isinstance (by decide +kernel) (pa_cons (pv 0) (pa_cons (pe_bltn (v := .ty "int") (by rfl) T.z_int (by decide +kernel) rfl) pa_nil))) (pe_one (pe_not (pe_callB call_isi (by rfl) T.z_isinstance (by decide +kernel) (pa_cons (pv 0) (pa_cons (pe_bltn (v := .ty "bool") (by rfl) T.z_bool (by decide +kernel) rfl) pa_nil)))))))), ?_⟩
    refine ⟨_, rfl, _, _, _, _, true, rfl, .ty _, .base (.int i), kit_ty (by decide +kernel), true, rfl, iteT ?_⟩
    exact ⟨_, rfl, _, _, _, _, false, rfl, .ty _, .base (.int i), kit_ty (by decide +kernel), false, rfl, q⟩
/-! ### divisor -/
theorem sc_divisor : FnScope ["one", "other"] ["one", "other"] (defScope s_divisor) := ⟨rfl, rfl, rfl, by decide +kernel, rfl, by decide +kernel, by decide +kernel⟩
def sp_divisor : Sp := fun vs H Q _ => ∃ a b : Int, vs = [.int a, .int b] ∧ Q (.int ((a.natAbs.gcd b.natAbs : Nat) : Int)) H
theorem abs_if (a : Int) : (if a < 0 then -a else a) = (a.natAbs : Int) := by
  split <;> omega
theorem ok_divisor (T : Txt K mg) : Ok P w K mg base 1 "divisor" ["one", "other"] sp_divisor := by
  refine def_ok T 1 rfl rfl sc_divisor (fun _ _ _ _ _ _ us hl => match us, hl with | [_, _], _ => rfl) (fun vs H Q E h => ?_) (fun cdv A outer s H vs Q E hr h => ?_)
  · obtain ⟨a, b, rfl, _⟩ := h
    rfl
  · obtain ⟨a, b, rfl, q⟩ := h
    refine ⟨_, (pss_cons (ps_par (i := 0) (j := 1) (by rfl) sc_divisor.nd rfl rfl (by decide) rfl rfl (pa_cons (pe_callB call_abs (by rfl) T.z_abs (by decide +kernel) (pa_cons (pv 0) pa_nil)) (pa_cons (pe_callB call_abs (by rfl) T.z_abs (by decide +kernel) (pa_cons (pv 1) pa_nil)) pa_nil)) (by rfl))
      (pss_cons (ps_while PassesOwn.never (pt_cmpR op_gt (pv 1) pe_int (nomark _)) (pss_one (ps_par (i := 0) (j := 1) (by rfl) sc_divisor.nd rfl rfl (by decide) rfl rfl (pa_cons (pv 1) (pa_cons (pe_op op_modN (pv 0) (pv 1)) pa_nil)) (by rfl))))
      (pss_one (ps_ret (pv 0))))), ?_⟩
    refine ⟨_, rfl, _, rfl, _, rfl, _, rfl, _, _, rfl, ?_⟩
    rw [abs_if, abs_if]
    refine while_by (fun σ H' => ∃ x y : Nat, σ = [some (.int x), some (.int y)] ∧ H' = H ∧ x.gcd y = a.natAbs.gcd b.natAbs) (fun σ _ => match σ with | [_, some (.int y)] => y.toNat | _ => 0) ⟨_, _, rfl, rfl, rfl⟩ ?_ (fun σ H Q Q' k h => ?_)
    · rintro σ H' ⟨x, y, rfl, rfl, e⟩
      refine ⟨_, rfl, _, _, rfl, rfl, _, rfl, ?_⟩
      by_cases hy : 0 < y
      · rw [decide_eq_true (show (0 : Int) < (y : Int) by omega)]
        refine iteT ?_
        refine ⟨_, rfl, _, rfl, _, rfl, _, _, rfl, rfl, by omega, _, _, rfl, ⟨y, x % y, ?_, rfl, ?_⟩, ?_⟩
        · show [some (V.int y), some (V.int ((x : Int).fmod y))] = _
          rw [Int.fmod_eq_emod_of_nonneg _ (by omega)]
          rfl
        · rw [Nat.gcd_comm y, ← Nat.gcd_rec y x, Nat.gcd_comm]
          exact e
        · show ((x : Int).fmod (y : Int)).toNat < (y : Int).toNat
          rw [Int.fmod_eq_emod_of_nonneg _ (by omega)]
          have := Nat.mod_lt x hy
          omega
      · rw [decide_eq_false (show ¬ (0 : Int) < (y : Int) by omega)]
        refine iteF ?_
        have : y = 0 := by omega
        subst this
        refine ⟨_, rfl, ?_⟩
        rw [← e, Nat.gcd_zero_right] at q
        exact q
    · obtain ⟨v, e1, i, j, e2, e3, k1, e4, h⟩ := h
      exact ⟨v, e1, i, j, e2, e3, k1, e4, k _ _ h⟩
/-! ### fraction -/
/-- in lowest terms -/
def gcdI (n d : Int) : Int := ((n.natAbs.gcd d.natAbs : Nat) : Int)
def low (n d : Int) : Int × Int := (n / gcdI n d, d / gcdI n d)
theorem sc_fraction : FnScope ["n", "d", "by"] ["n", "d"] (defScope s_fraction) := ⟨rfl, rfl, rfl, by decide +kernel, rfl, by decide +kernel, by decide +kernel⟩
def sp_fraction : Sp := fun vs H Q _ => ∃ n d : Int, vs = [.int n, .int d] ∧ 0 < d ∧ d.natAbs < 2 ^ 9000 ∧ ∀ p, H p = none → Q (.ref p) (upd H p (.tup [.int (low n d).1, .int (low n d).2]))
theorem ok_fraction (T : Txt K mg) : Ok P w K mg base 2 "fraction" ["n", "d"] sp_fraction := by
  have O_divisor : Ok P w K mg base 1 "divisor" ["one", "other"] sp_divisor := ok_divisor T
  refine def_ok T 2 rfl rfl sc_fraction (fun _ _ _ _ _ _ us hl => match us, hl with | [_, _], _ => rfl) (fun vs H Q E h => ?_) (fun cdv A outer s H vs Q E hr h => ?_)
  · obtain ⟨a, b, rfl, _⟩ := h
    rfl
  · obtain ⟨n, d, rfl, h0, h9, q⟩ := h
    refine ⟨_, (pss_cons (ps_set (i := 2) sc_fraction.nd rfl (by first | exact .inl rfl | exact .inr rfl) (pe_f O_divisor hr (by rfl) (pa_cons (pv 0) (pa_cons (pv 1) pa_nil))))
      (pss_cons (ps_if (pt_cmpR op_lt (pv 1) pe_int (nomark _)) (pss_one (ps_set (i := 2) sc_fraction.nd rfl (by first | exact .inl rfl | exact .inr rfl) (pe_un un_neg (pv 2)))) pss_nil)
      (pss_one (ps_ret (pe_tup (pa_cons (pe_op op_fdivW (pv 0) (pv 2)) (pa_cons (pe_op op_fdivW (pv 1) (pv 2)) pa_nil))))))), ?_⟩
    have g0 : (0 : Int) < gcdI n d := by
      unfold gcdI
      have : 0 < n.natAbs.gcd d.natAbs := Nat.gcd_pos_of_pos_right _ (by omega)
      omega
    have g9 : (gcdI n d).natAbs < 2 ^ 9000 := by
      refine Nat.lt_of_le_of_lt ?_ h9
      show ((n.natAbs.gcd d.natAbs : Nat) : Int).natAbs ≤ _
      rw [Int.natAbs_natCast]
      exact Nat.le_of_dvd (by omega) (Nat.gcd_dvd_right _ _)
    refine ⟨_, rfl, _, rfl, n, d, rfl, _, rfl, _, _, rfl, rfl, _, rfl, ?_⟩
    rw [decide_eq_false (show ¬ d < 0 by omega)]
    refine iteF ?_
    refine ⟨_, rfl, _, rfl, _, _, rfl, rfl, wide_div g0 g9 (by decide) (by decide), _, rfl, _, rfl, _, _, rfl, rfl, wide_div g0 g9 (by decide) (by decide), by show 2 ≤ sizeLine; decide, ?_⟩
    exact q
/-! ### lies_right, weight_of, inner_places -/
theorem sc_inner_places : FnScope ["web", "rim", "place"] ["web", "rim"] (defScope s_inner_places) := ⟨rfl, rfl, rfl, by decide +kernel, rfl, by decide +kernel, by decide +kernel⟩
def inn (n : Nat) (r : List Nat) : List Nat := (List.range n).filter fun p => decide (p ∉ r)
def sp_inner_places : Sp := fun vs H Q _ => ∃ (a b : Addr) (ws : List V) (r : List Nat), vs = [.ref a, .ref b] ∧ H a = some (.tup ws) ∧ H b = some (.tup (nVs r)) ∧ ws.length ≤ 100 ∧ ∀ p, H p = none → Q (.ref p) (upd H p (.lst (nVs (inn ws.length r))))
theorem range_filter_succ (f : Nat → Bool) (i : Nat) : (List.range (i + 1)).filter f = (List.range i).filter f ++ (if f i then [i] else []) := by
  rw [List.range_succ, List.filter_append]
  congr 1
  by_cases h : f i <;> simp [List.filter_cons, h]
theorem ok_inner_places (T : Txt K mg) : Ok P w K mg base 1 "inner_places" ["web", "rim"] sp_inner_places := by
  refine def_ok T 27 rfl rfl sc_inner_places (fun _ _ _ _ _ _ us hl => match us, hl with | [_, _], _ => rfl) (fun vs H Q E h => ?_) (fun cdv A outer s H vs Q E hr h => ?_)
  · obtain ⟨i, b, _, _, rfl, _⟩ := h
    rfl
  · obtain ⟨a, b, ws, r, rfl, ha, hb, hl, q⟩ := h
    refine ⟨_, (pss_one (ps_ret (pe_lc (own := [("place", 2)]) (g := (gName 2)) rfl sc_inner_places.nd (pi_range1 (by rfl) T.z_range (pa_cons (pe_callB call_lenH (by rfl) T.z_len (by decide +kernel) (pa_cons (pv 0) pa_nil)) pa_nil)) (blkOk_by (own := [("place", 2)]) (N := ["web", "rim", "place"]) (sc := defScope s_inner_places) (by decide +kernel)) (fun _ _ _ _ _ => (pg_name (i := 2) sc_inner_places.nd rfl (by first | exact .inl rfl | exact .inr rfl))) (fun _ _ _ _ _ => (pts_one (pt_cmpR op_ninH (pv 2) (pv 1) (by rfl)))) (fun _ _ _ _ _ => (pv 2))))), ?_⟩
    refine ⟨.ref a, rfl, a, ws, rfl, .inr (.inl ha), _, rfl, by omega, by omega, fun p hp => ?_⟩
    have e : ((ws.length : Int)).toNat = ws.length := by omega
    rw [e]
    refine lc_range (lo := 0) (fun i H' => H' = upd H p (.lst (nVs ((List.range i).filter fun x => decide (x ∉ r))))) rfl (fun i H' hi hH => ?_) (fun H' hH => ?_)
    · subst hH
      refine ⟨rfl, ?_⟩
      have e0 : (0 : Int) + (i : Int) = (i : Int) := by omega
      rw [e0]
      refine ⟨nV i, rfl, _, rfl, b, nVs r, rfl, .inr (.inl ?_), rfl, flat_nVs r, _, rfl, ?_⟩
      · rw [upd_ne (ne_of_none hb hp)]
        exact hb
      rw [inV_nVs]
      by_cases hr' : i ∈ r
      · simp only [hr', decide_true, Bool.not_true, if_true]
        refine iteF ?_
        rw [range_filter_succ]
        simp [hr']
      · simp only [hr', decide_false, Bool.not_false, if_true]
        refine ⟨_, rfl, nVs ((List.range i).filter fun x => decide (x ∉ r)), upd_same, ?_, ?_⟩
        · rw [List.length_map]
          have := List.length_filter_le (fun x => decide (x ∉ r)) (List.range i)
          rw [List.length_range] at this
          rw [sizeLine_eq]; omega
        · rw [range_filter_succ]
          simp only [hr', not_false_eq_true, decide_true, if_true, upd_upd]
          congr 2
          simp [nVs]
    · subst hH
      exact q p hp
end
end Rd
set_option Elab.async false
set_option linter.all false
set_option maxRecDepth 100000
set_option maxHeartbeats 4000000
/-! Dicts by their entries. -/
namespace Rd
open PySem PySem.Spec PyProof.Rows L2
section
variable {κ : Type} [DecidableEq κ]
theorem valV_none {kvs : List (κ × V)} {k : κ} : valV kvs k = none ↔ k ∉ kvs.map (·.1) := by
  induction kvs with
  | nil => simp [valV]
  | cons p r ih =>
    by_cases e : p.1 = k
    · rw [valV_pos e]; simp [e]
    · rw [valV_neg e, ih]
      have e2 : ¬ k = p.1 := fun z => e z.symm
      simp [e2]
theorem valV_isSome {kvs : List (κ × V)} {k : κ} : (valV kvs k).isSome = true ↔ k ∈ kvs.map (·.1) := by
  cases h : valV kvs k with
  | none => simp only [Option.isSome_none]; constructor
            · intro z; cases z
            · intro z; exact absurd z (valV_none.mp h)
  | some v => simp only [Option.isSome_some, true_iff]; exact Classical.byContradiction fun z => by rw [valV_none.mpr z] at h; cases h
theorem put_isSome (kvs : List (κ × V)) (k j : κ) (y : V) : (valV (putK kvs k y) j).isSome = true ↔ j = k ∨ (valV kvs j).isSome = true := by
  rw [valV_put]
  by_cases h : j = k <;> simp [h]
theorem fold_isSome : ∀ (more kvs : List (κ × V)) (k : κ), (valV (more.foldl (fun acc kv => putK acc kv.1 kv.2) kvs) k).isSome = true ↔ (valV kvs k).isSome = true ∨ k ∈ more.map (·.1)
  | [], kvs, k => by simp
  | kv :: more, kvs, k => by
    rw [List.foldl_cons, fold_isSome more, put_isSome, List.map_cons, List.mem_cons]
    constructor
    · rintro ((h | h) | h)
      · exact .inr (.inl h)
      · exact .inl h
      · exact .inr (.inr h)
    · rintro (h | h | h)
      · exact .inl (.inr h)
      · exact .inl (.inl h)
      · exact .inr h
theorem fold_new : ∀ (more kvs : List (κ × V)), ((kvs ++ more).map (·.1)).Nodup → more.foldl (fun acc kv => putK acc kv.1 kv.2) kvs = kvs ++ more
  | [], kvs, _ => by simp
  | kv :: more, kvs, h => by
    have e : valV kvs kv.1 = none := by
      rw [valV_none]
      intro hm
      rw [List.map_append, List.nodup_append] at h
      exact h.2.2 _ hm _ (List.mem_map.mpr ⟨kv, List.mem_cons_self .., rfl⟩) rfl
    rw [List.foldl_cons, putK_new _ e, fold_new more]
    · simp
    · simpa using h
theorem valV_get {kvs : List (κ × V)} {k : κ} {v : V} {j : Nat} (hn : (kvs.map (·.1)).Nodup) (h : kvs[j]? = some (k, v)) : valV kvs k = some v := by
  induction kvs generalizing j with
  | nil => simp at h
  | cons p r ih =>
    rw [List.map_cons, List.nodup_cons] at hn
    cases j with
    | zero => cases (Option.some.inj h); exact valV_pos rfl
    | succ j =>
      have hm : k ∈ r.map (·.1) := List.mem_map.mpr ⟨(k, v), List.mem_of_getElem? h, rfl⟩
      rw [valV_neg (fun e => hn.1 (e ▸ hm))]
      exact ih hn.2 h
theorem putK_len (kvs : List (κ × V)) (k : κ) (y : V) : (putK kvs k y).length ≤ kvs.length + 1 := length_putK kvs k y
end
theorem iKey_inj {x y : Nat} (h : (Sum.inl (x : Int) : Key) = Sum.inl (y : Int)) : x = y := by
  injection h with h; omega
theorem upd2 {H : Hp} {a b : Addr} {u v : HO} (h : a ≠ b) : upd (upd H a u) b v = upd (upd H b v) a u := by
  funext c
  by_cases h1 : c = b
  · subst h1; rw [upd_same, upd_ne (fun e => h e.symm), upd_same]
  · rw [upd_ne h1]
    by_cases h2 : c = a
    · subst h2; rw [upd_same, upd_same]
    · rw [upd_ne h2, upd_ne h2, upd_ne h1]
theorem Objs.put {α : Type} {H : Hp} {o : α → HO} {ts : List Addr} {ss : List α} {D : Addr} {u v : HO} (h : Objs H o ts ss) (e : H D = some u) (ne : ∀ s, o s ≠ u) : Objs (upd H D v) o ts ss :=
  Paired.mapP h fun t s q => by
    rw [upd_ne]
    · exact q
    · intro z; subst z; rw [q] at e; exact ne s (Option.some.inj e)
theorem Objs.new {α : Type} {H : Hp} {o : α → HO} {ts : List Addr} {ss : List α} {p : Addr} {v : HO} (h : Objs H o ts ss) (e : H p = none) : Objs (upd H p v) o ts ss := h.kp (Kp.new e)
theorem Objs.snoc {α : Type} {H : Hp} {o : α → HO} {ts : List Addr} {ss : List α} {t : Addr} {s : α} (h : Objs H o ts ss) (e : H t = some (o s)) : Objs H o (ts ++ [t]) (ss ++ [s]) := Paired.app h (.cons e .nil)
/-- the new list grows by a new object -/
theorem Objs.grow {α : Type} {H : Hp} {o : α → HO} {ts : List Addr} {ss : List α} {D t : Addr} {s : α} {u v : HO} (h : Objs H o ts ss) (e : H D = some u) (ne : ∀ s, o s ≠ u) (ht : H t = none) :
    Objs (upd (upd H t (o s)) D v) o (ts ++ [t]) (ss ++ [s]) := by
  have hDt : D ≠ t := ne_of_none e ht
  refine (h.new ht).put (u := u) (by rw [upd_ne hDt]; exact e) ne |>.snoc ?_
  rw [upd_ne hDt.symm, upd_same]
theorem take_snoc {α : Type} {l : List α} {i : Nat} {x : α} (h : l[i]? = some x) : l.take (i + 1) = l.take i ++ [x] := by rw [List.take_add_one, h]; rfl
def zs (l : List Nat) : List Int := l.map fun (q : Nat) => (q : Int)
theorem nVs_zs (l : List Nat) : nVs l = (zs l).map V.int := by unfold zs; rw [List.map_map]; rfl
theorem zs_idx (l : List Nat) (q : Nat) : (zs l).idxOf (q : Int) = l.idxOf q := by
  unfold zs
  induction l with
  | nil => rfl
  | cons x l ih =>
    rw [List.map_cons, List.idxOf_cons, List.idxOf_cons, ih]
    have e : ((x : Int) == (q : Int)) = (x == q) := by
      rw [Bool.eq_iff_iff, beq_iff_eq, beq_iff_eq]; omega
    rw [e]
theorem zs_mem {l : List Nat} {q : Nat} : (q : Int) ∈ zs l ↔ q ∈ l := by
  unfold zs
  rw [List.mem_map]
  constructor
  · rintro ⟨x, hx, e⟩
    have : x = q := by omega
    rwa [this] at hx
  · exact fun h => ⟨q, h, rfl⟩
theorem Objs.perm {α : Type} {H : Hp} {o : α → HO} {ts ts' : List Addr} (p : ts'.Perm ts) : ∀ {ss : List α}, Objs H o ts ss → ∃ ss', ss'.Perm ss ∧ Objs H o ts' ss' := by
  induction p with
  | nil => exact fun {ss} h => ⟨ss, .refl _, h⟩
  | cons x p ih =>
    intro ss h
    cases h with
    | cons a t =>
      obtain ⟨ss', q, r⟩ := ih t
      exact ⟨_ :: ss', q.cons _, .cons a r⟩
  | swap x y l =>
    intro ss h
    cases h with
    | cons a t => cases t with
      | cons b t => exact ⟨_, .swap _ _ _, .cons b (.cons a t)⟩
  | trans _ _ ih1 ih2 =>
    intro ss h
    obtain ⟨s1, q1, r1⟩ := ih2 h
    obtain ⟨s2, q2, r2⟩ := ih1 r1
    exact ⟨s2, q2.trans q1, r2⟩
theorem flat_succ {α : Type} (f : Nat → List α) (i : Nat) : (List.range (i + 1)).flatMap f = (List.range i).flatMap f ++ f i := by
  rw [List.range_succ, List.flatMap_append]; simp
end Rd
set_option Elab.async false
set_option linter.all false
set_option maxRecDepth 100000
set_option maxHeartbeats 4000000
/-! Defs over webs: what is reached. -/
namespace Rd
open PySem PySem.Spec PyProof.Rows L2 Gw
section
variable {P : Program} {w : World} {K : PySem.W.Frag} {mg : Str → Option Value} {base : Heap}
theorem nd_le {l : List Nat} {n : Nat} (nd : l.Nodup) (lt : ∀ x, x ∈ l → x < n) : l.length ≤ n := by
  have := nodup_len nd (m := List.range n) fun x hx => List.mem_range.mpr (lt x hx)
  rwa [List.length_range] at this
/-! ### reached -/
theorem sc_reached : FnScope ["web", "start", "gone", "found", "place", "known", "at"] ["web", "start", "gone"] (defScope s_reached) := ⟨rfl, rfl, rfl, by decide +kernel, rfl, by decide +kernel, by decide +kernel⟩
def sp_reached : Sp := fun vs H Q _ => ∃ (a g : Addr) (s n : Nat) (R : Rows) (G : List Nat), vs = [.ref a, nV s, .ref g] ∧ WebT H a n R ∧ H g = some (.tup (nVs G)) ∧ Web n R ∧ n ≤ 9 ∧ G.length ≤ 9 ∧ s < n ∧ s ∉ G ∧
  ∀ p l H', Kp [] H H' → H' p = some (.lst (nVs l)) → l.Nodup → (∀ x, x ∈ l ↔ Way R (fun y => y ∈ G) s x) → Q (.ref p) H'
abbrev gnO (x : Nat) : HO := .tup [kV (.inl (x : Int)), .bl true]
abbrev gnK (x : Nat) : Key × V := (.inl (x : Int), .bl true)
theorem objs_pr {H : Hp} (K : PySem.W.Frag) : ∀ {ts : List Addr} {G : List Nat}, Objs H gnO ts G → Paired (fun p kv => SqT K H p [kV kv.1, kv.2]) ts (G.map gnK)
  | _, _, .nil => .nil
  | _, _, .cons h t => .cons (SqT.of h) (objs_pr K t)
/-- what is found, what is known -/
structure RS (n : Nat) (R : Rows) (G : List Nat) (st : Nat) (l : List Nat) (kvs : List (Key × V)) : Prop where
  nd : l.Nodup
  ok : ∀ x, x ∈ l → x < n ∧ x ∉ G ∧ Way R (fun y => y ∈ G) st x
  dk : ∀ x : Nat, (valV kvs (.inl (x : Int))).isSome = true ↔ x ∈ G ∨ x ∈ l
  len : kvs.length ≤ G.length + l.length
  st : st ∈ l
theorem RS.le {n st : Nat} {R : Rows} {G l : List Nat} {kvs : List (Key × V)} (h : RS n R G st l kvs) : l.length ≤ n := nd_le h.nd fun x hx => (h.ok x hx).1
theorem RS.add {n st x y : Nat} {R : Rows} {G l : List Nat} {kvs : List (Key × V)} (h : RS n R G st l kvs) (hx : x ∈ l) (hy : y ∈ R x) (yn : y < n) (hk : ¬ (y ∈ G ∨ y ∈ l)) : RS n R G st (l ++ [y]) (putK kvs (.inl (y : Int)) (.bl true)) where
  nd := by
    rw [List.nodup_append]
    exact ⟨h.nd, by simp, fun a ha b hb e => by rw [List.mem_singleton] at hb; subst hb; subst e; exact hk (.inr ha)⟩
  ok := fun z hz => by
    rcases List.mem_append.mp hz with hz | hz
    · exact h.ok z hz
    · rw [List.mem_singleton] at hz
      subst hz
      exact ⟨yn, fun e => hk (.inl e), (h.ok x hx).2.2.on hy fun e => hk (.inl e)⟩
  dk := fun z => by
    rw [put_isSome, h.dk, List.mem_append, List.mem_singleton]
    constructor
    · rintro (e | e | e)
      · exact .inr (.inr (iKey_inj e))
      · exact .inl e
      · exact .inr (.inl e)
    · rintro (e | e | e)
      · exact .inr (.inl e)
      · exact .inr (.inr e)
      · subst e; exact .inl rfl
  len := by
    have := putK_len kvs (.inl (y : Int)) (.bl true)
    have := h.len
    rw [List.length_append, List.length_singleton]
    omega
  st := List.mem_append_left _ h.st
theorem ok_reached (T : Txt K mg) : Ok P w K mg base 1 "reached" ["web", "start", "gone"] sp_reached := by
  refine def_ok T 3 rfl rfl sc_reached (fun _ _ _ _ _ _ us hl => match us, hl with | [_, _, _], _ => rfl) (fun vs H Q E h => ?_) (fun cdv A outer s H vs Q E hr h => ?_)
  · obtain ⟨i, b, _, _, _, _, rfl, _⟩ := h
    rfl
  · obtain ⟨a, g, st, n, R, G, rfl, hw, hg, W, hn, hG, hs, hsG, q⟩ := h
    have hu : (A.deeper (envOfC "reached" (defScope s_reached) s.heap.objs.size (He.ga K "reached") cdv)).units + 1 < cLine := Nat.lt_of_le_of_lt (Nat.add_le_add_left (by decide) _) (units200 hr)
    refine ⟨_, (pss_cons (ps_set (i := 3) sc_reached.nd rfl (by first | exact .inl rfl | exact .inr rfl) (pe_lst (pa_cons (pv 1) pa_nil)))
      (pss_cons (ps_set (i := 5) sc_reached.nd rfl (by first | exact .inl rfl | exact .inr rfl) (pe_callTy (call_dictP rfl) (by rfl) T.z_dict (by decide +kernel) (pa_cons (pe_lc (own := [("place", 4)]) (g := (gName 4)) rfl sc_reached.nd (pi_tup (pv 2)) (blkOk_by (own := [("place", 4)]) (N := ["web", "start", "gone", "found", "place", "known", "at"]) (sc := defScope s_reached) (by decide +kernel)) (fun _ _ _ _ _ => (pg_name (i := 4) sc_reached.nd rfl (by first | exact .inl rfl | exact .inr rfl))) (fun _ _ _ _ _ => pts_nil) (fun _ _ _ _ _ => (pe_tup (pa_cons (pv 4) (pa_cons pe_bl pa_nil))))) pa_nil)))
      (pss_cons (ps_dput hu (pv 5) (pv 1) pe_bl rfl)
      (pss_cons (ps_set (i := 6) sc_reached.nd rfl (by first | exact .inl rfl | exact .inr rfl) pe_int)
      (pss_cons (ps_while PassesOwn.never (pt_cmpR op_lt (pv 6) (pe_callB call_lenH (by rfl) T.z_len (by decide +kernel) (pa_cons (pv 3) pa_nil)) (nomark _)) (pss_cons (ps_for PassesOwn.never rfl (pi_tup (pe_ix ixH (pv 0) (pe_ix ixH (pv 3) (pv 6) (fun _ _ => rfl)) (fun _ _ => rfl))) (pg_name (i := 4) sc_reached.nd rfl (by first | exact .inl rfl | exact .inr rfl)) (pss_one (ps_if (pt_cmp (pc_dnotin hu (pv 4) (pv 5))) (pss_cons (ps_dput hu (pv 5) (pv 4) pe_bl rfl)
      (pss_one (ps_expr (pe_bm PySem.F.plainAttrs_list PySem.F.slot_list_append PySem.F.type_list_append mt_append (pv 3) (pa_cons (pv 4) pa_nil))))) pss_nil)))
      (pss_one (ps_set (i := 6) sc_reached.nd rfl (by first | exact .inl rfl | exact .inr rfl) (pe_op op_add (pv 6) pe_int)))))
      (pss_one (ps_ret (pv 3)))))))), ?_⟩
    refine ⟨_, rfl, by show 1 ≤ sizeLine; decide, fun f hf => ?_⟩
    refine ⟨.ref g, rfl, g, rfl, ⟨nVs G, SqT.of (by rw [upd_ne (ne_of_none hg hf)]; exact hg)⟩, fun D hD => ?_⟩
    refine lc_tup (K := K) (a := g) (xs := nVs G) (fun i H' => ∃ ts, H' D = some (.lst (ts.map V.ref)) ∧ Kp [] (upd H f (.lst [nV st])) H' ∧ Objs H' gnO ts (G.take i)) ⟨[], upd_same, Kp.new hD, .nil⟩ (fun i H' hi h => ?_) (fun i x H' hx h => ?_) (fun H' h => ?_)
    · obtain ⟨ts, h1, h2, h3⟩ := h
      exact SqT.of (h2.same _ _ (by rw [upd_ne (ne_of_none hg hf)]; exact hg))
    · obtain ⟨ts, h1, h2, h3⟩ := h
      rw [List.getElem?_map] at hx
      obtain ⟨y, hy, rfl⟩ := Option.map_eq_some_iff.mp hx
      refine ⟨rfl, _, rfl, by show 2 ≤ sizeLine; decide, fun t ht => ?_⟩
      have hDt : D ≠ t := ne_of_none h1 ht
      have il : i < G.length := (List.getElem?_eq_some_iff.mp hy).1
      refine ⟨ts.map V.ref, by rw [upd_ne hDt]; exact h1, ?_, ts ++ [t], ?_, ?_, ?_⟩
      · rw [List.length_map, h3.len, List.length_take, sizeLine_eq]; omega
      · rw [upd_same]; simp
      · exact (h2.new' ht).own hD
      · rw [take_snoc hy]
        exact h3.grow h1 (fun s => by simp) ht
    · obtain ⟨ts, h1, h2, h3⟩ := h
      have e0 : (nVs G).length = G.length := List.length_map _
      rw [e0, List.take_length] at h3
      refine ⟨D, ts, G.map gnK, rfl, SqL.of h1, objs_pr _ h3, fun d hd => ?_⟩
      have hfd : f ≠ d := ne_of_none (h2.same _ _ upd_same) hd
      refine ⟨_, rfl, _, rfl, d, _, rfl, DPut.k (k := Sum.inl (st : Int)) upd_same ?_, ?_⟩
      · have := length_mergeK (G.map gnK) []
        rw [List.length_nil, List.length_map] at this
        rw [sizeLine_eq]; omega
      rw [upd_upd]
      have kH : Kp [] H H' := (Kp.new hf).trans h2
      have fd : H d = none := kH.free hd
      refine while_by (fun σ H' => ∃ l i kvs pl, σ = [some (.ref a), some (nV st), some (.ref g), some (.ref f), pl, some (.ref d), some (nV i)] ∧ Kp [] H H' ∧ H' f = some (.lst (nVs l)) ∧ H' d = some (.dK kvs) ∧ RS n R G st l kvs ∧ i ≤ l.length ∧ ∀ j x, j < i → l[j]? = some x → ∀ y, y ∈ R x → y ∈ G ∨ y ∈ l)
        (fun σ _ => match σ with | [_, _, _, _, _, _, some (.int i)] => n - i.toNat | _ => 0) ⟨[st], 0, putK (mergeK [] (G.map gnK)) (.inl (st : Int)) (.bl true), _, rfl, (kH.new' hd), ?_, upd_same, ?_, Nat.zero_le _, fun j x hj => absurd hj (Nat.not_lt_zero _)⟩ ?_ (fun σ H Q Q' k h => ?_)
      · rw [upd_ne hfd]
        exact h2.same _ _ upd_same
      · exact {
          nd := by simp
          ok := fun x hx => by
            rw [List.mem_singleton] at hx
            subst hx
            exact ⟨hs, hsG, .here⟩
          dk := fun x => by
            rw [put_isSome, show mergeK [] (G.map gnK) = (G.map gnK).foldl (fun acc kv => putK acc kv.1 kv.2) [] from rfl, fold_isSome, List.map_map, List.mem_singleton]
            have e : (Sum.inl (x : Int) : Key) ∈ G.map ((fun p => p.1) ∘ gnK) ↔ x ∈ G := by
              rw [List.mem_map]
              constructor
              · rintro ⟨y, hy, e⟩
                rw [← iKey_inj e]
                exact hy
              · exact fun hx => ⟨x, hx, rfl⟩
            constructor
            · rintro (z | z | z)
              · exact .inr (iKey_inj z)
              · cases z
              · exact .inl (e.mp z)
            · rintro (z | z)
              · exact .inr (.inr (e.mpr z))
              · subst z; exact .inl rfl
          len := by
            have h1 := putK_len (mergeK [] (G.map gnK)) (.inl (st : Int)) (.bl true)
            have h2 := length_mergeK (G.map gnK) []
            rw [List.length_nil, List.length_map] at h2
            rw [List.length_singleton]
            omega
          st := by simp }
      · rintro σ H1 ⟨l, i, kvs, pl, rfl, k1, hf1, hd1, rs, hi, cl⟩
        refine ⟨_, rfl, _, rfl, f, _, rfl, .inl hf1, _, _, rfl, rfl, _, rfl, ?_⟩
        have el : (nVs l).length = l.length := List.length_map _
        rw [el]
        by_cases hil : i < l.length
        · rw [decide_eq_true (show (i : Int) < (l.length : Int) by omega)]
          refine iteT ?_
          obtain ⟨fr, hw1, hw2⟩ := hw
          have hx : l[i]? = some l[i] := List.getElem?_eq_getElem hil
          obtain ⟨xn, xG, xw⟩ := rs.ok _ (List.mem_of_getElem? hx)
          generalize l[i] = x at hx xn xG xw
          have xl := List.mem_of_getElem? hx
          have rowH : ∀ H2, Kp [] H H2 → FzT H2 (fr x) (nVs (R x)) := fun H2 k2 => (hw2 x xn).kp k2 (by simp)
          refine ⟨_, rfl, _, rfl, _, rfl, f, _, _, _, rfl, rfl, .inl hf1, atI_nVs hx, a, _, _, _, rfl, rfl, .inr (.inl (k1.same _ _ hw1)), atI_range xn, fr x, rfl, ⟨_, (rowH _ k1).t⟩, ?_⟩
          refine for_tup (K := K) (xs := nVs (R x)) (fun j σ H' => ∃ l' kvs pl, σ = [some (.ref a), some (nV st), some (.ref g), some (.ref f), pl, some (.ref d), some (nV i)] ∧ Kp [] H H' ∧ H' f = some (.lst (nVs l')) ∧ H' d = some (.dK kvs) ∧ RS n R G st l' kvs ∧ l'[i]? = some x ∧
            (∀ j x, j < i → l'[j]? = some x → ∀ y, y ∈ R x → y ∈ G ∨ y ∈ l') ∧ ∀ y, y ∈ (R x).take j → y ∈ G ∨ y ∈ l') ⟨l, kvs, pl, rfl, k1, hf1, hd1, rs, hx, cl, by simp⟩ (fun j σ H' _ h => ?_) (fun j v σ H' hv h => ?_) (fun σ H' h => ?_)
          · obtain ⟨_, _, _, _, k2, _⟩ := h
            exact (rowH _ k2).t
          · obtain ⟨l', kvs', pl', rfl, k2, hf2, hd2, rs2, hx2, cl2, tk⟩ := h
            rw [List.getElem?_map] at hv
            obtain ⟨y, hy, rfl⟩ := Option.map_eq_some_iff.mp hv
            have hyR := List.mem_of_getElem? hy
            refine ⟨_, rfl, _, rfl, d, _, rfl, DGet.k (k := Sum.inl (y : Int)) hd2, _, rfl, ?_⟩
            by_cases hk : y ∈ G ∨ y ∈ l'
            · have e := (rs2.dk y).mpr hk
              rw [e]
              refine iteF ?_
              refine ⟨l', kvs', _, rfl, k2, hf2, hd2, rs2, hx2, cl2, fun z hz => ?_⟩
              rw [take_snoc hy, List.mem_append, List.mem_singleton] at hz
              rcases hz with hz | hz
              · exact tk z hz
              · subst hz; exact hk
            · have e : (valV kvs' (.inl (y : Int))).isSome = false := by
                rw [Bool.eq_false_iff]
                exact fun z => hk ((rs2.dk y).mp z)
              rw [e]
              refine iteT ?_
              have rs3 := rs2.add (List.mem_of_getElem? hx2) hyR (W.lt2 hyR) hk
              have le3 := rs3.le
              have ln3 := rs2.len
              rw [List.length_append, List.length_singleton] at le3
              have nfd : f ≠ d := hfd
              refine ⟨_, rfl, _, rfl, d, _, rfl, DPut.k (k := Sum.inl (y : Int)) hd2 (by rw [sizeLine_eq]; omega), ?_⟩
              have hf3 : upd H' d (.dK (putK kvs' (.inl (y : Int)) (.bl true))) f = some (.lst (nVs l')) := by rw [upd_ne nfd]; exact hf2
              refine ⟨_, rfl, .inl ⟨rfl, _, SqL.of hf3⟩, _, rfl, f, _, _, rfl, rfl, hf3, by rw [List.length_map, sizeLine_eq]; omega, ?_⟩
              refine ⟨l' ++ [y], putK kvs' (.inl (y : Int)) (.bl true), _, rfl, (k2.own fd).own hf, by rw [upd_same]; simp, by rw [upd_ne nfd.symm, upd_same], rs3, ?_, ?_, ?_⟩
              · rw [List.getElem?_append_left (List.getElem?_eq_some_iff.mp hx2).1]
                exact hx2
              · intro j' x' hj' hx' z hz
                have jl : j' < l'.length := by
                  have := (List.getElem?_eq_some_iff.mp hx2).1
                  omega
                rw [List.getElem?_append_left jl] at hx'
                exact (cl2 j' x' hj' hx' z hz).imp id fun m => List.mem_append_left _ m
              · intro z hz
                rw [take_snoc hy, List.mem_append, List.mem_singleton] at hz
                rcases hz with hz | hz
                · exact (tk z hz).imp id fun m => List.mem_append_left _ m
                · subst hz; exact .inr (List.mem_append_right _ (by simp))
          · obtain ⟨l', kvs', pl', rfl, k2, hf2, hd2, rs2, hx2, cl2, tk⟩ := h
            rw [List.length_map, List.take_length] at tk
            have il := (List.getElem?_eq_some_iff.mp hx2).1
            have le3 := rs2.le
            refine ⟨_, rfl, _, _, rfl, rfl, ⟨l', i + 1, kvs', pl', rfl, k2, hf2, hd2, rs2, by omega, fun j x' hj hx' => ?_⟩, ?_⟩
            · by_cases hji : j = i
              · subst hji
                rw [hx2] at hx'
                cases hx'
                exact tk
              · exact cl2 j x' (by omega) hx'
            · show n - ((i : Int) + 1).toNat < n - (i : Int).toNat
              omega
        · rw [decide_eq_false (show ¬ (i : Int) < (l.length : Int) by omega)]
          refine iteF ?_
          refine ⟨_, rfl, q f l H1 k1 hf1 rs.nd fun x => ⟨fun hx => (rs.ok x hx).2.2, fun hx => ?_⟩⟩
          have ei : i = l.length := by omega
          subst ei
          induction hx with
          | here => exact rs.st
          | on _ hz hg ih =>
            obtain ⟨j, hj⟩ := List.mem_iff_getElem?.mp ih
            exact (cl j _ (List.getElem?_eq_some_iff.mp hj).1 hj _ hz).resolve_left hg
      · obtain ⟨v, e1, v2, e2, a2, xs, e3, e4, i, j, e5, e6, b, e7, h⟩ := h
        exact ⟨v, e1, v2, e2, a2, xs, e3, e4, i, j, e5, e6, b, e7, k _ _ h⟩
end
end Rd
set_option Elab.async false
set_option linter.all false
set_option maxRecDepth 100000
set_option maxHeartbeats 4000000
/-! Defs over webs: ties, steps. -/
namespace Rd
open PySem PySem.Spec PyProof.Rows L2 Gw
section
variable {P : Program} {w : World} {K : PySem.W.Frag} {mg : Str → Option Value} {base : Heap}
def tiesOf (n : Nat) (R : Rows) : List S := (List.range n).flatMap fun p => ((R p).filter fun q => decide (p < q)).map fun q => (p, q)
theorem sorted_st {H : Hp} {ts : List Addr} {ss : List S} (h : Objs H stO ts ss) : ∀ t, t ∈ ts → ∃ (x : Int) (r : List Int), H t = some (.tup ((x :: r).map V.int)) := fun t ht => by
  obtain ⟨j, hj⟩ := List.mem_iff_getElem?.mp ht
  obtain ⟨s, _, e⟩ := Paired.at h hj
  exact ⟨s.1, [(s.2 : Int)], e⟩
def spSts (f : Nat → Rows → List S) : Sp := fun vs H Q _ => ∃ (a : Addr) (n : Nat) (R : Rows), vs = [.ref a] ∧ WebT H a n R ∧ n ≤ 9 ∧ (∀ p, p < n → (R p).length ≤ 9) ∧
  ∀ p ts ss H', Kp [] H H' → H p = none → H' p = some (.lst (ts.map V.ref)) → Objs H' stO ts ss → ss.Perm (f n R) → Q (.ref p) H'
theorem flat_le {f : Nat → List S} : ∀ {n : Nat}, (∀ p, p < n → (f p).length ≤ 9) → ((List.range n).flatMap f).length ≤ 9 * n
  | 0, _ => by simp
  | n + 1, h => by
    rw [flat_succ, List.length_append]
    have h1 := flat_le (n := n) (f := f) fun p hp => h p (by omega)
    have h2 := h n (by omega)
    omega
theorem SqT.objsE {H : Hp} {a : Addr} {xs : List V} (h : H a = some (.tup xs)) : SqT K H a xs := SqT.of h
theorem sc_ties : FnScope ["web", "found", "place", "row", "other"] ["web"] (defScope s_ties) := ⟨rfl, rfl, rfl, by decide +kernel, rfl, by decide +kernel, by decide +kernel⟩
theorem ok_ties (T : Txt K mg) : Ok P w K mg base 1 "ties" ["web"] (spSts tiesOf) := by
  refine def_ok T 4 rfl rfl sc_ties (fun _ _ _ _ _ _ us hl => match us, hl with | [_], _ => rfl) (fun vs H Q E h => ?_) (fun cdv A outer s H vs Q E hr h => ?_)
  · obtain ⟨i, b, _, rfl, _⟩ := h
    rfl
  · obtain ⟨a, n, R, rfl, hw, hn, h9, q⟩ := h
    have hu3 : (A.deeper (envOfC "ties" (defScope s_ties) s.heap.objs.size (He.ga K "ties") cdv)).units + 3 < cLine := Nat.lt_of_le_of_lt (Nat.add_le_add_left (by decide) _) (units200 hr)
    refine ⟨_, (pss_cons (ps_set (i := 1) sc_ties.nd rfl (by first | exact .inl rfl | exact .inr rfl) (pe_lst pa_nil))
      (pss_cons (ps_for PassesOwn.never rfl (pi_enumT (by rfl) T.z_enumerate (pa_cons (pv 0) pa_nil)) (pg_tup (by rfl) (pgs_cons (pg_name (i := 2) sc_ties.nd rfl (by first | exact .inl rfl | exact .inr rfl)) (pgs_cons (pg_name (i := 3) sc_ties.nd rfl (by first | exact .inl rfl | exact .inr rfl)) pgs_nil))) (pss_one (ps_expr (pe_bm PySem.F.plainAttrs_list PySem.F.slot_list_extend PySem.F.type_list_extend mt_extend (pv 1) (pa_cons (pe_lc (own := [("other", 4)]) (g := (gName 4)) rfl sc_ties.nd (pi_tup (pv 3)) (blkOk_by (own := [("other", 4)]) (N := ["web", "found", "place", "row", "other"]) (sc := defScope s_ties) (by decide +kernel)) (fun _ _ _ _ _ => (pg_name (i := 4) sc_ties.nd rfl (by first | exact .inl rfl | exact .inr rfl))) (fun _ _ _ _ _ => (pts_one (pt_cmpR op_lt (pv 2) (pv 4) (nomark _)))) (fun _ _ _ _ _ => (pe_tup (pa_cons (pv 2) (pa_cons (pv 4) pa_nil))))) pa_nil)))))
      (pss_one (ps_ret (pe_callB (cr_sortTs hu3) (by rfl) T.z_sorted (by decide +kernel) (pa_cons (pv 1) pa_nil)))))), ?_⟩
    refine ⟨by show 0 ≤ sizeLine; decide, fun f hf => ?_⟩
    obtain ⟨fr, hw1, hw2⟩ := id hw
    have k0 : Kp [] H (upd H f (.lst ([] : List V))) := Kp.new hf
    refine ⟨_, rfl, a, _, rfl, k0.same _ _ hw1, ?_⟩
    refine for_enumT (fun i σ H' => ∃ ts v2 v3, σ = [some (.ref a), some (.ref f), v2, v3, none] ∧ Kp [] H H' ∧ H' f = some (.lst (ts.map V.ref)) ∧ Objs H' stO ts (tiesOf i R)) ⟨[], _, _, rfl, k0, upd_same, .nil⟩ (fun i σ H' h => ?_) (fun i x t σ H' hx h ht => ?_) (fun σ H' h => ?_)
    · obtain ⟨_, _, _, _, k1, _⟩ := h
      exact k1.same _ _ hw1
    · obtain ⟨ts, v2, v3, rfl, k1, hf1, ob⟩ := h
      have hi : i < n := by
        have := (List.getElem?_eq_some_iff.mp hx).1
        rwa [List.length_map, List.length_range] at this
      rw [range_at hi] at hx
      cases hx
      have hft : f ≠ t := ne_of_none hf1 ht
      have k2 : Kp [] H (upd H' t (.tup [.int (i : Nat), .ref (fr i)])) := k1.new' ht
      refine ⟨t, _, rfl, SqT.of upd_same, rfl, _, _, rfl, _, _, rfl, rfl, ?_⟩
      refine ⟨_, rfl, .inl ⟨rfl, _, SqL.of (by rw [upd_ne hft]; exact hf1)⟩, ?_⟩
      refine ⟨_, rfl, fr i, rfl, ⟨nVs (R i), ((hw2 i hi).kp k2 (by simp)).t⟩, fun D hD => ?_⟩
      generalize hH2 : upd H' t (.tup [.int (i : Nat), .ref (fr i)]) = H2 at k2 hD ⊢
      have hf2 : H2 f = some (.lst (ts.map V.ref)) := by rw [← hH2, upd_ne hft]; exact hf1
      have ob2 : Objs H2 stO ts (tiesOf i R) := by rw [← hH2]; exact ob.new ht
      refine lc_tup (K := K) (a := fr i) (xs := nVs (R i)) (fun j H3 => ∃ us, H3 D = some (.lst (us.map V.ref)) ∧ Kp [] H2 H3 ∧ Objs H3 stO us (((R i).take j |>.filter fun q => decide (i < q)).map fun q => (i, q))) ⟨[], upd_same, Kp.new hD, .nil⟩ (fun j H3 _ h => ?_) (fun j x H3 hx h => ?_) (fun H3 h => ?_)
      · obtain ⟨_, _, k3, _⟩ := h
        exact ((hw2 i hi).kp (k2.trans k3) (by simp)).t
      · obtain ⟨us, hD3, k3, o3⟩ := h
        rw [List.getElem?_map] at hx
        obtain ⟨y, hy, rfl⟩ := Option.map_eq_some_iff.mp hx
        refine ⟨rfl, _, rfl, _, rfl, _, _, rfl, rfl, _, rfl, ?_⟩
        by_cases hiy : i < y
        · rw [decide_eq_true (show (i : Int) < (y : Int) by omega)]
          refine iteT ?_
          refine ⟨_, rfl, _, rfl, by show 2 ≤ sizeLine; decide, fun u hu => ?_⟩
          have hDu : D ≠ u := ne_of_none hD3 hu
          refine ⟨us.map V.ref, by rw [upd_ne hDu]; exact hD3, ?_, us ++ [u], by rw [upd_same]; simp, (k3.new' hu).own hD, ?_⟩
          · have h1 := o3.len
            have h2 := List.length_filter_le (fun q => decide (i < q)) ((R i).take j)
            have h3 := List.length_take_le j (R i)
            have h4 := h9 i hi
            have h5 := List.length_take_le' j (R i)
            rw [List.length_map] at h1
            rw [List.length_map, sizeLine_eq]; omega
          · rw [take_snoc hy, List.filter_append, List.map_append]
            simp only [List.filter_cons, decide_eq_true hiy, if_true, List.filter_nil, List.map_cons, List.map_nil]
            exact Objs.grow (o := stO) (s := (i, y)) o3 hD3 (fun s => by simp) hu
        · rw [decide_eq_false (show ¬ (i : Int) < (y : Int) by omega)]
          refine iteF ?_
          refine ⟨us, hD3, k3, ?_⟩
          rw [take_snoc hy, List.filter_append]
          simp only [List.filter_cons, decide_eq_false hiy, List.filter_nil, Bool.false_eq_true, if_false, List.append_nil]
          exact o3
      · obtain ⟨us, hD3, k3, o3⟩ := h
        rw [List.length_map, List.take_length] at o3
        have hf3 := k3.same _ _ hf2
        have fD : f ≠ D := ne_of_none hf2 hD
        have l1 := ob.len
        have l2 := o3.len
        have l3 : (tiesOf i R).length ≤ 9 * i := flat_le fun p hp => by
          rw [List.length_map]
          exact Nat.le_trans (List.length_filter_le _ _) (h9 p (by omega))
        have l4 := List.length_filter_le (fun q => decide (i < q)) (R i)
        have l5 := h9 i hi
        rw [List.length_map] at l2
        refine ⟨f, D, _, _, rfl, rfl, hf3, hD3, by rw [List.length_map, List.length_map, sizeLine_eq]; omega, ?_⟩
        refine ⟨ts ++ us, _, _, rfl, (k2.trans k3).own hf, by rw [upd_same]; simp, ?_⟩
        have e : tiesOf (i + 1) R = tiesOf i R ++ ((R i).filter fun q => decide (i < q)).map fun q => (i, q) := flat_succ _ _
        rw [e]
        exact Objs.put (Paired.app (ob2.kp k3) o3) hf3 fun s => by simp
    · obtain ⟨ts, v2, v3, rfl, k1, hf1, ob⟩ := h
      rw [List.length_map, List.length_range] at ob
      refine ⟨_, rfl, f, ts, rfl, hf1, sorted_st ob, fun ts' p pm hp => ?_⟩
      obtain ⟨ss', pm2, ob2⟩ := ob.perm pm
      exact q p ts' ss' _ (k1.new' hp) (k1.free hp) upd_same (ob2.new hp) pm2
theorem sc_steps : FnScope ["web", "found", "place", "row", "other"] ["web"] (defScope s_steps) := ⟨rfl, rfl, rfl, by decide +kernel, rfl, by decide +kernel, by decide +kernel⟩
theorem ok_steps (T : Txt K mg) : Ok P w K mg base 1 "steps" ["web"] (spSts stepsOf) := by
  refine def_ok T 5 rfl rfl sc_steps (fun _ _ _ _ _ _ us hl => match us, hl with | [_], _ => rfl) (fun vs H Q E h => ?_) (fun cdv A outer s H vs Q E hr h => ?_)
  · obtain ⟨i, b, _, rfl, _⟩ := h
    rfl
  · obtain ⟨a, n, R, rfl, hw, hn, h9, q⟩ := h
    have hu3 : (A.deeper (envOfC "steps" (defScope s_steps) s.heap.objs.size (He.ga K "steps") cdv)).units + 3 < cLine := Nat.lt_of_le_of_lt (Nat.add_le_add_left (by decide) _) (units200 hr)
    refine ⟨_, (pss_cons (ps_set (i := 1) sc_steps.nd rfl (by first | exact .inl rfl | exact .inr rfl) (pe_lst pa_nil))
      (pss_cons (ps_for PassesOwn.never rfl (pi_enumT (by rfl) T.z_enumerate (pa_cons (pv 0) pa_nil)) (pg_tup (by rfl) (pgs_cons (pg_name (i := 2) sc_steps.nd rfl (by first | exact .inl rfl | exact .inr rfl)) (pgs_cons (pg_name (i := 3) sc_steps.nd rfl (by first | exact .inl rfl | exact .inr rfl)) pgs_nil))) (pss_one (ps_expr (pe_bm PySem.F.plainAttrs_list PySem.F.slot_list_extend PySem.F.type_list_extend mt_extend (pv 1) (pa_cons (pe_lc (own := [("other", 4)]) (g := (gName 4)) rfl sc_steps.nd (pi_tup (pv 3)) (blkOk_by (own := [("other", 4)]) (N := ["web", "found", "place", "row", "other"]) (sc := defScope s_steps) (by decide +kernel)) (fun _ _ _ _ _ => (pg_name (i := 4) sc_steps.nd rfl (by first | exact .inl rfl | exact .inr rfl))) (fun _ _ _ _ _ => pts_nil) (fun _ _ _ _ _ => (pe_tup (pa_cons (pv 2) (pa_cons (pv 4) pa_nil))))) pa_nil)))))
      (pss_one (ps_ret (pe_callB (cr_sortTs hu3) (by rfl) T.z_sorted (by decide +kernel) (pa_cons (pv 1) pa_nil)))))), ?_⟩
    refine ⟨by show 0 ≤ sizeLine; decide, fun f hf => ?_⟩
    obtain ⟨fr, hw1, hw2⟩ := id hw
    have k0 : Kp [] H (upd H f (.lst ([] : List V))) := Kp.new hf
    refine ⟨_, rfl, a, _, rfl, k0.same _ _ hw1, ?_⟩
    refine for_enumT (fun i σ H' => ∃ ts v2 v3, σ = [some (.ref a), some (.ref f), v2, v3, none] ∧ Kp [] H H' ∧ H' f = some (.lst (ts.map V.ref)) ∧ Objs H' stO ts (stepsOf i R)) ⟨[], _, _, rfl, k0, upd_same, .nil⟩ (fun i σ H' h => ?_) (fun i x t σ H' hx h ht => ?_) (fun σ H' h => ?_)
    · obtain ⟨_, _, _, _, k1, _⟩ := h
      exact k1.same _ _ hw1
    · obtain ⟨ts, v2, v3, rfl, k1, hf1, ob⟩ := h
      have hi : i < n := by
        have := (List.getElem?_eq_some_iff.mp hx).1
        rwa [List.length_map, List.length_range] at this
      rw [range_at hi] at hx
      cases hx
      have hft : f ≠ t := ne_of_none hf1 ht
      have k2 : Kp [] H (upd H' t (.tup [.int (i : Nat), .ref (fr i)])) := k1.new' ht
      refine ⟨t, _, rfl, SqT.of upd_same, rfl, _, _, rfl, _, _, rfl, rfl, ?_⟩
      refine ⟨_, rfl, .inl ⟨rfl, _, SqL.of (by rw [upd_ne hft]; exact hf1)⟩, ?_⟩
      refine ⟨_, rfl, fr i, rfl, ⟨nVs (R i), ((hw2 i hi).kp k2 (by simp)).t⟩, fun D hD => ?_⟩
      generalize hH2 : upd H' t (.tup [.int (i : Nat), .ref (fr i)]) = H2 at k2 hD ⊢
      have hf2 : H2 f = some (.lst (ts.map V.ref)) := by rw [← hH2, upd_ne hft]; exact hf1
      have ob2 : Objs H2 stO ts (stepsOf i R) := by rw [← hH2]; exact ob.new ht
      refine lc_tup (K := K) (a := fr i) (xs := nVs (R i)) (fun j H3 => ∃ us, H3 D = some (.lst (us.map V.ref)) ∧ Kp [] H2 H3 ∧ Objs H3 stO us (((R i).take j).map fun q => (i, q))) ⟨[], upd_same, Kp.new hD, .nil⟩ (fun j H3 _ h => ?_) (fun j x H3 hx h => ?_) (fun H3 h => ?_)
      · obtain ⟨_, _, k3, _⟩ := h
        exact ((hw2 i hi).kp (k2.trans k3) (by simp)).t
      · obtain ⟨us, hD3, k3, o3⟩ := h
        rw [List.getElem?_map] at hx
        obtain ⟨y, hy, rfl⟩ := Option.map_eq_some_iff.mp hx
        refine ⟨rfl, _, rfl, _, rfl, by show 2 ≤ sizeLine; decide, fun u hu => ?_⟩
        have hDu : D ≠ u := ne_of_none hD3 hu
        refine ⟨us.map V.ref, by rw [upd_ne hDu]; exact hD3, ?_, us ++ [u], by rw [upd_same]; simp, (k3.new' hu).own hD, ?_⟩
        · have h1 := o3.len
          have h4 := h9 i hi
          have h5 := List.length_take_le' j (R i)
          rw [List.length_map] at h1
          rw [List.length_map, sizeLine_eq]; omega
        · rw [take_snoc hy, List.map_append]
          exact Objs.grow (o := stO) (s := (i, y)) o3 hD3 (fun s => by simp) hu
      · obtain ⟨us, hD3, k3, o3⟩ := h
        rw [List.length_map, List.take_length] at o3
        have hf3 := k3.same _ _ hf2
        have fD : f ≠ D := ne_of_none hf2 hD
        have l1 := ob.len
        have l2 := o3.len
        have l3 : (stepsOf i R).length ≤ 9 * i := flat_le fun p hp => by
          rw [List.length_map]
          exact h9 p (by omega)
        have l5 := h9 i hi
        rw [List.length_map] at l2
        refine ⟨f, D, _, _, rfl, rfl, hf3, hD3, by rw [List.length_map, List.length_map, sizeLine_eq]; omega, ?_⟩
        refine ⟨ts ++ us, _, _, rfl, (k2.trans k3).own hf, by rw [upd_same]; simp, ?_⟩
        have e : stepsOf (i + 1) R = stepsOf i R ++ (R i).map fun q => (i, q) := flat_succ _ _
        rw [e]
        exact Objs.put (Paired.app (ob2.kp k3) o3) hf3 fun s => by simp
    · obtain ⟨ts, v2, v3, rfl, k1, hf1, ob⟩ := h
      rw [List.length_map, List.length_range] at ob
      refine ⟨_, rfl, f, ts, rfl, hf1, sorted_st ob, fun ts' p pm hp => ?_⟩
      obtain ⟨ss', pm2, ob2⟩ := ob.perm pm
      exact q p ts' ss' _ (k1.new' hp) (k1.free hp) upd_same (ob2.new hp) pm2
end
end Rd
set_option Elab.async false
set_option linter.all false
set_option maxRecDepth 100000
set_option maxHeartbeats 4000000
/-! Defs over webs: the step behind, steps round. -/
namespace Rd
open PySem PySem.Spec PyProof.Rows L2 Gw
section
variable {P : Program} {w : World} {K : PySem.W.Frag} {mg : Str → Option Value} {base : Heap}
theorem atI_prv {l : List Nat} {x : Nat} (h : x ∈ l) : atI (nVs l) ((l.idxOf x : Nat) - 1 : Int) = some (nV (prv l x)) := by
  obtain ⟨a, b, e, hx⟩ := split_at h
  have hi : l.idxOf x = a.length := by
    rw [e, List.idxOf_append, if_neg hx, List.idxOf_cons]
    simp
  rw [hi, e, prv_at hx]
  rcases snoc_cases a with ea | ⟨a', z, ea⟩
  · subst ea
    have e0 : ((([] : List Nat).length : Nat) - 1 : Int) = -1 := by simp
    rw [e0]
    rcases snoc_cases b with eb | ⟨b', z, eb⟩
    · subst eb
      exact atI_last ([] : List V) (nV x)
    · subst eb
      have e1 : nVs ([] ++ x :: (b' ++ [z])) = nVs (x :: b') ++ [nV z] := by simp [nVs]
      rw [e1, List.append_nil, getLastD_snoc]
      exact atI_last _ _
  · subst ea
    have e1 : nVs (a' ++ [z] ++ x :: b) = nVs a' ++ nV z :: nVs (x :: b) := by simp [nVs]
    have e2 : (((a' ++ [z]).length : Nat) - 1 : Int) = (a'.length : Nat) := by simp
    rw [e1, e2, ← List.append_assoc, getLastD_snoc]
    refine atI_nat ?_
    have e3 : a'.length = (nVs a').length := by simp
    rw [e3, List.getElem?_append_right (Nat.le_refl _), Nat.sub_self]
    rfl
theorem nV_inj {a b : Nat} (h : nV a = nV b) : a = b := by
  injection h with h; omega
abbrev stD (s : S) : PyData := .tuple [.int s.1, .int s.2]
theorem stD_eqv (s s' : S) : PyData.eqv (stD s) (stD s') = decide (s = s') := by
  obtain ⟨a, b⟩ := s
  obtain ⟨c, d⟩ := s'
  have e : PyData.eqv (stD (a, b)) (stD (c, d)) = (((a : Int) == (c : Int)) && (((b : Int) == (d : Int)) && true)) := rfl
  rw [e, Bool.and_true]
  by_cases h1 : a = c
  · by_cases h2 : b = d
    · subst h1; subst h2; simp
    · have : ¬ (b : Int) = (d : Int) := by omega
      simp [h2, this]
  · have : ¬ (a : Int) = (c : Int) := by omega
    simp [h1, this]
theorem dd_st {H : Hp} {t : Addr} {s : S} (h : H t = some (stO s)) : DD H (.ref t) (stD s) :=
  ⟨fun K => dd_ints (ns := [(s.1 : Int), (s.2 : Int)]) h K, by simp [SeqAt.shaped, PyData.canLay0, PyData.canLayAll0, PyData.depth, PyData.depthAll]⟩
/-! ### behind -/
theorem sc_behind : FnScope ["web", "step", "place", "other", "row"] ["web", "step"] (defScope s_behind) := ⟨rfl, rfl, rfl, by decide +kernel, rfl, by decide +kernel, by decide +kernel⟩
def sp_behind : Sp := fun vs H Q _ => ∃ (a b : Addr) (n : Nat) (R : Rows) (s : S), vs = [.ref a, .ref b] ∧ WebT H a n R ∧ H b = some (stO s) ∧ s.2 < n ∧ s.1 ∈ R s.2 ∧ ∀ t, H t = none → Q (.ref t) (upd H t (stO (phi R s)))
theorem ok_behind (T : Txt K mg) : Ok P w K mg base 1 "behind" ["web", "step"] sp_behind := by
  refine def_ok T 6 rfl rfl sc_behind (fun _ _ _ _ _ _ us hl => match us, hl with | [_, _], _ => rfl) (fun vs H Q E h => ?_) (fun cdv A outer s H vs Q E hr h => ?_)
  · obtain ⟨i, b, _, _, _, rfl, _⟩ := h
    rfl
  · obtain ⟨a, b, n, R, ⟨p, q'⟩, rfl, ⟨fr, hw1, hw2⟩, hb, hq, hp, q⟩ := h
    refine ⟨_, (pss_cons (ps_asg (pv 1) (pg_tup (by rfl) (pgs_cons (pg_name (i := 2) sc_behind.nd rfl (by first | exact .inl rfl | exact .inr rfl)) (pgs_cons (pg_name (i := 3) sc_behind.nd rfl (by first | exact .inl rfl | exact .inr rfl)) pgs_nil))))
      (pss_cons (ps_set (i := 4) sc_behind.nd rfl (by first | exact .inl rfl | exact .inr rfl) (pe_ix ixH (pv 0) (pv 3) (fun _ _ => rfl)))
      (pss_one (ps_ret (pe_tup (pa_cons (pv 3) (pa_cons (pe_ix ixH (pv 4) (pe_op op_sub (pe_tix (pv 4) (pa_cons (pv 2) pa_nil)) pe_int) (fun _ _ => rfl)) pa_nil))))))), ?_⟩
    have hrow : FzT H (fr q') ((zs (R q')).map V.int) := by
      rw [← nVs_zs]
      exact hw2 q' hq
    refine ⟨_, rfl, b, _, rfl, SqT.of hb, rfl, _, _, rfl, _, _, rfl, rfl, _, rfl, _, rfl, a, _, _, _, rfl, rfl, .inr (.inl hw1), atI_range hq, _, rfl, _, rfl, _, rfl, fr q', zs (R q'), rfl, hrow, _, rfl, _, rfl, hrow, zs_mem.mpr hp, ?_⟩
    rw [zs_idx]
    refine ⟨_, _, rfl, rfl, fr q', _, _, _, rfl, rfl, (hw2 q' hq).sq, atI_prv hp, by show 2 ≤ sizeLine; decide, q⟩
/-! ### steps_round -/
theorem total_le {n : Nat} {R : Rows} (W : Web n R) (hn : n ≤ 9) : total n R ≤ 81 := by
  rw [← len_stepsOf]
  have h := flat_le (n := n) (f := fun p => (R p).map fun q => (p, q)) fun p hp => by
    rw [List.length_map]
    exact Nat.le_trans (nd_le (W.nd p) fun x hx => W.lt2 hx) hn
  unfold stepsOf
  omega
theorem path_le {n : Nat} {R : Rows} (W : Web n R) {l : List S} (nd : l.Nodup) (st : ∀ x, x ∈ l → stp R x) : l.length ≤ total n R := by
  rw [← len_stepsOf]
  exact nodup_len nd fun x hx => (mem_stepsOf W x).mpr (st x hx)
theorem sc_steps_round : FnScope ["web", "step", "found", "here"] ["web", "step"] (defScope s_steps_round) := ⟨rfl, rfl, rfl, by decide +kernel, rfl, by decide +kernel, by decide +kernel⟩
def sp_steps_round : Sp := fun vs H Q _ => ∃ (a b : Addr) (n : Nat) (R : Rows) (s : S), vs = [.ref a, .ref b] ∧ WebT H a n R ∧ H b = some (stO s) ∧ Web n R ∧ n ≤ 9 ∧ stp R s ∧
  ∀ p ts t H', Kp [] H H' → H' p = some (.lst (ts.map V.ref)) → Objs H' stO ts (s :: t) → Cyc R (s :: t) → Q (.ref p) H'
theorem ok_steps_round (T : Txt K mg) : Ok P w K mg base 2 "steps_round" ["web", "step"] sp_steps_round := by
  have O_behind : Ok P w K mg base 1 "behind" ["web", "step"] sp_behind := ok_behind T
  refine def_ok T 7 rfl rfl sc_steps_round (fun _ _ _ _ _ _ us hl => match us, hl with | [_, _], _ => rfl) (fun vs H Q E h => ?_) (fun cdv A outer s H vs Q E hr h => ?_)
  · obtain ⟨i, b, _, _, _, rfl, _⟩ := h
    rfl
  · obtain ⟨a, b, n, R, st, rfl, hw, hb, W, hn, hst, q⟩ := h
    have hu64 : (A.deeper (envOfC "steps_round" (defScope s_steps_round) s.heap.objs.size (He.ga K "steps_round") cdv)).units + 64 < cLine := Nat.lt_of_le_of_lt (Nat.add_le_add_left (by decide) _) (units200 hr)
    refine ⟨_, (pss_cons (ps_set (i := 2) sc_steps_round.nd rfl (by first | exact .inl rfl | exact .inr rfl) (pe_lst (pa_cons (pv 1) pa_nil)))
      (pss_cons (ps_set (i := 3) sc_steps_round.nd rfl (by first | exact .inl rfl | exact .inr rfl) (pe_f O_behind hr (by rfl) (pa_cons (pv 0) (pa_cons (pv 1) pa_nil))))
      (pss_cons (ps_while PassesOwn.never (pt_cmpR (op_neH hu64) (pv 3) (pv 1) (nomark _)) (pss_cons (ps_expr (pe_bm PySem.F.plainAttrs_list PySem.F.slot_list_append PySem.F.type_list_append mt_append (pv 2) (pa_cons (pv 3) pa_nil)))
      (pss_one (ps_set (i := 3) sc_steps_round.nd rfl (by first | exact .inl rfl | exact .inr rfl) (pe_f O_behind hr (by rfl) (pa_cons (pv 0) (pa_cons (pv 3) pa_nil)))))))
      (pss_one (ps_ret (pv 2)))))), ?_⟩
    refine ⟨_, rfl, by show 1 ≤ sizeLine; decide, fun f hf => ?_⟩
    have k0 : Kp [] H (upd H f (.lst [.ref b])) := Kp.new hf
    refine ⟨_, rfl, _, rfl, a, b, n, R, st, rfl, hw.kp k0, k0.same _ _ hb, W.lt2 hst, W.sym _ _ hst, fun h0 hh0 => ?_⟩
    have fh0 : f ≠ h0 := ne_of_none upd_same hh0
    refine while_by (fun σ H' => ∃ t ts h hA, σ = [some (.ref a), some (.ref b), some (.ref f), some (.ref hA)] ∧ Kp [] H H' ∧ H' f = some (.lst (ts.map V.ref)) ∧ Objs H' stO ts (st :: t) ∧ H' hA = some (stO h) ∧ lnk (phi R) (st :: t) h ∧ (st :: t).Nodup ∧ (∀ x, x ∈ st :: t → stp R x) ∧ stp R h)
      (fun σ H' => total n R + 1 - (match H' f with | some (.lst xs) => xs.length | _ => 0)) ⟨[], [b], phi R st, h0, rfl, k0.new' hh0, by rw [upd_ne fh0]; exact upd_same, .cons ?_ .nil, upd_same, ⟨rfl, trivial⟩, by simp, fun x hx => by rw [List.mem_singleton.mp hx]; exact hst, W.phi_stp hst⟩ ?_ (fun σ H Q Q' k h => ?_)
    · have e := k0.same _ _ hb
      rw [upd_ne (ne_of_none e hh0)]
      exact e
    · rintro σ H1 ⟨t, ts, h, hA, rfl, k1, hf1, ob, hh, lk, nd, sts, hsh⟩
      refine ⟨_, rfl, _, rfl, stD h, stD st, dd_st hh, dd_st (k1.same _ _ hb), _, rfl, ?_⟩
      rw [stD_eqv]
      by_cases e : h = st
      · subst e
        rw [decide_eq_true rfl]
        refine iteF ?_
        exact ⟨_, rfl, q f ts t H1 k1 hf1 ob ⟨by simp, nd, sts, lk⟩⟩
      · rw [decide_eq_false e]
        refine iteT ?_
        obtain ⟨g1, g2, g3⟩ := W.grow lk nd sts e
        have nd' : (st :: (t ++ [h])).Nodup := by
          rw [← List.cons_append]
          refine List.nodup_append.mpr ⟨nd, by simp, fun x hx y hy e => ?_⟩
          rw [List.mem_singleton.mp hy] at e
          exact g1 (e ▸ hx)
        have st' : ∀ x, x ∈ st :: (t ++ [h]) → stp R x := fun x hx => by
          rw [← List.cons_append] at hx
          rcases List.mem_append.mp hx with z | z
          · exact sts x z
          · rw [List.mem_singleton.mp z]; exact g2
        have le := path_le W nd' st'
        have tl := total_le W hn
        have l1 := ob.len
        have l2 : (st :: (t ++ [h])).length = (st :: t).length + 1 := by simp
        have k2 : Kp [] H (upd H1 f (.lst (ts.map V.ref ++ [.ref hA]))) := k1.own hf
        have fhA : f ≠ hA := by intro z; rw [← z, hf1] at hh; cases hh
        refine ⟨_, rfl, .inl ⟨rfl, _, SqL.of hf1⟩, _, rfl, f, _, _, rfl, rfl, hf1, by rw [List.length_map, sizeLine_eq]; omega, ?_⟩
        refine ⟨_, rfl, _, rfl, a, hA, n, R, h, rfl, hw.kp k2, by rw [upd_ne fhA.symm]; exact hh, W.lt2 g2, W.sym _ _ g2, fun h2 hh2 => ?_⟩
        have fh2 : f ≠ h2 := ne_of_none upd_same hh2
        refine ⟨⟨t ++ [h], ts ++ [hA], phi R h, h2, rfl, k2.new' hh2, ?_, ?_, upd_same, g3, nd', st', W.phi_stp g2⟩, ?_⟩
        · rw [upd_ne fh2, upd_same]; simp
        · refine Objs.new ?_ hh2
          refine Objs.put (u := .lst (ts.map V.ref)) ?_ hf1 fun s => by simp
          rw [← List.cons_append]
          exact ob.snoc hh
        · show total n R + 1 - (match upd (upd H1 f _) h2 _ f with | some (.lst xs) => xs.length | _ => 0) < total n R + 1 - (match H1 f with | some (.lst xs) => xs.length | _ => 0)
          rw [upd_ne fh2, upd_same, hf1]
          simp only [List.length_append, List.length_map, List.length_singleton]
          omega
    · obtain ⟨v, e1, v2, e2, d, e, e3, e4, b, e7, h⟩ := h
      exact ⟨v, e1, v2, e2, d, e, e3, e4, b, e7, k _ _ h⟩
end
end Rd
set_option Elab.async false
set_option linter.all false
set_option maxRecDepth 100000
set_option maxHeartbeats 4000000
/-! Lists of steps as data; slices. -/
namespace Rd
open PySem PySem.Spec PyProof.Rows L2 Gw
theorem dpAll_sts {H : Hp} (K : PySem.W.Frag) {ts : List Addr} {ss : List S} (h : Objs H stO ts ss) : DpAll K H (ts.map V.ref) (ss.map stD) := by
  induction h with
  | nil => exact .nil
  | cons a _ ih => exact .cons ((dd_st a).1 K) ih
theorem sts_lay : ∀ ss : List S, PyData.canLayAll0 (ss.map stD) = true
  | [] => rfl
  | s :: ss => by
    have := sts_lay ss
    simp [PyData.canLayAll0, stD, PyData.canLay0, this]
theorem sts_depth : ∀ ss : List S, PyData.depthAll (ss.map stD) ≤ 1
  | [] => by simp [PyData.depthAll]
  | s :: ss => by
    have := sts_depth ss
    rw [List.map_cons, PyData.depthAll]
    exact Nat.max_le.mpr ⟨by simp [PyData.depth, PyData.depthAll], this⟩
theorem sts_shaped (ss : List S) : SeqAt.shaped (.list (ss.map stD)) = true := by
  have h1 := sts_lay ss
  have h2 := sts_depth ss
  refine Bool.and_eq_true_iff.mpr ⟨by simpa [PyData.canLay0] using h1, decide_eq_true ?_⟩
  rw [PyData.depth]
  omega
theorem dd_sts {H : Hp} {a : Addr} {ts : List Addr} {ss : List S} (h : H a = some (.lst (ts.map V.ref))) (o : Objs H stO ts ss) : DD H (.ref a) (.list (ss.map stD)) := ⟨fun K => .lst (SqL.of h) (dpAll_sts K o), sts_shaped ss⟩
theorem cut_drop (xs : List V) {k : Nat} (h : k ≤ xs.length) : cutV xs (some (k : Int)) none = xs.drop k := by
  unfold cutV
  rw [HT.sIx_nat, HT.sIx_none, Nat.min_eq_left h]
  exact List.take_of_length_le (by rw [List.length_drop]; omega)
theorem cut_take (xs : List V) {k : Nat} (h : k ≤ xs.length) : cutV xs none (some (k : Int)) = xs.take k := by
  unfold cutV
  rw [HT.sIx_nat, HT.sIx_none, Nat.min_eq_left h, List.drop_zero, Nat.sub_zero]
theorem Paired.drop {α β : Type} {F : α → β → Prop} {l : List α} {m : List β} (h : Paired F l m) : ∀ k, Paired F (l.drop k) (m.drop k) := by
  induction h with
  | nil => intro k; simp; exact .nil
  | cons a t ih =>
    intro k
    cases k with
    | zero => exact .cons a t
    | succ k => exact ih k
theorem Paired.take {α β : Type} {F : α → β → Prop} {l : List α} {m : List β} (h : Paired F l m) : ∀ k, Paired F (l.take k) (m.take k) := by
  induction h with
  | nil => intro k; simp; exact .nil
  | cons a t ih =>
    intro k
    cases k with
    | zero => exact .nil
    | succ k => exact .cons a (ih k)
/-- tuples stay -/
def TK (H H' : Hp) : Prop := ∀ b xs, H b = some (.tup xs) → H' b = some (.tup xs)
theorem TK.kp {H H' : Hp} (k : Kp [] H H') : TK H H' := fun b xs e => k.same _ _ e
theorem TK.put {H : Hp} {D : Addr} {xs : List V} {v : HO} (e : H D = some (.lst xs)) : TK H (upd H D v) := fun b ys h => by
  rw [upd_ne]
  · exact h
  · intro z; subst z; rw [e] at h; cases h
theorem TK.new {H : Hp} {p : Addr} {v : HO} (e : H p = none) : TK H (upd H p v) := TK.kp (Kp.new e)
theorem TK.trans {H H' H2 : Hp} (a : TK H H') (b : TK H' H2) : TK H H2 := fun c xs e => b c xs (a c xs e)
/-- pairs (step, True) -/
def Pr1 (H : Hp) : List Addr → List S → Prop := Paired fun u s => ∃ kq, H u = some (.tup [.ref kq, .bl true]) ∧ H kq = some (stO s)
theorem Pr1.tk {H H' : Hp} {us : List Addr} {ss : List S} (h : Pr1 H us ss) (k : TK H H') : Pr1 H' us ss := Paired.mapP h fun _ _ ⟨kq, a, b⟩ => ⟨kq, k _ _ a, k _ _ b⟩
abbrev stE (s : S) : List Key × V := (stK s.1 s.2, .bl true)
theorem Pr1.prT {H : Hp} {us : List Addr} {ss : List S} (h : Pr1 H us ss) : PrT H us (ss.map stE) := by
  induction h with
  | nil => exact .nil
  | cons a _ ih => exact .cons a ih
theorem stE_fst (ss : List S) : (ss.map stE).map (·.1) = ss.map fun s => stK s.1 s.2 := by rw [List.map_map]; rfl
theorem stK_nodup : ∀ {ss : List S}, ss.Nodup → (ss.map fun s => stK s.1 s.2).Nodup
  | [], _ => .nil
  | s :: ss, h => by
    rw [List.nodup_cons] at h
    rw [List.map_cons, List.nodup_cons]
    refine ⟨fun hm => h.1 ?_, stK_nodup h.2⟩
    obtain ⟨x, hx, e⟩ := List.mem_map.mp hm
    obtain ⟨e1, e2⟩ := stK_inj e
    have : x = s := Prod.ext e1 e2
    rwa [this] at hx
theorem stK_mem {ss : List S} {s : S} : stK s.1 s.2 ∈ ss.map (fun s => stK s.1 s.2) ↔ s ∈ ss := by
  rw [List.mem_map]
  constructor
  · rintro ⟨x, hx, e⟩
    obtain ⟨e1, e2⟩ := stK_inj e
    have : x = s := Prod.ext e1 e2
    rwa [this] at hx
  · exact fun h => ⟨s, h, rfl⟩
abbrev tuO (l : List Nat) : HO := .tup (nVs l)
theorem sorted_tu {H : Hp} {ts : List Addr} {ls : List (List Nat)} (h : Objs H tuO ts ls) (ne : ∀ l, l ∈ ls → l ≠ []) : ∀ t, t ∈ ts → ∃ (x : Int) (r : List Int), H t = some (.tup ((x :: r).map V.int)) := fun t ht => by
  obtain ⟨j, hj⟩ := List.mem_iff_getElem?.mp ht
  obtain ⟨l, hl, e⟩ := Paired.at h hj
  cases l with
  | nil => exact absurd rfl (ne _ (List.mem_of_getElem? hl))
  | cons x r => exact ⟨x, zs r, by rw [e, tuO, nVs_zs]; rfl⟩
end Rd
set_option Elab.async false
set_option linter.all false
set_option maxRecDepth 100000
set_option maxHeartbeats 4000000
/-! Defs over webs: faces. -/
namespace Rd
open PySem PySem.Spec PyProof.Rows L2 Gw
section
variable {P : Program} {w : World} {K : PySem.W.Frag} {mg : Str → Option Value} {base : Heap}
theorem sc_told_round : FnScope ["some", "at", "step"] ["some"] (defScope s_told_round) := ⟨rfl, rfl, rfl, by decide +kernel, rfl, by decide +kernel, by decide +kernel⟩
def sp_told_round : Sp := fun vs H Q _ => ∃ (a : Addr) (ts : List Addr) (R : Rows) (c : List S), vs = [.ref a] ∧ H a = some (.lst (ts.map V.ref)) ∧ Objs H stO ts c ∧ Cyc R c ∧ c.length ≤ 81 ∧
  ∀ p l H', Kp [] H H' → H' p = some (.tup (nVs l)) → Told R c l → Q (.ref p) H'
theorem ok_told_round (T : Txt K mg) : Ok P w K mg base 1 "told_round" ["some"] sp_told_round := by
  refine def_ok T 8 rfl rfl sc_told_round (fun _ _ _ _ _ _ us hl => match us, hl with | [_], _ => rfl) (fun vs H Q E h => ?_) (fun cdv A outer s H vs Q E hr h => ?_)
  · obtain ⟨i, b, _, _, rfl, _⟩ := h
    rfl
  · obtain ⟨a, ts, R, c, rfl, ha, ob, cy, hl, q⟩ := h
    have hu : (A.deeper (envOfC "told_round" (defScope s_told_round) s.heap.objs.size (He.ga K "told_round") cdv)).units + 1 < cLine := Nat.lt_of_le_of_lt (Nat.add_le_add_left (by decide) _) (units200 hr)
    have hu65 : (A.deeper (envOfC "told_round" (defScope s_told_round) s.heap.objs.size (He.ga K "told_round") cdv)).units + 65 < cLine := Nat.lt_of_le_of_lt (Nat.add_le_add_left (by decide) _) (units200 hr)
    refine ⟨_, (pss_cons (ps_set (i := 1) sc_told_round.nd rfl (by first | exact .inl rfl | exact .inr rfl) (pe_bm PySem.F.plainAttrs_list PySem.F.slot_list_index PySem.F.type_list_index (mt_indexD hu65) (pv 0) (pa_cons (pe_callB (cr_minT rfl hu) (by rfl) T.z_min (by decide +kernel) (pa_cons (pv 0) pa_nil)) pa_nil)))
      (pss_one (ps_ret (pe_callTy call_tupH (by rfl) T.z_tuple (by decide +kernel) (pa_cons (pe_lc (own := [("step", 2)]) (g := (gName 2)) rfl sc_told_round.nd (pi_list (pe_op op_cat (pe_slice sl_list (pv 0) (po_some (pv 1)) po_none) (pe_slice sl_list (pv 0) po_none (po_some (pv 1))))) (blkOk_by (own := [("step", 2)]) (N := ["some", "at", "step"]) (sc := defScope s_told_round) (by decide +kernel)) (fun _ _ _ _ _ => (pg_name (i := 2) sc_told_round.nd rfl (by first | exact .inl rfl | exact .inr rfl))) (fun _ _ _ _ _ => pts_nil) (fun _ _ _ _ _ => (pe_ix ixH (pv 2) pe_int (fun _ _ => rfl)))) pa_nil))))), ?_⟩
    refine ⟨_, rfl, .inl ⟨rfl, _, SqL.of ha⟩, _, rfl, a, ts, c, rfl, ha, ob.len, fun i t p ht hp => ?_, cy.ne, fun k t m ht hm hle => ?_⟩
    · obtain ⟨s, hs, e⟩ := Paired.at ob ht
      rw [hp] at hs
      cases hs
      exact e
    have kl := (List.getElem?_eq_some_iff.mp hm).1
    obtain ⟨s, hs, hto⟩ := Paired.at ob ht
    rw [hm] at hs
    cases hs
    have nd := cy.nd
    refine ⟨a, _, stD m, c.map stD, k, stD m, rfl, rfl, (dd_sts ha ob).1 _, (dd_st hto).1 _, sts_shaped c, (dd_st hto).2, by rw [List.getElem?_map, hm]; rfl, by rw [stD_eqv]; simp, fun j z hj hz => ?_, ?_⟩
    · rw [List.getElem?_map] at hz
      obtain ⟨y, hy, rfl⟩ := Option.map_eq_some_iff.mp hz
      rw [stD_eqv, decide_eq_false]
      intro e
      subst e
      have jl := (List.getElem?_eq_some_iff.mp hy).1
      have := (List.getElem?_inj jl nd).mp (hy.trans hm.symm)
      omega
    · have tl := ob.len
      have ktl : k ≤ ts.length := by omega
      have e0 : (ts.map V.ref).length = ts.length := List.length_map _
      refine ⟨_, rfl, _, rfl, _, rfl, a, _, rfl, SqL.of ha, fun p1 hp1 => ?_⟩
      have ha1 : upd H p1 (.lst (cutV (ts.map V.ref) (some (k : Int)) none)) a = some (.lst (ts.map V.ref)) := by rw [upd_ne (ne_of_none ha hp1)]; exact ha
      refine ⟨_, rfl, _, rfl, _, rfl, a, _, rfl, SqL.of ha1, fun p2 hp2 => ?_⟩
      have h12 : p1 ≠ p2 := ne_of_none upd_same hp2
      rw [cut_drop _ (by rw [e0]; exact ktl), cut_take _ (by rw [e0]; exact ktl)] at *
      refine ⟨p1, p2, _, _, rfl, rfl, by rw [upd_ne h12, upd_same], upd_same, by simp only [List.length_drop, List.length_take, List.length_map, sizeLine_eq]; omega, fun p3 hp3 => ?_⟩
      have k3 : Kp [] H (upd (upd (upd H p1 (.lst ((ts.map V.ref).drop k))) p2 (.lst ((ts.map V.ref).take k))) p3 (.lst ((ts.map V.ref).drop k ++ (ts.map V.ref).take k))) := ((Kp.new hp1).new' hp2).new' hp3
      have h3 : upd (upd (upd H p1 (.lst ((ts.map V.ref).drop k))) p2 (.lst ((ts.map V.ref).take k))) p3 (.lst ((ts.map V.ref).drop k ++ (ts.map V.ref).take k)) p3 = some (.lst ((ts.drop k ++ ts.take k).map V.ref)) := by
        rw [upd_same, List.map_append, List.map_drop, List.map_take]
      generalize upd (upd (upd H p1 (.lst ((ts.map V.ref).drop k))) p2 (.lst ((ts.map V.ref).take k))) p3 (.lst ((ts.map V.ref).drop k ++ (ts.map V.ref).take k)) = H3 at k3 h3 ⊢
      have ob3 : Objs H3 stO (ts.drop k ++ ts.take k) (c.drop k ++ c.take k) := Paired.app (Paired.drop (ob.kp k3) k) (Paired.take (ob.kp k3) k)
      have l3 := ob3.len
      refine ⟨p3, rfl, ⟨_, SqL.of h3⟩, fun D hD => ?_⟩
      generalize ts.drop k ++ ts.take k = us at h3 ob3 l3
      have cyr : Cyc R (c.drop k ++ c.take k) := Cyc.rot (l1 := c.take k) (l2 := c.drop k) (by rw [List.take_append_drop]; exact cy)
      have lr : (c.drop k ++ c.take k).length = c.length := by simp only [List.length_append, List.length_drop, List.length_take]; omega
      refine lc_list (K := K) (a := p3) (xs := us.map V.ref) (fun i H' => H' = upd H3 D (.lst (nVs (((c.drop k ++ c.take k).take i).map (·.1))))) rfl (fun i H' _ h => ?_) (fun i x H' hx h => ?_) (fun H' h => ?_)
      · subst h
        exact SqL.of (by rw [upd_ne (ne_of_none h3 hD)]; exact h3)
      · subst h
        rw [List.getElem?_map] at hx
        obtain ⟨u, hu, rfl⟩ := Option.map_eq_some_iff.mp hx
        obtain ⟨y, hy, hyo⟩ := Paired.at ob3 hu
        have il := (List.getElem?_eq_some_iff.mp hy).1
        refine ⟨rfl, _, rfl, u, _, _, _, rfl, rfl, .inr (.inl (by rw [upd_ne (ne_of_none hyo hD)]; exact hyo)), rfl, _, upd_same, ?_, ?_⟩
        · simp only [List.length_map, List.length_take, sizeLine_eq]; omega
        · rw [upd_upd, take_snoc hy]
          simp [nVs]
      · rw [List.length_map, l3, List.take_length] at h
        subst h
        refine ⟨D, _, rfl, upd_same, fun p hp => ?_⟩
        refine q p ((c.drop k ++ c.take k).map (·.1)) _ ((k3.new' hD).new' hp) upd_same ⟨m, c.drop (k + 1) ++ c.take k, ?_, ?_, ?_, ?_⟩
        · have e : c.drop k = m :: c.drop (k + 1) := by
            rw [List.drop_eq_getElem_cons kl]
            congr 1
            rw [List.getElem?_eq_getElem kl] at hm
            exact Option.some.inj hm
          rw [e] at cyr
          exact cyr
        · intro x
          have e : c.drop k = m :: c.drop (k + 1) := by
            rw [List.drop_eq_getElem_cons kl]
            congr 1
            rw [List.getElem?_eq_getElem kl] at hm
            exact Option.some.inj hm
          rw [← List.cons_append, ← e, List.mem_append]
          conv => rhs; rw [← List.take_append_drop k c, List.mem_append]
          exact Or.comm
        · intro x hx
          have : x ∈ c := by
            rcases List.mem_append.mp hx with z | z
            · exact List.mem_of_mem_drop z
            · exact List.mem_of_mem_take z
          exact hle x this
        · have e : c.drop k = m :: c.drop (k + 1) := by
            rw [List.drop_eq_getElem_cons kl]
            congr 1
            rw [List.getElem?_eq_getElem kl] at hm
            exact Option.some.inj hm
          rw [e, List.cons_append]
/-! ### faces -/
theorem sc_faces : FnScope ["web", "known", "found", "step", "some", "one"] ["web"] (defScope s_faces) := ⟨rfl, rfl, rfl, by decide +kernel, rfl, by decide +kernel, by decide +kernel⟩
def sp_faces : Sp := fun vs H Q _ => ∃ (a : Addr) (n : Nat) (R : Rows), vs = [.ref a] ∧ WebT H a n R ∧ Web n R ∧ n ≤ 9 ∧
  ∀ p ts ls cs H', Kp [] H H' → H' p = some (.lst (ts.map V.ref)) → Objs H' tuO ts ls → Dec R cs → ls.length = cs.length → (∀ c, c ∈ cs → ∃ l, l ∈ ls ∧ Told R c l) → Q (.ref p) H'
theorem Cyc.len_le {n : Nat} {R : Rows} (W : Web n R) (hn : n ≤ 9) {c : List S} (h : Cyc R c) : c.length ≤ 81 := Nat.le_trans (path_le W h.nd h.st) (total_le W hn)
theorem Cycs.len_le {n : Nat} {R : Rows} (W : Web n R) (hn : n ≤ 9) {cs : List (List S)} (h : Cycs R cs) : cs.flatten.length ≤ 81 :=
  Nat.le_trans (path_le W h.nd fun x hx => by
    obtain ⟨c, hc, hx⟩ := List.mem_flatten.mp hx
    exact (h.cyc c hc).st x hx) (total_le W hn)
theorem Cycs.num_le {R : Rows} {cs : List (List S)} (h : ∀ c, c ∈ cs → Cyc R c) : cs.length ≤ cs.flatten.length := by
  induction cs with
  | nil => simp
  | cons c cs ih =>
    have h1 := ih fun x hx => h x (List.mem_cons_of_mem _ hx)
    have h2 : c.length ≠ 0 := fun e => (h c (List.mem_cons_self ..)).ne (List.length_eq_zero_iff.mp e)
    rw [List.flatten_cons, List.length_append, List.length_cons]
    omega
theorem ok_faces (T : Txt K mg) : Ok P w K mg base 3 "faces" ["web"] sp_faces := by
  have O_steps : Ok P w K mg base 2 "steps" ["web"] (spSts stepsOf) := (ok_steps T).mono (by decide)
  have O_steps_round : Ok P w K mg base 2 "steps_round" ["web", "step"] sp_steps_round := ok_steps_round T
  have O_told_round : Ok P w K mg base 2 "told_round" ["some"] sp_told_round := (ok_told_round T).mono (by decide)
  refine def_ok T 9 rfl rfl sc_faces (fun _ _ _ _ _ _ us hl => match us, hl with | [_], _ => rfl) (fun vs H Q E h => ?_) (fun cdv A outer s H vs Q E hr h => ?_)
  · obtain ⟨i, b, _, rfl, _⟩ := h
    rfl
  · obtain ⟨a, n, R, rfl, hw, W, hn, q⟩ := h
    have hu : (A.deeper (envOfC "faces" (defScope s_faces) s.heap.objs.size (He.ga K "faces") cdv)).units + 1 < cLine := Nat.lt_of_le_of_lt (Nat.add_le_add_left (by decide) _) (units200 hr)
    have hu2 : (A.deeper (envOfC "faces" (defScope s_faces) s.heap.objs.size (He.ga K "faces") cdv)).units + 2 < cLine := Nat.lt_of_le_of_lt (Nat.add_le_add_left (by decide) _) (units200 hr)
    have hu3 : (A.deeper (envOfC "faces" (defScope s_faces) s.heap.objs.size (He.ga K "faces") cdv)).units + 3 < cLine := Nat.lt_of_le_of_lt (Nat.add_le_add_left (by decide) _) (units200 hr)
    refine ⟨_, (pss_cons (ps_set (i := 1) sc_faces.nd rfl (by first | exact .inl rfl | exact .inr rfl) pe_dnewT)
      (pss_cons (ps_set (i := 2) sc_faces.nd rfl (by first | exact .inl rfl | exact .inr rfl) (pe_lst pa_nil))
      (pss_cons (ps_for PassesOwn.never rfl (pi_list (pe_f O_steps hr (by rfl) (pa_cons (pv 0) pa_nil))) (pg_name (i := 3) sc_faces.nd rfl (by first | exact .inl rfl | exact .inr rfl)) (pss_one (ps_if (pt_cmp (pc_dnotin hu (pv 3) (pv 1))) (pss_cons (ps_set (i := 4) sc_faces.nd rfl (by first | exact .inl rfl | exact .inr rfl) (pe_f O_steps_round hr (by rfl) (pa_cons (pv 0) (pa_cons (pv 3) pa_nil))))
      (pss_cons (ps_expr (pe_bm PySem.F.plainAttrs_dict PySem.F.slot_dict_update PySem.F.type_dict_update (mt_updT hu) (pv 1) (pa_cons (pe_callTy (call_dictT rfl hu2) (by rfl) T.z_dict (by decide +kernel) (pa_cons (pe_lc (own := [("one", 5)]) (g := (gName 5)) rfl sc_faces.nd (pi_list (pv 4)) (blkOk_by (own := [("one", 5)]) (N := ["web", "known", "found", "step", "some", "one"]) (sc := defScope s_faces) (by decide +kernel)) (fun _ _ _ _ _ => (pg_name (i := 5) sc_faces.nd rfl (by first | exact .inl rfl | exact .inr rfl))) (fun _ _ _ _ _ => pts_nil) (fun _ _ _ _ _ => (pe_tup (pa_cons (pv 5) (pa_cons pe_bl pa_nil))))) pa_nil)) pa_nil)))
      (pss_one (ps_expr (pe_bm PySem.F.plainAttrs_list PySem.F.slot_list_append PySem.F.type_list_append mt_append (pv 2) (pa_cons (pe_f O_told_round hr (by rfl) (pa_cons (pv 4) pa_nil)) pa_nil)))))) pss_nil)))
      (pss_one (ps_ret (pe_callB (cr_sortTs hu3) (by rfl) T.z_sorted (by decide +kernel) (pa_cons (pv 2) pa_nil))))))), ?_⟩
    refine fun d hd => ?_
    refine ⟨by show 0 ≤ sizeLine; decide, fun f hf => ?_⟩
    have hfd : d ≠ f := ne_of_none upd_same hf
    have k0 : Kp [] H (upd (upd H d (.dT [])) f (.lst [])) := (Kp.new hd).new' hf
    have hfH : H f = none := (Kp.new hd).free hf
    refine ⟨_, rfl, a, n, R, rfl, hw.kp k0, hn, fun p hp => Nat.le_trans (nd_le (W.nd p) fun x hx => W.lt2 hx) hn, fun sA tsS ss H1 k1 nsA hs1 obS pm => ?_⟩
    refine ⟨sA, rfl, ⟨_, SqL.of hs1⟩, ?_⟩
    have hd1 : H1 d = some (.dT []) := k1.same _ _ (by rw [upd_ne hfd, upd_same])
    have hf1 : H1 f = some (.lst []) := k1.same _ _ upd_same
    have hsf : f ≠ sA := ne_of_none upd_same nsA
    refine for_list (K := K) (xs := tsS.map V.ref) (fun i σ H' => ∃ cs ls ts kvs v3 v4, σ = [some (.ref a), some (.ref d), some (.ref f), v3, v4, none] ∧ Kp [] H H' ∧ H' sA = some (.lst (tsS.map V.ref)) ∧ Objs H' stO tsS ss ∧ H' f = some (.lst (ts.map V.ref)) ∧ H' d = some (.dT kvs) ∧
      Objs H' tuO ts ls ∧ Cycs R cs ∧ Paired (Told R) cs ls ∧ kvs.length ≤ cs.flatten.length ∧ (∀ s, (valV kvs (stK s.1 s.2)).isSome = true ↔ s ∈ cs.flatten) ∧ ∀ j s, j < i → ss[j]? = some s → s ∈ cs.flatten) ?_ (fun i σ H' _ h => ?_) (fun i x σ H' hx h => ?_) (fun σ H' h => ?_)
    · exact ⟨[], [], [], [], _, _, rfl, k0.trans k1, hs1, obS, hf1, hd1, .nil, ⟨fun c hc => by simp at hc, by simp⟩, .nil, by simp, fun s => by simp [valV], fun j s hj => absurd hj (Nat.not_lt_zero _)⟩
    · obtain ⟨_, _, _, _, _, _, _, _, h, _⟩ := h
      exact SqL.of h
    · obtain ⟨cs, ls, ts, kvs, v3, v4, rfl, k2, hs2, ob2, hf2, hd2, obF, cyc, tld, lkv, hkv, dn⟩ := h
      rw [List.getElem?_map] at hx
      obtain ⟨u, hu, rfl⟩ := Option.map_eq_some_iff.mp hx
      obtain ⟨st, hst, huo⟩ := Paired.at ob2 hu
      have stR : stp R st := (mem_stepsOf W st).mp (pm.mem_iff.mp (List.mem_of_getElem? hst))
      refine ⟨_, rfl, _, rfl, d, _, rfl, DGet.t (k := stK st.1 st.2) hd2 huo, _, rfl, ?_⟩
      by_cases hin : st ∈ cs.flatten
      · have e := (hkv st).mpr hin
        rw [e]
        refine iteF ?_
        refine ⟨cs, ls, ts, kvs, _, _, rfl, k2, hs2, ob2, hf2, hd2, obF, cyc, tld, lkv, hkv, fun j s hj hs => ?_⟩
        by_cases eji : j = i
        · subst eji
          rw [hst] at hs
          cases hs
          exact hin
        · exact dn j s (by omega) hs
      · have e : (valV kvs (stK st.1 st.2)).isSome = false := by
          rw [Bool.eq_false_iff]
          exact fun z => hin ((hkv st).mp z)
        rw [e]
        refine iteT ?_
        refine ⟨_, rfl, _, rfl, a, u, n, R, st, rfl, hw.kp k2, huo, W, hn, stR, fun g tsC t H3 k3 hg3 obC cyC => ?_⟩
        have lC := Cyc.len_le W hn cyC
        have l1 := obC.len
        have hf3 := k3.same _ _ hf2
        have hd3 := k3.same _ _ hd2
        refine ⟨_, rfl, .inr (.inr (.inl ⟨rfl, .inr ⟨kvs, hd3⟩⟩)), _, rfl, g, rfl, ⟨_, SqL.of hg3⟩, fun D hD => ?_⟩
        refine lc_list (K := K) (a := g) (xs := tsC.map V.ref) (fun i H' => ∃ us, H' D = some (.lst (us.map V.ref)) ∧ Kp [] H3 H' ∧ Pr1 H' us ((st :: t).take i)) ⟨[], upd_same, Kp.new hD, .nil⟩ (fun i H' _ h => ?_) (fun i x H' hx h => ?_) (fun H' h => ?_)
        · obtain ⟨_, _, h, _⟩ := h
          exact SqL.of (h.same _ _ hg3)
        · obtain ⟨us, hD4, k4, pr⟩ := h
          rw [List.getElem?_map] at hx
          obtain ⟨y, hy, rfl⟩ := Option.map_eq_some_iff.mp hx
          obtain ⟨sy, hsy, hyo⟩ := Paired.at obC hy
          refine ⟨rfl, _, rfl, by show 2 ≤ sizeLine; decide, fun p hp => ?_⟩
          have hDp : D ≠ p := ne_of_none hD4 hp
          have hyo4 := k4.same _ _ hyo
          have lp := Paired.length pr
          have hDn : upd H' p (.tup [.ref y, .bl true]) D = some (.lst (us.map V.ref)) := by rw [upd_ne hDp]; exact hD4
          refine ⟨us.map V.ref, hDn, ?_, us ++ [p], by rw [upd_same]; simp, (k4.new' hp).own hD, ?_⟩
          · rw [List.length_map, lp, sizeLine_eq, List.length_take]; omega
          · rw [take_snoc hsy]
            refine Paired.app (pr.tk ((TK.new hp).trans (TK.put hDn))) (.cons ⟨y, ?_, ?_⟩ .nil)
            · exact TK.put hDn _ _ upd_same
            · exact TK.put hDn _ _ (TK.new hp _ _ hyo4)
        · obtain ⟨us, hD4, k4, pr⟩ := h
          rw [List.length_map, l1, List.take_length] at pr
          have hf4 := k4.same _ _ hf3
          have hd4 := k4.same _ _ hd3
          refine ⟨D, us, (st :: t).map stE, rfl, hD4, pr.prT, fun p hp => ?_⟩
          have ndk : (((st :: t).map stE).map (·.1)).Nodup := by rw [stE_fst]; exact stK_nodup cyC.nd
          have em : mergeT [] ((st :: t).map stE) = (st :: t).map stE := fold_new _ [] (by simpa using ndk)
          rw [em]
          have lfl := Cycs.len_le W hn cyc
          have hdp : d ≠ p := ne_of_none hd4 hp
          refine ⟨d, p, kvs, _, rfl, rfl, hdp, by rw [upd_ne hdp]; exact hd4, upd_same, ?_, ndk, by rw [List.length_map]; omega, ?_⟩
          · intro kv hkv'
            obtain ⟨x, hx, rfl⟩ := List.mem_map.mp hkv'
            have hx' := cyC.st x hx
            exact ⟨x.1, x.2, Nat.lt_of_lt_of_le (W.lt _ _ hx') hn, Nat.lt_of_lt_of_le (W.lt2 hx') hn, rfl⟩
          generalize hH5 : upd (upd H' p (.dT ((st :: t).map stE))) d (.dT (mergeT kvs ((st :: t).map stE))) = H5
          have k5 : Kp [] H H5 := by
            rw [← hH5]
            exact (((k2.trans k3).trans k4).new' hp).own hd
          have t5 : TK H' H5 := by
            rw [← hH5]
            intro b xs e
            rw [upd_ne (fun z => by subst z; rw [hd4] at e; cases e), upd_ne (ne_of_none e hp)]
            exact e
          have ls5 : ∀ b xs, H' b = some (.lst xs) → H5 b = some (.lst xs) := fun b xs e => by
            rw [← hH5, upd_ne (fun z => by subst z; rw [hd4] at e; cases e), upd_ne (ne_of_none e hp)]
            exact e
          have hf5 := ls5 _ _ hf4
          have hd5 : H5 d = some (.dT (mergeT kvs ((st :: t).map stE))) := by rw [← hH5, upd_same]
          have tk5 : TK H3 H5 := (TK.kp k4).trans t5
          have hg5 := ls5 _ _ (k4.same _ _ hg3)
          have hs5 := ls5 _ _ (k4.same _ _ (k3.same _ _ hs2))
          refine ⟨_, rfl, .inl ⟨rfl, _, SqL.of hf5⟩, _, rfl, g, tsC, R, st :: t, rfl, hg5, Paired.mapP obC fun _ _ e => tk5 _ _ e, cyC, lC, fun p2 l H6 k6 hp2 hl => ?_⟩
          have cyc2 : Cycs R (cs ++ [st :: t]) := cyc.add cyC (List.mem_cons_self ..) hin
          have nl := Cycs.num_le (R := R) cyc2.cyc
          have nf := Cycs.len_le W hn cyc2
          have ll := Paired.length tld
          have lt2 := obF.len
          rw [List.length_append, List.length_singleton] at nl
          have hf6 := k6.same _ _ hf5
          refine ⟨f, _, _, rfl, rfl, hf6, by rw [List.length_map, sizeLine_eq]; omega, ?_⟩
          have tkF : TK H3 (upd H6 f (.lst (ts.map V.ref ++ [.ref p2]))) := (tk5.trans (TK.kp k6)).trans (TK.put hf6)
          have tk2 : TK H6 (upd H6 f (.lst (ts.map V.ref ++ [.ref p2]))) := TK.put hf6
          refine ⟨cs ++ [st :: t], ls ++ [l], ts ++ [p2], mergeT kvs ((st :: t).map stE), _, _, rfl, (k5.trans k6).own hfH, ?_, ?_, ?_, ?_, ?_, cyc2, ?_, ?_, ?_, ?_⟩
          · rw [upd_ne hsf.symm]
            exact k6.same _ _ hs5
          · exact Paired.mapP (Objs.kp ob2 k3) fun _ _ e => tkF _ _ e
          · rw [upd_same]; simp
          · rw [upd_ne hfd]
            exact k6.same _ _ hd5
          · exact (Paired.mapP (Objs.kp obF k3) fun _ _ e => tkF _ _ e : Objs _ tuO ts ls).snoc (tk2 _ _ hp2)
          · exact Paired.app tld (.cons hl .nil)
          · have := length_mergeT ((st :: t).map stE) kvs
            rw [List.length_map] at this
            rw [List.flatten_append, List.length_append]
            simp only [List.flatten_cons, List.flatten_nil, List.append_nil]
            omega
          · intro s
            rw [show mergeT kvs ((st :: t).map stE) = ((st :: t).map stE).foldl (fun acc kv => putK acc kv.1 kv.2) kvs from rfl, fold_isSome, hkv, stE_fst, stK_mem, List.flatten_append, List.mem_append]
            simp
          · intro j s hj hs
            rw [List.flatten_append, List.mem_append]
            by_cases eji : j = i
            · subst eji
              rw [hst] at hs
              cases hs
              exact .inr (by simp)
            · exact .inl (dn j s (by omega) hs)
    · obtain ⟨cs, ls, ts, kvs, v3, v4, rfl, k2, hs2, ob2, hf2, hd2, obF, cyc, tld, lkv, hkv, dn⟩ := h
      have lob := ob2.len
      rw [List.length_map, lob] at dn
      have dec : Dec R cs := ⟨cyc, fun s hs => by
        obtain ⟨j, hj⟩ := List.mem_iff_getElem?.mp (pm.mem_iff.mpr ((mem_stepsOf W s).mpr hs))
        exact dn j s (List.getElem?_eq_some_iff.mp hj).1 hj⟩
      refine ⟨_, rfl, f, ts, rfl, hf2, sorted_tu obF fun l hl => ?_, fun ts' p pm2 hp => ?_⟩
      · obtain ⟨j, hj⟩ := List.mem_iff_getElem?.mp hl
        obtain ⟨c, _, tc⟩ := Paired.at2 tld hj
        obtain ⟨s, t, _, _, _, e⟩ := tc.ex
        rw [e]
        simp
      · obtain ⟨ls', pm3, ob3⟩ := obF.perm pm2
        refine q p ts' ls' cs _ (k2.new' hp) upd_same (ob3.new hp) dec ?_ fun c hc => ?_
        · rw [pm3.length_eq, ← Paired.length tld]
        · obtain ⟨j, hj⟩ := List.mem_iff_getElem?.mp hc
          obtain ⟨l, hl, tc⟩ := Paired.at tld hj
          exact ⟨l, pm3.mem_iff.mpr (List.mem_of_getElem? hl), tc⟩
end
end Rd
set_option Elab.async false
set_option linter.all false
set_option maxRecDepth 100000
set_option maxHeartbeats 4000000
/-! Defs over webs: flat, three tied. -/
namespace Rd
open PySem PySem.Spec PyProof.Rows L2 Gw
section
variable {P : Program} {w : World} {K : PySem.W.Frag} {mg : Str → Option Value} {base : Heap}
theorem ties_filter (R : Rows) : ∀ n, tiesOf n R = (stepsOf n R).filter fun s => decide (s.1 < s.2)
  | 0 => rfl
  | n + 1 => by
    have e1 : tiesOf (n + 1) R = tiesOf n R ++ _ := flat_succ _ _
    have e2 : stepsOf (n + 1) R = stepsOf n R ++ _ := flat_succ _ _
    rw [e1, e2, List.filter_append, ties_filter R n, List.filter_map]
    rfl
theorem ties_len {n : Nat} {R : Rows} (W : Web n R) : 2 * (tiesOf n R).length = total n R := by
  have nd := nodup_stepsOf W
  have e : (stepsOf n R).length = ((stepsOf n R).filter fun s => decide (s.1 < s.2)).length + ((stepsOf n R).filter fun s => !decide (s.1 < s.2)).length := by
    have := (List.filter_append_perm (fun s : S => decide (s.1 < s.2)) (stepsOf n R)).length_eq
    rw [List.length_append] at this
    exact this.symm
  have sw : ((stepsOf n R).filter fun s => !decide (s.1 < s.2)).length = ((stepsOf n R).filter fun s => decide (s.1 < s.2)).length := by
    have i : ∀ l : List S, l.Nodup → (l.map fun s => (s.2, s.1)).Nodup := by
      intro l h
      induction l with
      | nil => simp
      | cons a l ih =>
        rw [List.nodup_cons] at h
        rw [List.map_cons, List.nodup_cons]
        refine ⟨fun hm => h.1 ?_, ih h.2⟩
        obtain ⟨x, hx, e⟩ := List.mem_map.mp hm
        have e1 : x.2 = a.2 := congrArg Prod.fst e
        have e2 : x.1 = a.1 := congrArg Prod.snd e
        have : x = a := Prod.ext e2 e1
        rwa [this] at hx
    apply Nat.le_antisymm
    · have := nodup_len (i _ (nd.filter fun s => !decide (s.1 < s.2))) (m := (stepsOf n R).filter fun s => decide (s.1 < s.2)) fun x hx => by
        obtain ⟨y, hy, rfl⟩ := List.mem_map.mp hx
        obtain ⟨h1, h2⟩ := List.mem_filter.mp hy
        have st := (mem_stepsOf W y).mp h1
        have h3 : ¬ y.1 < y.2 := by simpa using h2
        have h4 : y.2 ≠ y.1 := W.neq st
        refine List.mem_filter.mpr ⟨(mem_stepsOf W _).mpr (W.sym _ _ st), ?_⟩
        have : y.2 < y.1 := by omega
        simpa using this
      rwa [List.length_map] at this
    · have := nodup_len (i _ (nd.filter fun s => decide (s.1 < s.2))) (m := (stepsOf n R).filter fun s => !decide (s.1 < s.2)) fun x hx => by
        obtain ⟨y, hy, rfl⟩ := List.mem_map.mp hx
        obtain ⟨h1, h2⟩ := List.mem_filter.mp hy
        have st := (mem_stepsOf W y).mp h1
        have h3 : y.1 < y.2 := by simpa using h2
        refine List.mem_filter.mpr ⟨(mem_stepsOf W _).mpr (W.sym _ _ st), ?_⟩
        have : ¬ y.2 < y.1 := by omega
        simpa using this
      rwa [List.length_map] at this
  rw [ties_filter, ← len_stepsOf]
  omega
theorem row_le {n : Nat} {R : Rows} (W : Web n R) (hn : n ≤ 9) : ∀ p, p < n → (R p).length ≤ 9 := fun p hp => Nat.le_trans (nd_le (W.nd p) fun x hx => W.lt2 hx) hn
/-! ### is_flat, want_flat -/
def spGood (v : V) : Sp := fun vs H Q _ => ∃ (a : Addr) (n : Nat) (R : Rows), vs = [.ref a] ∧ WebT H a n R ∧ Good n R ∧ 4 ≤ n ∧ n ≤ 9 ∧ ∀ H', Kp [] H H' → Q v H'
theorem WebT.len {H : Hp} {a : Addr} {n : Nat} {R : Rows} (h : WebT H a n R) : ∃ xs : List V, H a = some (.tup xs) ∧ xs.length = n := by
  obtain ⟨f, h1, _⟩ := h
  exact ⟨_, h1, by simp⟩
theorem sc_is_flat : FnScope ["web"] ["web"] (defScope s_is_flat) := ⟨rfl, rfl, rfl, by decide +kernel, rfl, by decide +kernel, by decide +kernel⟩
theorem ok_is_flat (T : Txt K mg) : Ok P w K mg base 4 "is_flat" ["web"] (spGood (.bl true)) := by
  have O_faces : Ok P w K mg base 3 "faces" ["web"] sp_faces := ok_faces T
  have O_ties : Ok P w K mg base 3 "ties" ["web"] (spSts tiesOf) := (ok_ties T).mono (by decide)
  refine def_ok T 10 rfl rfl sc_is_flat (fun _ _ _ _ _ _ us hl => match us, hl with | [_], _ => rfl) (fun vs H Q E h => ?_) (fun cdv A outer s H vs Q E hr h => ?_)
  · obtain ⟨i, b, _, rfl, _⟩ := h
    rfl
  · obtain ⟨a, n, R, rfl, hw, G, h4, hn, q⟩ := h
    refine ⟨_, (pss_one (ps_ret (pe_cmpR op_eq (pe_op op_add (pe_callB call_lenH (by rfl) T.z_len (by decide +kernel) (pa_cons (pv 0) pa_nil)) (pe_callB call_lenH (by rfl) T.z_len (by decide +kernel) (pa_cons (pe_f O_faces hr (by rfl) (pa_cons (pv 0) pa_nil)) pa_nil))) (pe_op op_add (pe_callB call_lenH (by rfl) T.z_len (by decide +kernel) (pa_cons (pe_f O_ties hr (by rfl) (pa_cons (pv 0) pa_nil)) pa_nil)) pe_int) (nomark _)))), ?_⟩
    obtain ⟨xs, ha, lx⟩ := hw.len
    refine ⟨_, rfl, a, xs, rfl, .inr (.inl ha), _, rfl, a, n, R, rfl, hw, G.toWeb, hn, fun p ts ls cs H1 k1 hp obF dec ll _ => ?_⟩
    refine ⟨p, _, rfl, .inl hp, _, _, rfl, rfl, _, rfl, a, n, R, rfl, hw.kp k1, hn, row_le G.toWeb hn, fun p2 ts2 ss H2 k2 _ hp2 ob2 pm => ?_⟩
    refine ⟨p2, _, rfl, .inl hp2, _, _, rfl, rfl, ?_⟩
    have e : ((xs.length : Nat) : Int) + ((ts.map V.ref).length : Nat) = ((ts2.map V.ref).length : Nat) + 2 := by
      have h1 := obF.len
      have h2 := ob2.len
      have h3 := pm.length_eq
      have h4 := ties_len G.toWeb
      have h5 := G.flat cs dec
      rw [List.length_map, List.length_map]
      omega
    refine ⟨rfl, ?_⟩
    rw [show (fun i j => V.int (i + j)) ((xs.length : Nat) : Int) ((ts.map V.ref).length : Nat) = (fun i j => V.int (i + j)) (((ts2.map V.ref).length : Nat) : Int) 2 from congrArg V.int e, decide_eq_true rfl]
    exact q _ (k1.trans k2)
theorem sc_want_flat : FnScope ["web"] ["web"] (defScope s_want_flat) := ⟨rfl, rfl, rfl, by decide +kernel, rfl, by decide +kernel, by decide +kernel⟩
theorem ok_want_flat (T : Txt K mg) : Ok P w K mg base 5 "want_flat" ["web"] (spGood .non) := by
  have O_is_flat : Ok P w K mg base 4 "is_flat" ["web"] (spGood (.bl true)) := ok_is_flat T
  refine def_ok T 11 rfl rfl sc_want_flat (fun _ _ _ _ _ _ us hl => match us, hl with | [_], _ => rfl) (fun vs H Q E h => ?_) (fun cdv A outer s H vs Q E hr h => ?_)
  · obtain ⟨i, b, _, rfl, _⟩ := h
    rfl
  · obtain ⟨a, n, R, rfl, hw, G, h4, hn, q⟩ := h
    refine ⟨_, (pss_one (ps_if (pt_not (pt_val (pe_f O_is_flat hr (by rfl) (pa_cons (pv 0) pa_nil)))) pss_never pss_nil)), ?_⟩
    refine ⟨_, rfl, a, n, R, rfl, hw, G, h4, hn, fun H1 k1 => ?_⟩
    refine ⟨true, rfl, ?_⟩
    refine iteF ?_
    exact q _ k1
/-! ### hangs_together -/
theorem dd_nVs {H : Hp} {a : Addr} {l : List Nat} (h : H a = some (.lst (nVs l))) (hl : l.length ≤ 100) : DD H (.ref a) (.list ((zs l).map .int)) := by
  refine ⟨fun K => .lst (SqL.of h) (by rw [nVs_zs]; exact dpAll_ints K H (zs l)), ?_⟩
  have h1 : ∀ is : List Int, PyData.canLayAll0 (is.map .int) = true := by
    intro is
    induction is with
    | nil => rfl
    | cons i is ih => rw [List.map_cons, PyData.canLayAll0, ih]; rfl
  have h2 : ∀ is : List Int, PyData.depthAll (is.map .int) = 0 := by
    intro is
    induction is with
    | nil => rfl
    | cons i is ih => rw [List.map_cons, PyData.depthAll, ih]; simp [PyData.depth]
  refine Bool.and_eq_true_iff.mpr ⟨by simpa [PyData.canLay0] using h1 (zs l), decide_eq_true ?_⟩
  rw [PyData.depth, h2]
  omega
theorem dd_lnil {H : Hp} {a : Addr} (h : H a = some (.lst [])) : DD H (.ref a) (.list []) := dd_nVs (l := []) h (by simp)
theorem inn_le (n : Nat) (r : List Nat) : (inn n r).length ≤ n := by
  have := List.length_filter_le (fun p => decide (p ∉ r)) (List.range n)
  rwa [List.length_range] at this
theorem inn_mem {n : Nat} {r : List Nat} {x : Nat} : x ∈ inn n r ↔ x < n ∧ x ∉ r := by
  unfold inn
  rw [List.mem_filter, List.mem_range]
  simp
theorem inn_nd (n : Nat) (r : List Nat) : (inn n r).Nodup := List.nodup_range.filter _
theorem way_end {n : Nat} {R : Rows} (W : Web n R) {G : Nat → Prop} {x y : Nat} (h : Way R G x y) (hx : x < n) (gx : ¬ G x) : y < n ∧ ¬ G y := by
  induction h with
  | here => exact ⟨hx, gx⟩
  | on _ hz hg _ => exact ⟨W.lt2 hz, hg⟩
theorem sc_hangs_together : FnScope ["web", "gone", "place", "left"] ["web", "gone"] (defScope s_hangs_together) := ⟨rfl, rfl, rfl, by decide +kernel, rfl, by decide +kernel, by decide +kernel⟩
def sp_hangs : Sp := fun vs H Q _ => ∃ (a g : Addr) (n : Nat) (R : Rows) (G : List Nat), vs = [.ref a, .ref g] ∧ WebT H a n R ∧ H g = some (.tup (nVs G)) ∧ Web n R ∧ n ≤ 9 ∧ G.length ≤ 9 ∧ Conn n R (fun x => x ∈ G) ∧ ∀ H', Kp [] H H' → Q (.bl true) H'
theorem ok_hangs (T : Txt K mg) : Ok P w K mg base 2 "hangs_together" ["web", "gone"] sp_hangs := by
  have O_reached : Ok P w K mg base 1 "reached" ["web", "start", "gone"] sp_reached := ok_reached T
  refine def_ok T 12 rfl rfl sc_hangs_together (fun _ _ _ _ _ _ us hl => match us, hl with | [_, _], _ => rfl) (fun vs H Q E h => ?_) (fun cdv A outer s H vs Q E hr h => ?_)
  · obtain ⟨i, b, _, _, _, rfl, _⟩ := h
    rfl
  · obtain ⟨a, g, n, R, G, rfl, hw, hg, W, hn, hG, cn, q⟩ := h
    have hu64 : (A.deeper (envOfC "hangs_together" (defScope s_hangs_together) s.heap.objs.size (He.ga K "hangs_together") cdv)).units + 64 < cLine := Nat.lt_of_le_of_lt (Nat.add_le_add_left (by decide) _) (units200 hr)
    refine ⟨_, (pss_cons (ps_setLc (i := 3) (own := [("place", 2)]) (g := (gName 2)) (by rfl) sc_hangs_together.nd rfl rfl (sw_true rfl rfl rfl (by decide +kernel)) (pi_range1 (by rfl) T.z_range (pa_cons (pe_callB call_lenH (by rfl) T.z_len (by decide +kernel) (pa_cons (pv 0) pa_nil)) pa_nil)) (blkOk_by (own := [("place", 2)]) (N := ["web", "gone", "place", "left"]) (sc := defScope s_hangs_together) (by decide +kernel)) (fun _ _ _ _ _ => (pg_name (i := 2) sc_hangs_together.nd rfl (by first | exact .inl rfl | exact .inr rfl))) (fun _ _ _ _ _ => (pts_one (pt_cmpR op_ninH (pv 2) (pv 1) (by rfl)))) (fun _ _ _ _ _ => (pv 2)))
      (pss_one (ps_ret (pe_or (pe_cmpR (op_eqH hu64) (pv 3) (pe_lst pa_nil) (nomark _)) (pe_one (pe_cmpR op_eq (pe_callB call_lenH (by rfl) T.z_len (by decide +kernel) (pa_cons (pe_f O_reached hr (by rfl) (pa_cons (pv 0) (pa_cons (pe_ix ixH (pv 3) pe_int (fun _ _ => rfl)) (pa_cons (pv 1) pa_nil)))) pa_nil)) (pe_callB call_lenH (by rfl) T.z_len (by decide +kernel) (pa_cons (pv 3) pa_nil)) (nomark _))))))), ?_⟩
    obtain ⟨xs, ha, lx⟩ := hw.len
    refine ⟨_, rfl, a, xs, rfl, .inr (.inl ha), _, rfl, by omega, by omega, fun D hD => ?_⟩
    have e : ((xs.length : Int)).toNat = n := by omega
    rw [e]
    refine lc_range (lo := 0) (fun i H' => H' = upd H D (.lst (nVs ((List.range i).filter fun x => decide (x ∉ G))))) rfl (fun i H' hi hH => ?_) (fun H' hH => ?_)
    · subst hH
      refine ⟨rfl, ?_⟩
      have e0 : (0 : Int) + (i : Int) = (i : Int) := by omega
      rw [e0]
      refine ⟨nV i, rfl, _, rfl, g, nVs G, rfl, .inr (.inl ?_), rfl, flat_nVs G, _, rfl, ?_⟩
      · rw [upd_ne (ne_of_none hg hD)]
        exact hg
      rw [inV_nVs]
      by_cases hr' : i ∈ G
      · simp only [hr', decide_true, Bool.not_true, if_true]
        refine iteF ?_
        rw [range_filter_succ]
        simp [hr']
      · simp only [hr', decide_false, Bool.not_false, if_true]
        refine ⟨_, rfl, nVs ((List.range i).filter fun x => decide (x ∉ G)), upd_same, ?_, ?_⟩
        · rw [List.length_map]
          have := List.length_filter_le (fun x => decide (x ∉ G)) (List.range i)
          rw [List.length_range] at this
          rw [sizeLine_eq]; omega
        · rw [range_filter_succ]
          simp only [hr', not_false_eq_true, decide_true, if_true, upd_upd]
          congr 2
          simp [nVs]
    · subst hH
      rw [show (List.range n).filter (fun x => decide (x ∉ G)) = inn n G from rfl]
      have kD : Kp [] H (upd H D (.lst (nVs (inn n G)))) := Kp.new hD
      have hl9 := inn_le n G
      refine ⟨_, rfl, by show 0 ≤ sizeLine; decide, fun e1 he1 => ?_⟩
      have De : D ≠ e1 := ne_of_none upd_same he1
      have k1 : Kp [] H (upd (upd H D (.lst (nVs (inn n G)))) e1 (.lst [])) := kD.new' he1
      have hD1 : upd (upd H D (.lst (nVs (inn n G)))) e1 (.lst []) D = some (.lst (nVs (inn n G))) := by rw [upd_ne De, upd_same]
      refine ⟨_, _, dd_nVs hD1 (by omega), dd_lnil upd_same, _, rfl, ?_⟩
      have nd := inn_nd n G
      have mm : ∀ x, x ∈ inn n G ↔ x < n ∧ x ∉ G := fun x => inn_mem
      generalize inn n G = left at hD1 k1 nd mm hl9 ⊢
      cases left with
      | nil =>
        rw [show PyData.eqv (.list ((zs []).map .int)) (.list []) = true from rfl]
        refine iteT ?_
        exact q _ k1
      | cons x0 left =>
        rw [show PyData.eqv (.list ((zs (x0 :: left)).map .int)) (.list []) = false from rfl]
        refine iteF ?_
        obtain ⟨x0n, x0G⟩ := (mm x0).mp (List.mem_cons_self ..)
        refine ⟨_, rfl, _, rfl, D, _, 0, _, rfl, rfl, .inl hD1, atI_nVs (l := x0 :: left) (i := 0) rfl, _, rfl, a, g, x0, n, R, G, rfl, hw.kp k1, k1.same _ _ hg, W, hn, hG, x0n, x0G, fun p l H2 k2 hp ndl wl => ?_⟩
        refine ⟨p, _, rfl, .inl hp, _, rfl, D, _, rfl, .inl (k2.same _ _ hD1), rfl, ?_⟩
        have el : l.length = (x0 :: left).length := by
          apply Nat.le_antisymm
          · refine nodup_len ndl fun x hx => ?_
            have := way_end W ((wl x).mp hx) x0n x0G
            exact (mm x).mpr this
          · refine nodup_len nd fun x hx => ?_
            obtain ⟨xn, xG⟩ := (mm x).mp hx
            exact (wl x).mpr (cn x0 x x0n xn x0G xG)
        rw [List.length_map, List.length_map, el, decide_eq_true rfl]
        exact q _ (k1.trans k2)
/-! ### breaks -/
theorem sc_breaks : FnScope ["web", "some", "p", "q", "gone"] ["web"] (defScope s_breaks) := ⟨rfl, rfl, rfl, by decide +kernel, rfl, by decide +kernel, by decide +kernel⟩
def sp_breaks : Sp := fun vs H Q _ => ∃ (a : Addr) (n : Nat) (R : Rows), vs = [.ref a] ∧ WebT H a n R ∧ Web n R ∧ n ≤ 9 ∧ Tied n R ∧ ∀ H' p, Kp [] H H' → H' p = some (.lst []) → Q (.ref p) H'
theorem ok_breaks (T : Txt K mg) : Ok P w K mg base 3 "breaks" ["web"] sp_breaks := by
  have O_hangs_together : Ok P w K mg base 2 "hangs_together" ["web", "gone"] sp_hangs := ok_hangs T
  refine def_ok T 13 rfl rfl sc_breaks (fun _ _ _ _ _ _ us hl => match us, hl with | [_], _ => rfl) (fun vs H Q E h => ?_) (fun cdv A outer s H vs Q E hr h => ?_)
  · obtain ⟨i, b, _, rfl, _⟩ := h
    rfl
  · obtain ⟨a, n, R, rfl, hw, W, hn, ti, q⟩ := h
    refine ⟨_, (pss_cons (ps_set (i := 1) sc_breaks.nd rfl (by first | exact .inl rfl | exact .inr rfl) (pe_lst pa_nil))
      (pss_cons (ps_for PassesOwn.never rfl (pi_range1 (by rfl) T.z_range (pa_cons (pe_callB call_lenH (by rfl) T.z_len (by decide +kernel) (pa_cons (pv 0) pa_nil)) pa_nil)) (pg_name (i := 2) sc_breaks.nd rfl (by first | exact .inl rfl | exact .inr rfl)) (pss_cons (ps_expr (pe_bm PySem.F.plainAttrs_list PySem.F.slot_list_append PySem.F.type_list_append mt_append (pv 1) (pa_cons (pe_tup (pa_cons (pv 2) pa_nil)) pa_nil)))
      (pss_one (ps_expr (pe_bm PySem.F.plainAttrs_list PySem.F.slot_list_extend PySem.F.type_list_extend mt_extend (pv 1) (pa_cons (pe_lc (own := [("q", 3)]) (g := (gName 3)) rfl sc_breaks.nd (pi_range2 (by rfl) T.z_range (pa_cons (pe_op op_add (pv 2) pe_int) (pa_cons (pe_callB call_lenH (by rfl) T.z_len (by decide +kernel) (pa_cons (pv 0) pa_nil)) pa_nil))) (blkOk_by (own := [("q", 3)]) (N := ["web", "some", "p", "q", "gone"]) (sc := defScope s_breaks) (by decide +kernel)) (fun _ _ _ _ _ => (pg_name (i := 3) sc_breaks.nd rfl (by first | exact .inl rfl | exact .inr rfl))) (fun _ _ _ _ _ => pts_nil) (fun _ _ _ _ _ => (pe_tup (pa_cons (pv 2) (pa_cons (pv 3) pa_nil))))) pa_nil))))))
      (pss_one (ps_ret (pe_lc (own := [("gone", 4)]) (g := (gName 4)) rfl sc_breaks.nd (pi_list (pv 1)) (blkOk_by (own := [("gone", 4)]) (N := ["web", "some", "p", "q", "gone"]) (sc := defScope s_breaks) (by decide +kernel)) (fun _ _ _ _ _ => (pg_name (i := 4) sc_breaks.nd rfl (by first | exact .inl rfl | exact .inr rfl))) (fun _ _ _ _ _ => (pts_one (pt_not (pt_val (pe_f O_hangs_together hr (by rfl) (pa_cons (pv 0) (pa_cons (pv 4) pa_nil))))))) (fun _ _ _ _ _ => (pv 4))))))), ?_⟩
    obtain ⟨xs, ha, lx⟩ := hw.len
    refine ⟨by show 0 ≤ sizeLine; decide, fun f hf => ?_⟩
    have k0 : Kp [] H (upd H f (.lst [])) := Kp.new hf
    refine ⟨_, rfl, a, xs, rfl, .inr (.inl (k0.same _ _ ha)), _, rfl, by omega, by omega, ?_⟩
    have e : ((xs.length : Int)).toNat = n := by omega
    rw [e]
    refine for_range (lo := 0) (n := n) (fun i σ H' => ∃ ts ls v2, σ = [some (.ref a), some (.ref f), v2, none, none] ∧ Kp [] H H' ∧ H' f = some (.lst (ts.map V.ref)) ∧ Objs H' tuO ts ls ∧ ls.length ≤ 10 * i ∧ ∀ l, l ∈ ls → l.length ≤ 2 ∧ l ≠ []) ⟨[], [], _, rfl, k0, upd_same, .nil, by simp, by simp⟩ (fun i σ H' hi h => ?_) (fun σ H' h => ?_)
    · obtain ⟨ts, ls, v2, rfl, k1, hf1, ob, ll, lp⟩ := h
      have e0 : (0 : Int) + (i : Int) = (i : Int) := by omega
      rw [e0]
      have l1 := ob.len
      refine ⟨_, rfl, .inl ⟨rfl, _, SqL.of hf1⟩, _, rfl, by show 1 ≤ sizeLine; decide, fun p hp => ?_⟩
      have fp : f ≠ p := ne_of_none hf1 hp
      have hfp : upd H' p (.tup [nV i]) f = some (.lst (ts.map V.ref)) := by rw [upd_ne fp]; exact hf1
      refine ⟨f, _, _, rfl, rfl, hfp, by rw [List.length_map, sizeLine_eq]; omega, ?_⟩
      have k2 : Kp [] H (upd (upd H' p (.tup [nV i])) f (.lst (ts.map V.ref ++ [.ref p]))) := (k1.new' hp).own hf
      have ob2 : Objs (upd (upd H' p (.tup [nV i])) f (.lst (ts.map V.ref ++ [.ref p]))) tuO (ts ++ [p]) (ls ++ [[i]]) := Objs.grow (o := tuO) (s := [i]) ob hf1 (fun s => by simp) hp
      have hf2 : upd (upd H' p (.tup [nV i])) f (.lst (ts.map V.ref ++ [.ref p])) f = some (.lst ((ts ++ [p]).map V.ref)) := by rw [upd_same]; simp
      generalize upd (upd H' p (.tup [nV i])) f (.lst (ts.map V.ref ++ [.ref p])) = H2 at k2 ob2 hf2 ⊢
      refine ⟨_, rfl, .inl ⟨rfl, _, SqL.of hf2⟩, ?_⟩
      refine ⟨_, rfl, _, _, rfl, rfl, ?_⟩
      refine ⟨_, rfl, a, xs, rfl, .inr (.inl (k2.same _ _ ha)), _, _, rfl, ⟨by omega, by omega, by omega, by omega⟩, fun D hD => ?_⟩
      have e1 : (((xs.length : Nat) : Int) - ((i : Int) + 1)).toNat = n - (i + 1) := by omega
      rw [e1]
      refine lc_range (lo := (i : Int) + 1) (n := n - (i + 1)) (fun j H' => ∃ us ls2, H' D = some (.lst (us.map V.ref)) ∧ Kp [] H2 H' ∧ Objs H' tuO us ls2 ∧ ls2.length = j ∧ ∀ l, l ∈ ls2 → l.length ≤ 2 ∧ l ≠ []) ⟨[], [], upd_same, Kp.new hD, .nil, rfl, by simp⟩ (fun j H' hj h => ?_) (fun H' h => ?_)
      · obtain ⟨us, ls2, hD2, k3, o3, l3, p3⟩ := h
        have e3 : (i : Int) + 1 + (j : Int) = ((i + 1 + j : Nat) : Int) := by omega
        rw [e3]
        have l4 := o3.len
        refine ⟨rfl, _, rfl, _, rfl, by show 2 ≤ sizeLine; decide, fun u hu => ?_⟩
        have Du : D ≠ u := ne_of_none hD2 hu
        refine ⟨us.map V.ref, by rw [upd_ne Du]; exact hD2, by rw [List.length_map, sizeLine_eq]; omega, us ++ [u], ls2 ++ [[i, i + 1 + j]], by rw [upd_same]; simp, (k3.new' hu).own hD, ?_, by rw [List.length_append, l3]; rfl, fun l hl => ?_⟩
        · exact Objs.grow (o := tuO) (s := [i, i + 1 + j]) o3 hD2 (fun s => by simp) hu
        · rcases List.mem_append.mp hl with z | z
          · exact p3 l z
          · rw [List.mem_singleton.mp z]; simp
      · obtain ⟨us, ls2, hD2, k3, o3, l3, p3⟩ := h
        have l4 := o3.len
        have hf3 := k3.same _ _ hf2
        refine ⟨f, D, _, _, rfl, rfl, hf3, hD2, by rw [List.length_map, List.length_map, List.length_append, List.length_singleton, sizeLine_eq]; omega, ?_⟩
        refine ⟨ts ++ [p] ++ us, ls ++ [[i]] ++ ls2, _, rfl, (k2.trans k3).own hf, by rw [upd_same]; simp, ?_, ?_, fun l hl => ?_⟩
        · exact Objs.put (Paired.app (ob2.kp k3) o3) hf3 fun s => by simp
        · rw [List.length_append, List.length_append, List.length_singleton]; omega
        · rcases List.mem_append.mp hl with z | z
          · rcases List.mem_append.mp z with z | z
            · exact lp l z
            · rw [List.mem_singleton.mp z]; simp
          · exact p3 l z
    · obtain ⟨ts, ls, v2, rfl, k1, hf1, ob, ll, lp⟩ := h
      refine ⟨_, rfl, f, rfl, ⟨_, SqL.of hf1⟩, fun D hD => ?_⟩
      refine lc_list (K := K) (a := f) (xs := ts.map V.ref) (fun i H2 => H2 D = some (.lst []) ∧ Kp [] H' H2) ⟨upd_same, Kp.new hD⟩ (fun i H2 _ h => SqL.of (h.2.same _ _ hf1)) (fun i x H2 hx h => ?_) (fun H2 h => q H2 D (k1.trans h.2) h.1)
      obtain ⟨hD2, k2⟩ := h
      rw [List.getElem?_map] at hx
      obtain ⟨u, hu, rfl⟩ := Option.map_eq_some_iff.mp hx
      obtain ⟨l, hl, huo⟩ := Paired.at ob hu
      obtain ⟨l2, l0⟩ := lp l (List.mem_of_getElem? hl)
      refine ⟨rfl, _, rfl, _, rfl, a, u, n, R, l, rfl, hw.kp (k1.trans k2), k2.same _ _ huo, W, hn, by omega, ?_, fun H3 k3 => ?_⟩
      · cases l with
        | nil => exact absurd rfl l0
        | cons x l =>
          cases l with
          | nil =>
            have := ti x x
            have e : (fun y => y ∈ [x]) = fun y => y = x ∨ y = x := by funext y; simp
            rw [e]
            exact this
          | cons y l =>
            cases l with
            | nil =>
              have := ti x y
              have e : (fun z => z ∈ [x, y]) = fun z => z = x ∨ z = y := by funext z; simp
              rw [e]
              exact this
            | cons z l => simp at l2
      · refine ⟨true, rfl, iteF ?_⟩
        exact ⟨k3.same _ _ hD2, k2.trans k3⟩
/-! ### is_three_tied -/
theorem sc_is_three_tied : FnScope ["web"] ["web"] (defScope s_is_three_tied) := ⟨rfl, rfl, rfl, by decide +kernel, rfl, by decide +kernel, by decide +kernel⟩
theorem ok_is_three_tied (T : Txt K mg) : Ok P w K mg base 4 "is_three_tied" ["web"] (spGood (.bl true)) := by
  have O_breaks : Ok P w K mg base 3 "breaks" ["web"] sp_breaks := ok_breaks T
  refine def_ok T 14 rfl rfl sc_is_three_tied (fun _ _ _ _ _ _ us hl => match us, hl with | [_], _ => rfl) (fun vs H Q E h => ?_) (fun cdv A outer s H vs Q E hr h => ?_)
  · obtain ⟨i, b, _, rfl, _⟩ := h
    rfl
  · obtain ⟨a, n, R, rfl, hw, G, h4, hn, q⟩ := h
    have hu64 : (A.deeper (envOfC "is_three_tied" (defScope s_is_three_tied) s.heap.objs.size (He.ga K "is_three_tied") cdv)).units + 64 < cLine := Nat.lt_of_le_of_lt (Nat.add_le_add_left (by decide) _) (units200 hr)
    refine ⟨_, (pss_one (ps_ret (pe_and (pe_cmpR op_ge (pe_callB call_lenH (by rfl) T.z_len (by decide +kernel) (pa_cons (pv 0) pa_nil)) pe_int (nomark _)) (pe_one (pe_cmpR (op_eqH hu64) (pe_f O_breaks hr (by rfl) (pa_cons (pv 0) pa_nil)) (pe_lst pa_nil) (nomark _)))))), ?_⟩
    obtain ⟨xs, ha, lx⟩ := hw.len
    refine ⟨_, rfl, a, xs, rfl, .inr (.inl ha), _, _, rfl, rfl, _, rfl, ?_⟩
    rw [decide_eq_true (show (4 : Int) ≤ (xs.length : Int) by omega)]
    refine iteT ?_
    refine ⟨_, rfl, a, n, R, rfl, hw, G.toWeb, hn, G.tied, fun H1 p k1 hp => ?_⟩
    refine ⟨by show 0 ≤ sizeLine; decide, fun e1 he1 => ?_⟩
    refine ⟨_, _, dd_lnil (by rw [upd_ne (ne_of_none hp he1)]; exact hp), dd_lnil upd_same, ?_⟩
    exact q _ (k1.new' he1)
end
end Rd
set_option Elab.async false
set_option linter.all false
set_option maxRecDepth 100000
set_option maxHeartbeats 4000000
/-! The rim, the corners. -/
namespace Rd
open PySem PySem.Spec PyProof.Rows L2 Gw
section
variable {P : Program} {w : World} {K : PySem.W.Frag} {mg : Str → Option Value} {base : Heap}
abbrev Pt := Int × Int
abbrev ptO (p : Pt) : HO := .tup [.int p.1, .int p.2]
/-- r lies strictly to the right of the way from p to q -/
def right (p q r : Pt) : Bool := decide ((q.1 - p.1) * (r.2 - p.2) < (q.2 - p.2) * (r.1 - p.1))
def small (p : Pt) : Prop := (-(2 ^ 36) < p.1 ∧ p.1 < 2 ^ 36) ∧ (-(2 ^ 36) < p.2 ∧ p.2 < 2 ^ 36)
def spRight : Sp := fun vs H Q _ => ∃ (a b c : Addr) (p q r : Pt), vs = [.ref a, .ref b, .ref c] ∧ H a = some (ptO p) ∧ H b = some (ptO q) ∧ H c = some (ptO r) ∧ small p ∧ small q ∧ small r ∧ Q (.bl (right p q r)) H
theorem sc_lies_right : FnScope ["p", "q", "r"] ["p", "q", "r"] (defScope s_lies_right) := ⟨rfl, rfl, rfl, by decide +kernel, rfl, by decide +kernel, by decide +kernel⟩
theorem ok_lies_right (T : Txt K mg) : Ok P w K mg base 1 "lies_right" ["p", "q", "r"] spRight := by
  refine def_ok T 24 rfl rfl sc_lies_right (fun _ _ _ _ _ _ us hl => match us, hl with | [_, _, _], _ => rfl) (fun vs H Q E h => ?_) (fun cdv A outer s H vs Q E hr h => ?_)
  · obtain ⟨_, _, _, _, _, _, rfl, _⟩ := h
    rfl
  · obtain ⟨a, b, c, p, q', r, rfl, ha, hb, hc, ⟨sp1, sp2⟩, ⟨sq1, sq2⟩, ⟨sr1, sr2⟩, q⟩ := h
    refine ⟨_, (pss_one (ps_ret (pe_cmpR op_lt (pe_op op_mul (pe_op op_sub (pe_ix ixH (pv 1) pe_int (fun _ _ => rfl)) (pe_ix ixH (pv 0) pe_int (fun _ _ => rfl))) (pe_op op_sub (pe_ix ixH (pv 2) pe_int (fun _ _ => rfl)) (pe_ix ixH (pv 0) pe_int (fun _ _ => rfl)))) (pe_op op_mul (pe_op op_sub (pe_ix ixH (pv 1) pe_int (fun _ _ => rfl)) (pe_ix ixH (pv 0) pe_int (fun _ _ => rfl))) (pe_op op_sub (pe_ix ixH (pv 2) pe_int (fun _ _ => rfl)) (pe_ix ixH (pv 0) pe_int (fun _ _ => rfl)))) (nomark _)))), ?_⟩
    have ia : Sq H a [.int p.1, .int p.2] := .inr (.inl ha)
    have ib : Sq H b [.int q'.1, .int q'.2] := .inr (.inl hb)
    have ic : Sq H c [.int r.1, .int r.2] := .inr (.inl hc)
    refine ⟨_, rfl, b, _, _, _, rfl, rfl, ib, rfl, _, rfl, a, _, _, _, rfl, rfl, ia, rfl, _, _, rfl, rfl, ?_⟩
    refine ⟨_, rfl, c, _, _, _, rfl, rfl, ic, rfl, _, rfl, a, _, _, _, rfl, rfl, ia, rfl, _, _, rfl, rfl, ?_⟩
    refine ⟨_, _, rfl, rfl, .inl (by constructor <;> omega), ?_⟩
    refine ⟨_, rfl, b, _, _, _, rfl, rfl, ib, rfl, _, rfl, a, _, _, _, rfl, rfl, ia, rfl, _, _, rfl, rfl, ?_⟩
    refine ⟨_, rfl, c, _, _, _, rfl, rfl, ic, rfl, _, rfl, a, _, _, _, rfl, rfl, ia, rfl, _, _, rfl, rfl, ?_⟩
    refine ⟨_, _, rfl, rfl, .inl (by constructor <;> omega), ?_⟩
    exact ⟨_, _, rfl, rfl, q⟩
/-! ### bend_right -/
/-- corners, gone round: all others lie right of each side -/
def Bend (ps : List Pt) : Prop := ∀ k j p q r, ps[k]? = some p → ps[(k + 1) % ps.length]? = some q → ps[j]? = some r → j ≠ k → j ≠ (k + 1) % ps.length → right p q r = true
theorem sc_bend_right : FnScope ["corners", "k", "after", "j"] ["corners"] (defScope s_bend_right) := ⟨rfl, rfl, rfl, by decide +kernel, rfl, by decide +kernel, by decide +kernel⟩
def sp_bend : Sp := fun vs H Q _ => ∃ (a : Addr) (ts : List Addr) (ps : List Pt), vs = [.ref a] ∧ H a = some (.tup (ts.map V.ref)) ∧ Objs H ptO ts ps ∧ (∀ p, p ∈ ps → small p) ∧ ps.length ≤ 100 ∧ Bend ps ∧ ∀ H', Kp [] H H' → Q (.bl true) H'
theorem ok_bend_right (T : Txt K mg) : Ok P w K mg base 2 "bend_right" ["corners"] sp_bend := by
  have O_lies_right : Ok P w K mg base 1 "lies_right" ["p", "q", "r"] spRight := ok_lies_right T
  refine def_ok T 25 rfl rfl sc_bend_right (fun _ _ _ _ _ _ us hl => match us, hl with | [_], _ => rfl) (fun vs H Q E h => ?_) (fun cdv A outer s H vs Q E hr h => ?_)
  · obtain ⟨_, _, _, rfl, _⟩ := h
    rfl
  · obtain ⟨a, ts, ps, rfl, ha, ob, sm, hl, bd, q⟩ := h
    refine ⟨_, (pss_cons (ps_for PassesOwn.never rfl (pi_range1 (by rfl) T.z_range (pa_cons (pe_callB call_lenH (by rfl) T.z_len (by decide +kernel) (pa_cons (pv 0) pa_nil)) pa_nil)) (pg_name (i := 1) sc_bend_right.nd rfl (by first | exact .inl rfl | exact .inr rfl)) (pss_cons (ps_set (i := 2) sc_bend_right.nd rfl (by first | exact .inl rfl | exact .inr rfl) (pe_op op_modN (pe_op op_add (pv 1) pe_int) (pe_callB call_lenH (by rfl) T.z_len (by decide +kernel) (pa_cons (pv 0) pa_nil))))
      (pss_one (ps_for PassesOwn.never rfl (pi_range1 (by rfl) T.z_range (pa_cons (pe_callB call_lenH (by rfl) T.z_len (by decide +kernel) (pa_cons (pv 0) pa_nil)) pa_nil)) (pg_name (i := 3) sc_bend_right.nd rfl (by first | exact .inl rfl | exact .inr rfl)) (pss_one (ps_if (PW.pt (pw_and (pt_cmpR op_ninH (pv 3) (pe_tup (pa_cons (pv 1) (pa_cons (pv 2) pa_nil))) (by rfl)) (pw_and1 (pt_not (pt_val (pe_f O_lies_right hr (by rfl) (pa_cons (pe_ix ixH (pv 0) (pv 1) (fun _ _ => rfl)) (pa_cons (pe_ix ixH (pv 0) (pv 2) (fun _ _ => rfl)) (pa_cons (pe_ix ixH (pv 0) (pv 3) (fun _ _ => rfl)) pa_nil))))))))) (pss_one (ps_ret pe_bl)) pss_nil))))))
      (pss_one (ps_ret pe_bl))), ?_⟩
    have lt := ob.len
    have e0 : (ts.map V.ref).length = ps.length := by rw [List.length_map, lt]
    refine ⟨_, rfl, a, _, rfl, .inr (.inl ha), _, rfl, by omega, by omega, ?_⟩
    rw [show (((ts.map V.ref).length : Nat) : Int).toNat = ps.length by omega]
    refine for_range (lo := 0) (n := ps.length) (fun k σ H' => ∃ v1 v2 v3, σ = [some (.ref a), v1, v2, v3] ∧ Kp [] H H') ⟨_, _, _, rfl, Kp.refl⟩ (fun k σ H' hk h => ?_) (fun σ H' h => ?_)
    · obtain ⟨v1, v2, v3, rfl, k1⟩ := h
      rw [show (0 : Int) + (k : Int) = (k : Int) by omega]
      have am : (k + 1) % ps.length < ps.length := Nat.mod_lt _ (by omega)
      have em : ((k : Int) + 1).fmod ((ts.map V.ref).length : Nat) = (((k + 1) % ps.length : Nat) : Int) := by
        rw [e0, Int.fmod_eq_emod_of_nonneg _ (by omega), show (k : Int) + 1 = ((k + 1 : Nat) : Int) by omega]
        exact (Int.natCast_emod _ _).symm
      refine ⟨_, rfl, _, _, rfl, rfl, _, rfl, a, _, rfl, .inr (.inl (k1.same _ _ ha)), _, _, rfl, rfl, by omega, ?_⟩
      refine ⟨_, rfl, a, _, rfl, .inr (.inl (k1.same _ _ ha)), _, rfl, by omega, by omega, ?_⟩
      rw [show (((ts.map V.ref).length : Nat) : Int).toNat = ps.length by omega]
      have bdk := bd k
      generalize (k + 1) % ps.length = af at am em bdk ⊢
      refine for_range (lo := 0) (n := ps.length) (fun j σ H' => ∃ v3, σ = [some (.ref a), some (nV k), some (nV af), v3] ∧ Kp [] H H') ⟨v3, by show [some (V.ref a), some (V.int k), some (V.int (((k : Int) + 1).fmod ((ts.map V.ref).length : Nat))), v3] = _; rw [em], k1⟩ (fun j σ H' hj h => ?_) (fun σ H' h => ?_)
      · obtain ⟨v3, rfl, k2⟩ := h
        rw [show (0 : Int) + (j : Int) = (j : Int) by omega]
        refine ⟨nV j, rfl, _, rfl, _, rfl, by show 2 ≤ sizeLine; decide, fun t ht => ?_⟩
        have k3 : Kp [] H (upd H' t (.tup [nV k, nV af])) := k2.new' ht
        refine ⟨t, nVs [k, af], rfl, .inr (.inl upd_same), rfl, flat_nVs _, _, rfl, ?_⟩
        rw [inV_nVs]
        by_cases hm : j = k ∨ j = af
        · have e1 : decide (j ∈ [k, af]) = true := decide_eq_true (by simpa using hm)
          rw [e1]
          refine iteF ?_
          refine iteF ?_
          exact ⟨_, rfl, k3⟩
        · have e1 : decide (j ∈ [k, af]) = false := decide_eq_false (by simpa using hm)
          rw [e1]
          refine iteT ?_
          have at_ : ∀ i, i < ps.length → ∃ t p, ts[i]? = some t ∧ ps[i]? = some p ∧ H t = some (ptO p) := fun i hi => by
            have h1 : ps[i]? = some ps[i] := List.getElem?_eq_getElem hi
            obtain ⟨t, ht, e⟩ := Paired.at2 ob h1
            exact ⟨t, _, ht, h1, e⟩
          obtain ⟨tk, pk, tk1, tk2, tk3⟩ := at_ k hk
          obtain ⟨ta, pa, ta1, ta2, ta3⟩ := at_ af am
          obtain ⟨tj, pj, tj1, tj2, tj3⟩ := at_ j hj
          have ix : ∀ {i : Nat} {t : Addr}, ts[i]? = some t → atI (ts.map V.ref) (i : Int) = some (.ref t) := fun h => atI_nat (by rw [List.getElem?_map, h]; rfl)
          have sa : Sq (upd H' t (.tup [nV k, nV af])) a (ts.map V.ref) := .inr (.inl (k3.same _ _ ha))
          refine ⟨_, rfl, _, rfl, a, _, _, _, rfl, rfl, sa, ix tk1, _, rfl, _, rfl, a, _, _, _, rfl, rfl, sa, ix ta1, _, rfl, _, rfl, a, _, _, _, rfl, rfl, sa, ix tj1, ?_⟩
          refine ⟨tk, ta, tj, pk, pa, pj, rfl, k3.same _ _ tk3, k3.same _ _ ta3, k3.same _ _ tj3, sm _ (List.mem_of_getElem? tk2), sm _ (List.mem_of_getElem? ta2), sm _ (List.mem_of_getElem? tj2), ?_⟩
          have hr' := bdk j pk pa pj tk2 ta2 tj2 (fun e => hm (.inl e)) (fun e => hm (.inr e))
          rw [hr']
          refine ⟨true, rfl, iteF ?_⟩
          exact ⟨_, rfl, k3⟩
      · obtain ⟨v3, rfl, k2⟩ := h
        exact ⟨_, _, _, rfl, k2⟩
    · obtain ⟨v1, v2, v3, rfl, k1⟩ := h
      exact q _ k1
/-! ### is_pair, want_corners -/
theorem sc_is_pair : FnScope ["thing"] ["thing"] (defScope s_is_pair) := ⟨rfl, rfl, rfl, by decide +kernel, rfl, by decide +kernel, by decide +kernel⟩
def sp_is_pair : Sp := fun vs H Q _ => ∃ (a : Addr) (p : Pt), vs = [.ref a] ∧ H a = some (ptO p) ∧ Q (.bl true) H
theorem ok_is_pair (T : Txt K mg) : Ok P w K mg base 2 "is_pair" ["thing"] sp_is_pair := by
  have O_is_whole : Ok P w K mg base 1 "is_whole" ["thing"] sp_is_whole := ok_is_whole T
  refine def_ok T 22 rfl rfl sc_is_pair (fun _ _ _ _ _ _ us hl => match us, hl with | [_], _ => rfl) (fun vs H Q E h => ?_) (fun cdv A outer s H vs Q E hr h => ?_)
  · obtain ⟨_, _, rfl, _⟩ := h
    rfl
  · obtain ⟨a, p, rfl, ha, q⟩ := h
    refine ⟨_, (pss_one (ps_ret (pe_and (pe_callB call_isi (by rfl) T.z_isinstance (by decide +kernel) (pa_cons (pv 0) (pa_cons (pe_bltn (v := .ty "tuple") (by rfl) T.z_tuple (by decide +kernel) rfl) pa_nil))) (pe_and (pe_cmpR op_eq (pe_callB call_lenH (by rfl) T.z_len (by decide +kernel) (pa_cons (pv 0) pa_nil)) pe_int (nomark _)) (pe_and (pe_f O_is_whole hr (by rfl) (pa_cons (pe_ix ixH (pv 0) pe_int (fun _ _ => rfl)) pa_nil)) (pe_one (pe_f O_is_whole hr (by rfl) (pa_cons (pe_ix ixH (pv 0) pe_int (fun _ _ => rfl)) pa_nil)))))))), ?_⟩
    have sa : Sq H a [.int p.1, .int p.2] := .inr (.inl ha)
    refine ⟨_, rfl, _, _, _, _, true, rfl, .ty _, .base (.tup ha), kit_ty (by decide +kernel), true, rfl, iteT ?_⟩
    refine ⟨_, rfl, a, _, rfl, sa, rfl, ?_⟩
    refine ⟨true, rfl, iteT ?_⟩
    refine ⟨_, rfl, a, _, 0, _, rfl, rfl, sa, rfl, p.1, rfl, true, rfl, iteT ?_⟩
    exact ⟨_, rfl, a, _, 1, _, rfl, rfl, sa, rfl, p.2, rfl, q⟩
theorem all_rep (n : Nat) : (List.replicate n true).all id = true := by simp
theorem sc_want_corners : FnScope ["rim", "corners", "corner"] ["rim", "corners"] (defScope s_want_corners) := ⟨rfl, rfl, rfl, by decide +kernel, rfl, by decide +kernel, by decide +kernel⟩
def sp_want_corners : Sp := fun vs H Q _ => ∃ (a b : Addr) (xs : List V) (ts : List Addr) (ps : List Pt), vs = [.ref a, .ref b] ∧ H a = some (.tup xs) ∧ H b = some (.tup (ts.map V.ref)) ∧ Objs H ptO ts ps ∧ xs.length = ps.length ∧ (∀ p, p ∈ ps → small p) ∧ ps.length ≤ 100 ∧ Bend ps ∧ ∀ H', Kp [] H H' → Q .non H'
theorem ok_want_corners (T : Txt K mg) : Ok P w K mg base 3 "want_corners" ["rim", "corners"] sp_want_corners := by
  have O_is_pair : Ok P w K mg base 2 "is_pair" ["thing"] sp_is_pair := ok_is_pair T
  have O_bend_right : Ok P w K mg base 2 "bend_right" ["corners"] sp_bend := ok_bend_right T
  refine def_ok T 26 rfl rfl sc_want_corners (fun _ _ _ _ _ _ us hl => match us, hl with | [_, _], _ => rfl) (fun vs H Q E h => ?_) (fun cdv A outer s H vs Q E hr h => ?_)
  · obtain ⟨_, _, _, _, _, rfl, _⟩ := h
    rfl
  · obtain ⟨a, b, xs, ts, ps, rfl, ha, hb, ob, hl, sm, l100, bd, q⟩ := h
    refine ⟨_, (pss_one (ps_if (PW.pt (pw_or (pt_cmpR op_ne (pe_callB call_lenH (by rfl) T.z_len (by decide +kernel) (pa_cons (pv 1) pa_nil)) (pe_callB call_lenH (by rfl) T.z_len (by decide +kernel) (pa_cons (pv 0) pa_nil)) (nomark _)) (pw_or (pt_not (pt_val (pe_callB (cr_all rfl) (by rfl) T.z_all (by decide +kernel) (pa_cons (pe_lc (own := [("corner", 2)]) (g := (gName 2)) rfl sc_want_corners.nd (pi_tup (pv 1)) (blkOk_by (own := [("corner", 2)]) (N := ["rim", "corners", "corner"]) (sc := defScope s_want_corners) (by decide +kernel)) (fun _ _ _ _ _ => (pg_name (i := 2) sc_want_corners.nd rfl (by first | exact .inl rfl | exact .inr rfl))) (fun _ _ _ _ _ => pts_nil) (fun _ _ _ _ _ => (pe_f O_is_pair hr (by rfl) (pa_cons (pv 2) pa_nil)))) pa_nil)))) (pw_or1 (pt_not (pt_val (pe_f O_bend_right hr (by rfl) (pa_cons (pv 1) pa_nil)))))))) pss_never pss_nil)), ?_⟩
    have lt := ob.len
    refine ⟨_, rfl, b, _, rfl, .inr (.inl hb), _, rfl, a, _, rfl, .inr (.inl ha), ?_⟩
    refine ⟨rfl, _, rfl, ?_⟩
    rw [show (V.int ((ts.map V.ref).length : Nat) : V) = V.int (xs.length : Nat) by rw [List.length_map, lt, hl]]
    simp only [ne_eq, not_true_eq_false, decide_false, Bool.not_true, decide_true]
    refine iteF ?_
    refine ⟨_, rfl, b, rfl, ⟨_, SqT.of hb⟩, fun D hD => ?_⟩
    refine lc_tup (K := K) (a := b) (xs := ts.map V.ref) (fun i H' => H' = upd H D (.lst ((List.replicate i true).map V.bl))) rfl (fun i H' _ h => ?_) (fun i x H' hx h => ?_) (fun H' h => ?_)
    · subst h
      exact SqT.of (by rw [upd_ne (ne_of_none hb hD)]; exact hb)
    · subst h
      rw [List.getElem?_map] at hx
      obtain ⟨u, hu, rfl⟩ := Option.map_eq_some_iff.mp hx
      obtain ⟨p, hp, huo⟩ := Paired.at ob hu
      have il := (List.getElem?_eq_some_iff.mp hp).1
      refine ⟨rfl, _, rfl, u, p, rfl, by rw [upd_ne (ne_of_none huo hD)]; exact huo, _, upd_same, ?_, ?_⟩
      · rw [List.length_map, List.length_replicate, sizeLine_eq]; omega
      · rw [upd_upd, List.replicate_succ', List.map_append]
        rfl
    · subst h
      refine ⟨D, _, rfl, SqL.of upd_same, true, ?_, ?_⟩
      · exact congrArg V.bl (all_rep _)
      · have k1 : Kp [] H (upd H D (.lst ((List.replicate (ts.map V.ref).length true).map V.bl))) := Kp.new hD
        refine iteF ?_
        refine ⟨_, rfl, b, ts, ps, rfl, k1.same _ _ hb, ob.kp k1, sm, l100, bd, fun H2 k2 => ⟨true, rfl, iteF ?_⟩⟩
        exact q _ (k1.trans k2)
/-! ### want_rim -/
abbrev tuD (l : List Nat) : PyData := .tuple ((zs l).map .int)
theorem zsD_lay : ∀ is : List Int, PyData.canLayAll0 (is.map .int) = true
  | [] => rfl
  | i :: is => by rw [List.map_cons, PyData.canLayAll0, zsD_lay is]; rfl
theorem zsD_depth : ∀ is : List Int, PyData.depthAll (is.map .int) = 0
  | [] => rfl
  | i :: is => by rw [List.map_cons, PyData.depthAll, zsD_depth is]; simp [PyData.depth]
theorem tuD_lay (l : List Nat) : (tuD l).canLay0 = true := by simpa [PyData.canLay0] using zsD_lay (zs l)
theorem tuD_depth (l : List Nat) : (tuD l).depth = 1 := by rw [PyData.depth, zsD_depth]
theorem dd_tu {H : Hp} {a : Addr} {l : List Nat} (h : H a = some (tuO l)) : DD H (.ref a) (tuD l) := by
  refine ⟨fun K => dd_ints (by rw [← nVs_zs]; exact h) K, Bool.and_eq_true_iff.mpr ⟨tuD_lay l, decide_eq_true ?_⟩⟩
  rw [tuD_depth]
  omega
theorem tuDs_lay : ∀ ls : List (List Nat), PyData.canLayAll0 (ls.map tuD) = true
  | [] => rfl
  | l :: ls => by rw [List.map_cons, PyData.canLayAll0, tuDs_lay ls, tuD_lay]; rfl
theorem tuDs_depth : ∀ ls : List (List Nat), PyData.depthAll (ls.map tuD) ≤ 1
  | [] => by simp [PyData.depthAll]
  | l :: ls => by
    rw [List.map_cons, PyData.depthAll, tuD_depth]
    exact Nat.max_le.mpr ⟨Nat.le_refl _, tuDs_depth ls⟩
theorem dpAll_tus {H : Hp} (K : PySem.W.Frag) {ts : List Addr} {ls : List (List Nat)} (h : Objs H tuO ts ls) : DpAll K H (ts.map V.ref) (ls.map tuD) := by
  induction h with
  | nil => exact .nil
  | cons a _ ih => exact .cons ((dd_tu a).1 K) ih
theorem dd_tus {H : Hp} {a : Addr} {ts : List Addr} {ls : List (List Nat)} (h : H a = some (.lst (ts.map V.ref))) (o : Objs H tuO ts ls) : DD H (.ref a) (.list (ls.map tuD)) := by
  refine ⟨fun K => .lst (SqL.of h) (dpAll_tus K o), Bool.and_eq_true_iff.mpr ⟨by simpa [PyData.canLay0] using tuDs_lay ls, decide_eq_true ?_⟩⟩
  have := tuDs_depth ls
  rw [PyData.depth]
  omega
theorem sc_want_rim : FnScope ["web", "rim", "place"] ["web", "rim"] (defScope s_want_rim) := ⟨rfl, rfl, rfl, by decide +kernel, rfl, by decide +kernel, by decide +kernel⟩
def sp_want_rim : Sp := fun vs H Q _ => ∃ (a b : Addr) (n : Nat) (R : Rows) (c : List S) (l : List Nat), vs = [.ref a, .ref b] ∧ WebT H a n R ∧ Good n R ∧ 4 ≤ n ∧ n ≤ 9 ∧ H b = some (tuO l) ∧ l.length ≤ 100 ∧ Cyc R c ∧ Told R c l ∧ ∀ H', Kp [] H H' → Q .non H'
theorem ok_want_rim (T : Txt K mg) : Ok P w K mg base 6 "want_rim" ["web", "rim"] sp_want_rim := by
  have O_want_flat : Ok P w K mg base 5 "want_flat" ["web"] (spGood .non) := ok_want_flat T
  have O_is_three_tied : Ok P w K mg base 5 "is_three_tied" ["web"] (spGood (.bl true)) := (ok_is_three_tied T).mono (by decide)
  have O_is_whole : Ok P w K mg base 5 "is_whole" ["thing"] sp_is_whole := (ok_is_whole T).mono (by decide)
  have O_faces : Ok P w K mg base 5 "faces" ["web"] sp_faces := (ok_faces T).mono (by decide)
  refine def_ok T 23 rfl rfl sc_want_rim (fun _ _ _ _ _ _ us hl => match us, hl with | [_, _], _ => rfl) (fun vs H Q E h => ?_) (fun cdv A outer s H vs Q E hr h => ?_)
  · obtain ⟨_, _, _, _, _, _, rfl, _⟩ := h
    rfl
  · obtain ⟨a, b, n, R, c, l, rfl, hw, G, h4, hn, hb, hl, cy, tl, q⟩ := h
    have hu65 : (A.deeper (envOfC "want_rim" (defScope s_want_rim) s.heap.objs.size (He.ga K "want_rim") cdv)).units + 65 < cLine := Nat.lt_of_le_of_lt (Nat.add_le_add_left (by decide) _) (units200 hr)
    refine ⟨_, (pss_cons (ps_expr (pe_f O_want_flat hr (by rfl) (pa_cons (pv 0) pa_nil)))
      (pss_cons (ps_if (pt_not (pt_val (pe_f O_is_three_tied hr (by rfl) (pa_cons (pv 0) pa_nil)))) pss_never pss_nil)
      (pss_one (ps_if (PW.pt (pw_or (pt_not (pt_val (pe_callB (cr_all rfl) (by rfl) T.z_all (by decide +kernel) (pa_cons (pe_lc (own := [("place", 2)]) (g := (gName 2)) rfl sc_want_rim.nd (pi_tup (pv 1)) (blkOk_by (own := [("place", 2)]) (N := ["web", "rim", "place"]) (sc := defScope s_want_rim) (by decide +kernel)) (fun _ _ _ _ _ => (pg_name (i := 2) sc_want_rim.nd rfl (by first | exact .inl rfl | exact .inr rfl))) (fun _ _ _ _ _ => pts_nil) (fun _ _ _ _ _ => (pe_f O_is_whole hr (by rfl) (pa_cons (pv 2) pa_nil)))) pa_nil)))) (pw_or1 (pt_cmpR (op_ninL hu65) (pv 1) (pe_f O_faces hr (by rfl) (pa_cons (pv 0) pa_nil)) (by rfl))))) pss_never pss_nil)))), ?_⟩
    refine ⟨_, rfl, a, n, R, rfl, hw, G, h4, hn, fun H1 k1 => ?_⟩
    refine ⟨_, rfl, a, n, R, rfl, hw.kp k1, G, h4, hn, fun H2 k2 => ?_⟩
    refine ⟨true, rfl, iteF ?_⟩
    have k12 := k1.trans k2
    have hb2 := k12.same _ _ hb
    refine ⟨_, rfl, b, rfl, ⟨_, SqT.of hb2⟩, fun D hD => ?_⟩
    refine lc_tup (K := K) (a := b) (xs := nVs l) (fun i H' => H' = upd H2 D (.lst ((List.replicate i true).map V.bl))) rfl (fun i H' _ h => ?_) (fun i x H' hx h => ?_) (fun H' h => ?_)
    · subst h
      exact SqT.of (by rw [upd_ne (ne_of_none hb2 hD)]; exact hb2)
    · subst h
      have il := (List.getElem?_eq_some_iff.mp hx).1
      rw [List.getElem?_map] at hx
      obtain ⟨y, hy, rfl⟩ := Option.map_eq_some_iff.mp hx
      rw [List.length_map] at il
      refine ⟨rfl, _, rfl, (y : Int), rfl, _, upd_same, ?_, ?_⟩
      · rw [List.length_map, List.length_replicate, sizeLine_eq]; omega
      · rw [upd_upd, List.replicate_succ', List.map_append]
        rfl
    · subst h
      refine ⟨D, _, rfl, SqL.of upd_same, true, congrArg V.bl (all_rep _), ?_⟩
      have k3 : Kp [] H (upd H2 D (.lst ((List.replicate (nVs l).length true).map V.bl))) := k12.new' hD
      refine iteF ?_
      refine ⟨_, rfl, _, rfl, a, n, R, rfl, hw.kp k3, G.toWeb, hn, fun p ts ls cs H4 k4 hp obF dec ll tld => ?_⟩
      refine ⟨tuD l, ls.map tuD, dd_tu (k4.same _ _ (k3.same _ _ hb)), dd_tus hp obF, ?_⟩
      have e : ((ls.map tuD).any fun z => PyData.eqv z (tuD l)) = true := by
        rw [List.any_eq_true]
        obtain ⟨s0, hs0⟩ : ∃ s0, s0 ∈ c := by
          cases c with
          | nil => exact absurd rfl cy.ne
          | cons s0 c => exact ⟨s0, List.mem_cons_self ..⟩
        obtain ⟨c', hc', hs'⟩ := List.mem_flatten.mp (dec.all s0 (cy.st s0 hs0))
        obtain ⟨l', hl', tl'⟩ := tld c' hc'
        have := tl'.uniq tl hs' hs0
        subst this
        exact ⟨tuD l', List.mem_map.mpr ⟨l', hl', rfl⟩, SeqAt.eqv_refl _ (tuD_lay l')⟩
      rw [e]
      refine ⟨_, rfl, iteF ?_⟩
      exact q _ (k3.trans k4)
end
end Rd
set_option Elab.async false
set_option linter.all false
set_option maxRecDepth 100000
set_option maxHeartbeats 4000000
/-! Weights. -/
namespace Rd
open PySem PySem.Spec PyProof.Rows L2 Gw
section
variable {P : Program} {w : World} {K : PySem.W.Frag} {mg : Str → Option Value} {base : Heap}
/-- weights of steps that lead from places off the rim -/
structure Wts (n : Nat) (R : Rows) (rim : List Nat) (kvs : List (List Key × V)) : Prop where
  nd : (kvs.map (·.1)).Nodup
  ok : ∀ k v, (k, v) ∈ kvs → ∃ (p q : Nat) (x : Int), k = stK p q ∧ v = .int x ∧ 1 ≤ x ∧ x ≤ 10000000 ∧ p < n ∧ p ∉ rim ∧ q ∈ R p
def wt (kvs : List (List Key × V)) (p q : Nat) : Int := match valV kvs (stK p q) with | some (.int i) => i | _ => 1
theorem valV_mem {kvs : List (List Key × V)} {k : List Key} {v : V} (h : valV kvs k = some v) : (k, v) ∈ kvs := by
  unfold valV at h
  obtain ⟨x, hx, e⟩ := Option.map_eq_some_iff.mp h
  have h1 := List.mem_of_find?_eq_some hx
  have h2 := List.find?_some hx
  have h3 : x.1 = k := by simpa using h2
  rw [← h3, ← e]
  exact h1
theorem Wts.get {n : Nat} {R : Rows} {rim : List Nat} {kvs : List (List Key × V)} (h : Wts n R rim kvs) (p q : Nat) : (valV kvs (stK p q)).getD (.int 1) = .int (wt kvs p q) ∧ 1 ≤ wt kvs p q ∧ wt kvs p q ≤ 10000000 := by
  unfold wt
  cases e : valV kvs (stK p q) with
  | none => exact ⟨rfl, by decide, by decide⟩
  | some v =>
    obtain ⟨p', q', x, e1, rfl, h1, h2, _⟩ := h.ok _ _ (valV_mem e)
    exact ⟨rfl, h1, h2⟩
theorem sc_weight_of : FnScope ["weights", "step"] ["weights", "step"] (defScope s_weight_of) := ⟨rfl, rfl, rfl, by decide +kernel, rfl, by decide +kernel, by decide +kernel⟩
def sp_weight_of : Sp := fun vs H Q _ => ∃ (d s : Addr) (st : S) (kvs : List (List Key × V)) (n : Nat) (R : Rows) (rim : List Nat), vs = [.ref d, .ref s] ∧ H d = some (.dT kvs) ∧ Wts n R rim kvs ∧ H s = some (stO st) ∧ Q (.int (wt kvs st.1 st.2)) H
theorem ok_weight_of (T : Txt K mg) : Ok P w K mg base 1 "weight_of" ["weights", "step"] sp_weight_of := by
  refine def_ok T 15 rfl rfl sc_weight_of (fun _ _ _ _ _ _ us hl => match us, hl with | [_, _], _ => rfl) (fun vs H Q E h => ?_) (fun cdv A outer s H vs Q E hr h => ?_)
  · obtain ⟨_, _, _, _, _, _, _, rfl, _⟩ := h
    rfl
  · obtain ⟨d, sA, st, kvs, n, R, rim, rfl, hd, W, hs, q⟩ := h
    have hu : (A.deeper (envOfC "weight_of" (defScope s_weight_of) s.heap.objs.size (He.ga K "weight_of") cdv)).units + 1 < cLine := Nat.lt_of_le_of_lt (Nat.add_le_add_left (by decide) _) (units200 hr)
    refine ⟨_, (pss_one (ps_ret (pe_dget2 hu (pv 0) (pv 1) pe_int ⟨rfl, rfl, rfl, rfl⟩))), ?_⟩
    refine ⟨_, rfl, d, rfl, .inr ⟨kvs, .inl hd⟩, _, rfl, _, DGet.t (k := stK st.1 st.2) hd hs, ?_⟩
    rw [(W.get st.1 st.2).1]
    exact q
theorem Kp.unlock {H H' : Hp} {d : Addr} {u : HO} (k : Kp [d] H H') (h : H d = some u) : Kp [] H (upd H' d u) := fun b o e _ => by
  by_cases hb : b = d
  · subst hb
    rw [upd_same, ← h, e]
  · rw [upd_ne hb]
    exact k b o e (by simpa using hb)
theorem sc_want_weights : FnScope ["web", "rim", "weights", "inner", "step", "weight"] ["web", "rim", "weights"] (defScope s_want_weights) := ⟨rfl, rfl, rfl, by decide +kernel, rfl, by decide +kernel, by decide +kernel⟩
def sp_want_weights : Sp := fun vs H Q _ => ∃ (a b d : Addr) (n : Nat) (R : Rows) (rim : List Nat) (kvs : List (List Key × V)), vs = [.ref a, .ref b, .ref d] ∧ WebT H a n R ∧ n ≤ 9 ∧ H b = some (tuO rim) ∧ H d = some (.dT kvs) ∧ Wts n R rim kvs ∧ ∀ H', Kp [] H H' → Q .non H'
theorem ok_want_weights (T : Txt K mg) : Ok P w K mg base 3 "want_weights" ["web", "rim", "weights"] sp_want_weights := by
  have O_inner_places : Ok P w K mg base 2 "inner_places" ["web", "rim"] sp_inner_places := (ok_inner_places T).mono (by decide)
  have O_is_pair : Ok P w K mg base 2 "is_pair" ["thing"] sp_is_pair := ok_is_pair T
  have O_is_whole : Ok P w K mg base 2 "is_whole" ["thing"] sp_is_whole := (ok_is_whole T).mono (by decide)
  refine def_ok T 28 rfl rfl sc_want_weights (fun _ _ _ _ _ _ us hl => match us, hl with | [_, _, _], _ => rfl) (fun vs H Q E h => ?_) (fun cdv A outer s H vs Q E hr h => ?_)
  · obtain ⟨_, _, _, _, _, _, _, rfl, _⟩ := h
    rfl
  · obtain ⟨a, b, d, n, R, rim, kvs, rfl, hw, hn, hb, hd, W, q⟩ := h
    refine ⟨_, (pss_cons (ps_set (i := 3) sc_want_weights.nd rfl (by first | exact .inl rfl | exact .inr rfl) (pe_f O_inner_places hr (by rfl) (pa_cons (pv 0) (pa_cons (pv 1) pa_nil))))
      (pss_one (ps_lock (ps_for PassesOwn.never rfl (pi_itemsT (pv 2)) (pg_tup (by rfl) (pgs_cons (pg_name (i := 4) sc_want_weights.nd rfl (by first | exact .inl rfl | exact .inr rfl)) (pgs_cons (pg_name (i := 5) sc_want_weights.nd rfl (by first | exact .inl rfl | exact .inr rfl)) pgs_nil))) (pss_cons (ps_if (PW.pt (pw_or (pt_not (pt_val (pe_f O_is_pair hr (by rfl) (pa_cons (pv 4) pa_nil)))) (pw_or (pt_cmpR op_ninH (pe_ix ixH (pv 4) pe_int (fun _ _ => rfl)) (pv 3) (by rfl)) (pw_or1 (pt_cmpR op_ninH (pe_ix ixH (pv 4) pe_int (fun _ _ => rfl)) (pe_ix ixH (pv 0) (pe_ix ixH (pv 4) pe_int (fun _ _ => rfl)) (fun _ _ => rfl)) (by rfl)))))) pss_never pss_nil)
      (pss_one (ps_if (PW.pt (pw_or (pt_not (pt_val (pe_f O_is_whole hr (by rfl) (pa_cons (pv 5) pa_nil)))) (pw_or1 (pt_cmpR op_lt (pv 5) pe_int (nomark _))))) pss_never pss_nil))))))), ?_⟩
    obtain ⟨xs, ha, lx⟩ := hw.len
    obtain ⟨fr, hw1, hw2⟩ := id hw
    refine ⟨_, rfl, _, rfl, a, b, xs, rim, rfl, ha, hb, by omega, fun iA hiA => ?_⟩
    rw [lx]
    have k0 : Kp [] H (upd H iA (.lst (nVs (inn n rim)))) := Kp.new hiA
    have hd0 := k0.same _ _ hd
    refine ⟨d, _, hd0, trivial, fun od => ?_⟩
    have k1 : Kp [d] H (upd (upd H iA (.lst (nVs (inn n rim)))) d (.frz od (.dT kvs))) := (k0.nil).trans (Kp.put (by simp))
    have hi1 : upd (upd H iA (.lst (nVs (inn n rim)))) d (.frz od (.dT kvs)) iA = some (.lst (nVs (inn n rim))) := by
      rw [upd_ne (ne_of_none hd hiA).symm, upd_same]
    generalize hH1 : upd (upd H iA (.lst (nVs (inn n rim)))) d (.frz od (.dT kvs)) = H1 at k1 hi1 ⊢
    have hd1 : H1 d = some (.frz od (.dT kvs)) := by rw [← hH1, upd_same]
    refine ⟨_, rfl, d, od, kvs, rfl, hd1, ?_⟩
    refine for_itemsT (fun i σ H' => ∃ v4 v5, σ = [some (.ref a), some (.ref b), some (.ref d), some (.ref iA), v4, v5] ∧ Kp [] H1 H') ⟨_, _, rfl, Kp.refl⟩ (fun i σ H' h => ?_) (fun i k v qA t σ H' hkv h ht hq => ?_) (fun σ H' h => ?_)
    · obtain ⟨_, _, _, k2⟩ := h
      exact k2.same _ _ hd1
    · obtain ⟨v4, v5, rfl, k2⟩ := h
      obtain ⟨p, q', x, rfl, rfl, x1, x2, pn, pr, qR⟩ := W.ok k v (List.mem_of_getElem? hkv)
      have k3 : Kp [] H1 (upd H' t (.tup [.ref qA, .int x])) := k2.new' ht
      have hqs : upd H' t (.tup [.ref qA, .int x]) qA = some (stO (p, q')) := by rw [upd_ne (ne_of_none hq ht)]; exact hq
      refine ⟨t, _, rfl, SqT.of upd_same, rfl, _, _, rfl, _, _, rfl, rfl, ?_⟩
      generalize upd H' t (.tup [.ref qA, .int x]) = H2 at k3 hqs ⊢
      have sq : Sq H2 qA [nV p, nV q'] := .inr (.inl hqs)
      have ad : a ∉ [d] := by
        intro z
        rw [List.mem_singleton.mp z, hd] at ha
        cases ha
      have frd : ∀ p, p < n → fr p ∉ [d] := fun p hp z => by
        obtain ⟨o, _, e⟩ := hw2 p hp
        rw [List.mem_singleton.mp z, hd] at e
        cases e
      have kk : Kp [d] H H2 := k1.trans k3.nil
      refine ⟨_, rfl, qA, ((p : Int), (q' : Int)), rfl, hqs, true, rfl, iteF ?_⟩
      refine ⟨_, rfl, qA, _, 0, _, rfl, rfl, sq, rfl, _, rfl, iA, _, rfl, .inl (k3.same _ _ hi1), rfl, flat_nVs _, _, rfl, ?_⟩
      rw [inV_nVs, decide_eq_true (inn_mem.mpr ⟨pn, pr⟩)]
      refine iteF ?_
      refine ⟨_, rfl, qA, _, 1, _, rfl, rfl, sq, rfl, _, rfl, _, rfl, qA, _, 0, _, rfl, rfl, sq, rfl, a, _, _, _, rfl, rfl, .inr (.inl (kk a _ hw1 ad)), atI_range pn, fr p, nVs (R p), rfl, ((hw2 p pn).kp kk (frd p pn)).sq, rfl, flat_nVs _, _, rfl, ?_⟩
      rw [inV_nVs, decide_eq_true qR]
      refine iteF ?_
      refine ⟨_, rfl, x, rfl, true, rfl, iteF ?_⟩
      refine ⟨_, rfl, _, _, rfl, rfl, _, rfl, ?_⟩
      rw [decide_eq_false (show ¬ x < 1 by omega)]
      refine iteF ?_
      exact ⟨_, _, rfl, k3⟩
    · obtain ⟨v4, v5, rfl, k2⟩ := h
      refine ⟨k2.same _ _ hd1, ?_⟩
      exact q _ (Kp.unlock (k1.trans k2.nil) hd)
/-! ### row_at -/
abbrev oneO (x : Int) : HO := .tup [.int x, .int 1]
/-- as it stands while the row is walked -/
def rowP (kvs : List (List Key × V)) (l : List Nat) (p o : Nat) : Int := (if o = p then (l.map fun q => wt kvs p q).sum else 0) - (if o ∈ l then wt kvs p o else 0)
/-- the row of the matrix at place p, its columns the inner places -/
def rowM (kvs : List (List Key × V)) (R : Rows) (p : Nat) (inner : List Nat) : List Int := inner.map (rowP kvs (R p) p)
theorem rowP_snoc {kvs : List (List Key × V)} {l : List Nat} {p o y : Nat} (h : y ∉ l) : rowP kvs (l ++ [y]) p o = rowP kvs l p o + (if o = p then wt kvs p y else 0) - (if o = y then wt kvs p y else 0) := by
  unfold rowP
  have e1 : ((l ++ [y]).map fun q => wt kvs p q).sum = (l.map fun q => wt kvs p q).sum + wt kvs p y := by simp
  rw [e1]
  by_cases h1 : o = y
  · subst h1
    by_cases h2 : o = p
    · simp only [h, h2, List.mem_append, List.mem_singleton, if_true, or_true, if_false]
      rw [h2] at h
      simp only [h, if_false]
      omega
    · simp only [h, h2, List.mem_append, List.mem_singleton, if_true, or_true, if_false]
      omega
  · have e2 : (o ∈ l ++ [y]) ↔ o ∈ l := by simp [h1]
    simp only [e2, h1, if_false]
    by_cases h2 : o = p
    · simp only [h2, if_true]; omega
    · simp only [h2, if_false]; omega
theorem nodup_map {α β : Type} {f : α → β} (hf : ∀ x y, f x = f y → x = y) : ∀ {l : List α}, l.Nodup → (l.map f).Nodup
  | [], _ => .nil
  | a :: l, h => by
    rw [List.nodup_cons] at h
    rw [List.map_cons, List.nodup_cons]
    refine ⟨fun hm => h.1 ?_, nodup_map hf h.2⟩
    obtain ⟨x, hx, e⟩ := List.mem_map.mp hm
    rwa [hf _ _ e] at hx
def iK (o : Nat) : Key := .inl (o : Int)
theorem valV_const (v : V) : ∀ (l : List Nat) (x : Nat), valV (l.map fun o => (iK o, v)) (iK x) = if x ∈ l then some v else none
  | [], x => by simp [valV]
  | o :: l, x => by
    rw [List.map_cons]
    by_cases h : o = x
    · subst h
      rw [valV_pos rfl]
      simp
    · rw [valV_neg (fun e => h (iKey_inj e)), valV_const v l x]
      have : ¬ x = o := fun e => h e.symm
      simp [this]
abbrev zrO (x : Nat) : HO := .tup [kV (.inl (x : Int)), .int 0]
theorem objs_zr {H : Hp} (K : PySem.W.Frag) {ts : List Addr} {l : List Nat} (h : Objs H zrO ts l) : Paired (fun p kv => SqT K H p [kV kv.1, kv.2]) ts (l.map fun o => (iK o, V.int 0)) := by
  induction h with
  | nil => exact .nil
  | cons a _ ih => exact .cons (SqT.of a) ih
theorem sc_row_at : FnScope ["web", "inner", "weights", "place", "other", "found", "q"] ["web", "inner", "weights", "place"] (defScope s_row_at) := ⟨rfl, rfl, rfl, by decide +kernel, rfl, by decide +kernel, by decide +kernel⟩
def sp_row_at : Sp := fun vs H Q _ => ∃ (a b d : Addr) (n : Nat) (R : Rows) (rim inner : List Nat) (kvs : List (List Key × V)) (p : Nat), vs = [.ref a, .ref b, .ref d, nV p] ∧ WebT H a n R ∧ Web n R ∧ n ≤ 9 ∧ H b = some (.lst (nVs inner)) ∧ inner.Nodup ∧ (∀ x, x ∈ inner → x < n) ∧ H d = some (.dT kvs) ∧ Wts n R rim kvs ∧ p ∈ inner ∧
  ∀ H' t ts, Kp [] H H' → H' t = some (.tup (ts.map V.ref)) → Objs H' oneO ts (rowM kvs R p inner) → Q (.ref t) H'
theorem ok_row_at (T : Txt K mg) : Ok P w K mg base 2 "row_at" ["web", "inner", "weights", "place"] sp_row_at := by
  have O_weight_of : Ok P w K mg base 1 "weight_of" ["weights", "step"] sp_weight_of := ok_weight_of T
  refine def_ok T 29 rfl rfl sc_row_at (fun _ _ _ _ _ _ us hl => match us, hl with | [_, _, _, _], _ => rfl) (fun vs H Q E h => ?_) (fun cdv A outer s H vs Q E hr h => ?_)
  · obtain ⟨_, _, _, _, _, _, _, _, _, rfl, _⟩ := h
    rfl
  · obtain ⟨a, b, d, n, R, rim, inner, kvs, p, rfl, hw, W, hn, hb, nd, lt, hd, wts, pin, q⟩ := h
    have hu : (A.deeper (envOfC "row_at" (defScope s_row_at) s.heap.objs.size (He.ga K "row_at") cdv)).units + 1 < cLine := Nat.lt_of_le_of_lt (Nat.add_le_add_left (by decide) _) (units200 hr)
    refine ⟨_, (pss_cons (ps_set (i := 5) sc_row_at.nd rfl (by first | exact .inl rfl | exact .inr rfl) (pe_callTy (call_dictP rfl) (by rfl) T.z_dict (by decide +kernel) (pa_cons (pe_lc (own := [("other", 4)]) (g := (gName 4)) rfl sc_row_at.nd (pi_list (pv 1)) (blkOk_by (own := [("other", 4)]) (N := ["web", "inner", "weights", "place", "other", "found", "q"]) (sc := defScope s_row_at) (by decide +kernel)) (fun _ _ _ _ _ => (pg_name (i := 4) sc_row_at.nd rfl (by first | exact .inl rfl | exact .inr rfl))) (fun _ _ _ _ _ => pts_nil) (fun _ _ _ _ _ => (pe_tup (pa_cons (pv 4) (pa_cons pe_int pa_nil))))) pa_nil)))
      (pss_cons (ps_for PassesOwn.never rfl (pi_tup (pe_ix ixH (pv 0) (pv 3) (fun _ _ => rfl))) (pg_name (i := 6) sc_row_at.nd rfl (by first | exact .inl rfl | exact .inr rfl)) (pss_cons (ps_dput hu (pv 5) (pv 3) (pe_op op_add (pe_dget hu (pv 5) (pv 3) (fun _ _ => rfl)) (pe_f O_weight_of hr (by rfl) (pa_cons (pv 2) (pa_cons (pe_tup (pa_cons (pv 3) (pa_cons (pv 6) pa_nil))) pa_nil)))) rfl)
      (pss_one (ps_if (pt_cmp (pc_din hu (pv 6) (pv 5))) (pss_one (ps_dput hu (pv 5) (pv 6) (pe_op op_sub (pe_dget hu (pv 5) (pv 6) (fun _ _ => rfl)) (pe_f O_weight_of hr (by rfl) (pa_cons (pv 2) (pa_cons (pe_tup (pa_cons (pv 3) (pa_cons (pv 6) pa_nil))) pa_nil)))) rfl)) pss_nil))))
      (pss_one (ps_ret (pe_callTy call_tupH (by rfl) T.z_tuple (by decide +kernel) (pa_cons (pe_lc (own := [("other", 4)]) (g := (gName 4)) rfl sc_row_at.nd (pi_list (pv 1)) (blkOk_by (own := [("other", 4)]) (N := ["web", "inner", "weights", "place", "other", "found", "q"]) (sc := defScope s_row_at) (by decide +kernel)) (fun _ _ _ _ _ => (pg_name (i := 4) sc_row_at.nd rfl (by first | exact .inl rfl | exact .inr rfl))) (fun _ _ _ _ _ => pts_nil) (fun _ _ _ _ _ => (pe_tup (pa_cons (pe_dget hu (pv 5) (pv 4) (fun _ _ => rfl)) (pa_cons pe_int pa_nil))))) pa_nil)))))), ?_⟩
    obtain ⟨fr, hw1, hw2⟩ := id hw
    have l9 := nd_le nd lt
    refine ⟨_, rfl, b, rfl, ⟨_, SqL.of hb⟩, fun D hD => ?_⟩
    refine lc_list (K := K) (a := b) (xs := nVs inner) (fun i H' => ∃ ts, H' D = some (.lst (ts.map V.ref)) ∧ Kp [] H H' ∧ Objs H' zrO ts (inner.take i)) ⟨[], upd_same, Kp.new hD, .nil⟩ (fun i H' _ h => ?_) (fun i x H' hx h => ?_) (fun H1 h => ?_)
    · obtain ⟨_, _, k, _⟩ := h
      exact SqL.of (k.same _ _ hb)
    · obtain ⟨ts, h1, h2, h3⟩ := h
      rw [List.getElem?_map] at hx
      obtain ⟨y, hy, rfl⟩ := Option.map_eq_some_iff.mp hx
      refine ⟨rfl, _, rfl, by show 2 ≤ sizeLine; decide, fun t ht => ?_⟩
      have hDt : D ≠ t := ne_of_none h1 ht
      have il : i < inner.length := (List.getElem?_eq_some_iff.mp hy).1
      refine ⟨ts.map V.ref, by rw [upd_ne hDt]; exact h1, ?_, ts ++ [t], ?_, ?_, ?_⟩
      · rw [List.length_map, h3.len, List.length_take, sizeLine_eq]; omega
      · rw [upd_same]; simp
      · exact (h2.new' ht).own hD
      · rw [take_snoc hy]
        exact Objs.grow (o := zrO) (s := y) h3 h1 (fun s => by simp) ht
    obtain ⟨ts, h1, k1, h3⟩ := h
    rw [List.length_map, List.take_length] at h3
    refine ⟨D, ts, _, rfl, SqL.of h1, objs_zr _ h3, fun f hf => ?_⟩
    have e0 : mergeK [] (inner.map fun o => (iK o, V.int 0)) = inner.map fun o => (iK o, V.int 0) := by
      refine fold_new _ [] ?_
      rw [List.nil_append, List.map_map]
      exact nodup_map (fun x y e => iKey_inj e) nd
    rw [e0]
    have fH : H f = none := k1.free hf
    have pn := lt p pin
    refine ⟨_, rfl, _, rfl, a, _, _, _, rfl, rfl, .inr (.inl ((k1.new' hf).same _ _ hw1)), atI_range pn, fr p, rfl, ⟨_, ((hw2 p pn).kp (k1.new' hf) (by simp)).t⟩, ?_⟩
    refine for_tup (K := K) (xs := nVs (R p)) (fun j σ H' => ∃ fs v6, σ = [some (.ref a), some (.ref b), some (.ref d), some (nV p), none, some (.ref f), v6] ∧ Kp [] H H' ∧ H' f = some (.dK fs) ∧ fs.length ≤ 9 + 2 * j ∧ ∀ o : Nat, valV fs (iK o) = if o ∈ inner then some (.int (rowP kvs ((R p).take j) p o)) else none)
      ⟨_, _, rfl, k1.new' hf, upd_same, by rw [List.length_map]; omega, fun o => by rw [valV_const]; simp [rowP]⟩ (fun j σ H' _ h => ?_) (fun j x σ H' hx h => ?_) (fun σ H' h => ?_)
    · obtain ⟨_, _, _, k2, _⟩ := h
      exact ((hw2 p pn).kp k2 (by simp)).t
    · obtain ⟨fs, v6, rfl, k2, hf2, l2, vv⟩ := h
      rw [List.getElem?_map] at hx
      obtain ⟨y, hy, rfl⟩ := Option.map_eq_some_iff.mp hx
      have jl := (List.getElem?_eq_some_iff.mp hy).1
      have r9 := row_le W hn p pn
      have yt : y ∉ (R p).take j := by
        intro hm
        obtain ⟨i, hi⟩ := List.mem_iff_getElem?.mp hm
        have il := (List.getElem?_eq_some_iff.mp hi).1
        rw [List.length_take] at il
        rw [List.getElem?_take] at hi
        rw [if_pos (by omega)] at hi
        have := (List.getElem?_inj (by omega) (W.nd p)).mp (hi.trans hy.symm)
        omega
      have vp := vv p
      rw [if_pos pin] at vp
      refine ⟨_, rfl, _, rfl, f, _, rfl, vp ▸ DGet.k (k := iK p) hf2, ?_⟩
      have ypn : y ≠ p := W.neq (List.mem_of_getElem? hy)
      refine ⟨_, rfl, _, rfl, _, rfl, by show 2 ≤ sizeLine; decide, fun t ht => ?_⟩
      have k3 : Kp [] H (upd H' t (.tup [nV p, nV y])) := k2.new' ht
      have hf3 : upd H' t (.tup [nV p, nV y]) f = some (.dK fs) := by rw [upd_ne (ne_of_none hf2 ht)]; exact hf2
      refine ⟨d, t, (p, y), kvs, n, R, rim, rfl, k3.same _ _ hd, wts, upd_same, ?_⟩
      refine ⟨_, _, rfl, rfl, _, rfl, _, rfl, f, _, rfl, DPut.k (k := iK p) hf3 (by rw [sizeLine_eq]; omega), ?_⟩
      have k4 : Kp [] H (upd (upd H' t (.tup [nV p, nV y])) f (.dK (putK fs (iK p) (.int (rowP kvs ((R p).take j) p p + wt kvs p y))))) := k3.own fH
      have hf4 : upd (upd H' t (.tup [nV p, nV y])) f (.dK (putK fs (iK p) (.int (rowP kvs ((R p).take j) p p + wt kvs p y)))) f = some (.dK (putK fs (iK p) (.int (rowP kvs ((R p).take j) p p + wt kvs p y)))) := upd_same
      have l4 := putK_len fs (iK p) (.int (rowP kvs ((R p).take j) p p + wt kvs p y))
      have v4 : ∀ o : Nat, valV (putK fs (iK p) (.int (rowP kvs ((R p).take j) p p + wt kvs p y))) (iK o) = if o ∈ inner then some (.int (rowP kvs ((R p).take j) p o + if o = p then wt kvs p y else 0)) else none := fun o => by
        rw [valV_put, vv]
        by_cases h1 : o = p
        · subst h1
          simp [pin]
        · have : ¬ iK o = iK p := fun e => h1 (iKey_inj e)
          simp only [this, h1, if_false, Int.add_zero]
      generalize putK fs (iK p) (.int (rowP kvs ((R p).take j) p p + wt kvs p y)) = fs4 at hf4 l4 v4 k4 ⊢
      have hf4' : upd (upd H' t (.tup [nV p, nV y])) f (.dK fs4) f = some (.dK fs4) := hf4
      generalize upd (upd H' t (.tup [nV p, nV y])) f (.dK fs4) = H4 at hf4 k4 ⊢
      have vy := v4 y
      rw [if_neg ypn, Int.add_zero] at vy
      refine ⟨_, rfl, _, rfl, f, _, rfl, DGet.k (k := iK y) hf4, _, rfl, ?_⟩
      rw [vy]
      by_cases yi : y ∈ inner
      · rw [if_pos yi] at vy ⊢
        refine iteT ?_
        refine ⟨_, rfl, _, rfl, f, _, rfl, vy ▸ DGet.k (k := iK y) hf4, ?_⟩
        refine ⟨_, rfl, _, rfl, _, rfl, by show 2 ≤ sizeLine; decide, fun t2 ht2 => ?_⟩
        have k5 : Kp [] H (upd H4 t2 (.tup [nV p, nV y])) := k4.new' ht2
        have hf5 : upd H4 t2 (.tup [nV p, nV y]) f = some (.dK fs4) := by rw [upd_ne (ne_of_none hf4 ht2)]; exact hf4
        refine ⟨d, t2, (p, y), kvs, n, R, rim, rfl, k5.same _ _ hd, wts, upd_same, ?_⟩
        refine ⟨_, _, rfl, rfl, _, rfl, _, rfl, f, _, rfl, DPut.k (k := iK y) hf5 (by rw [sizeLine_eq]; omega), ?_⟩
        refine ⟨_, _, rfl, k5.own fH, upd_same, Nat.le_trans (putK_len _ _ _) (by omega), fun o => ?_⟩
        rw [valV_put, v4, take_snoc hy, rowP_snoc yt]
        by_cases h1 : o = y
        · subst h1
          simp only [if_true, yi, ypn, if_false, Int.add_zero]
        · have : ¬ iK o = iK y := fun e => h1 (iKey_inj e)
          simp only [this, h1, if_false, Int.sub_zero]
      · rw [if_neg yi]
        refine iteF ?_
        refine ⟨fs4, _, rfl, k4, hf4, by omega, fun o => ?_⟩
        rw [v4, take_snoc hy, rowP_snoc yt]
        by_cases h1 : o = y
        · subst h1
          simp only [yi, if_false]
        · simp only [h1, if_false, Int.sub_zero]
    · obtain ⟨fs, v6, rfl, k2, hf2, l2, vv⟩ := h
      rw [List.length_map, List.take_length] at vv
      refine ⟨_, rfl, b, rfl, ⟨_, SqL.of (k2.same _ _ hb)⟩, fun D2 hD2 => ?_⟩
      refine lc_list (K := K) (a := b) (xs := nVs inner) (fun i H2 => ∃ us, H2 D2 = some (.lst (us.map V.ref)) ∧ Kp [] H' H2 ∧ Objs H2 oneO us ((inner.take i).map (rowP kvs (R p) p))) ⟨[], upd_same, Kp.new hD2, .nil⟩ (fun i H2 _ h => ?_) (fun i x H2 hx h => ?_) (fun H2 h => ?_)
      · obtain ⟨_, _, k, _⟩ := h
        exact SqL.of ((k2.trans k).same _ _ hb)
      · obtain ⟨us, h1, h2, h3⟩ := h
        rw [List.getElem?_map] at hx
        obtain ⟨y, hy, rfl⟩ := Option.map_eq_some_iff.mp hx
        have yi := List.mem_of_getElem? hy
        have vy := vv y
        rw [if_pos yi] at vy
        refine ⟨rfl, _, rfl, _, rfl, f, _, rfl, vy ▸ DGet.k (k := iK y) (h2.same _ _ hf2), by show 2 ≤ sizeLine; decide, fun t ht => ?_⟩
        have hDt : D2 ≠ t := ne_of_none h1 ht
        have l3 := h3.len
        refine ⟨us.map V.ref, by rw [upd_ne hDt]; exact h1, ?_, us ++ [t], ?_, ?_, ?_⟩
        · rw [List.length_map, l3, List.length_map, List.length_take, sizeLine_eq]; omega
        · rw [upd_same]; simp
        · exact (h2.new' ht).own hD2
        · rw [take_snoc hy, List.map_append]
          exact Objs.grow (o := oneO) (s := rowP kvs (R p) p y) h3 h1 (fun s => by simp) ht
      · obtain ⟨us, h1, h2, h3⟩ := h
        rw [List.length_map, List.take_length] at h3
        refine ⟨D2, _, rfl, h1, fun t ht => ?_⟩
        exact q _ t us ((k2.trans h2).new' ht) upd_same (h3.new ht)
/-! ### side_at -/
def sideP (f : Nat → Int) (kvs : List (List Key × V)) (rim l : List Nat) (p : Nat) : Int := (l.map fun q => if q ∈ rim then wt kvs p q * f q else 0).sum
theorem sideP_snoc {f : Nat → Int} {kvs : List (List Key × V)} {rim l : List Nat} {p y : Nat} : sideP f kvs rim (l ++ [y]) p = sideP f kvs rim l p + if y ∈ rim then wt kvs p y * f y else 0 := by
  unfold sideP; simp
/-- the corners of the rim's places, by a dict -/
structure Spots (H : Hp) (s : Addr) (rim : List Nat) (cor : Nat → Pt) : Prop where
  ex : ∃ (ks : List (Key × V)) (cA : Nat → Addr), H s = some (.dK ks) ∧ (∀ q : Nat, valV ks (iK q) = if q ∈ rim then some (.ref (cA q)) else none) ∧ ∀ q, q ∈ rim → H (cA q) = some (ptO (cor q)) ∧ small (cor q)
theorem Spots.kp {H H' : Hp} {s : Addr} {rim : List Nat} {cor : Nat → Pt} (h : Spots H s rim cor) (k : Kp [] H H') : Spots H' s rim cor := by
  obtain ⟨ks, cA, h1, h2, h3⟩ := h.ex
  exact ⟨ks, cA, k.same _ _ h1, h2, fun q hq => ⟨k.same _ _ (h3 q hq).1, (h3 q hq).2⟩⟩
theorem sc_side_at : FnScope ["web", "spots", "weights", "place", "x", "y", "q"] ["web", "spots", "weights", "place"] (defScope s_side_at) := ⟨rfl, rfl, rfl, by decide +kernel, rfl, by decide +kernel, by decide +kernel⟩
def sp_side_at : Sp := fun vs H Q _ => ∃ (a b d : Addr) (n : Nat) (R : Rows) (rim : List Nat) (kvs : List (List Key × V)) (p : Nat) (cor : Nat → Pt), vs = [.ref a, .ref b, .ref d, nV p] ∧ WebT H a n R ∧ Web n R ∧ n ≤ 9 ∧ Spots H b rim cor ∧ H d = some (.dT kvs) ∧ Wts n R rim kvs ∧ p < n ∧
  ∀ H' t t1 t2, Kp [] H H' → H' t = some (.tup [.ref t1, .ref t2]) → H' t1 = some (oneO (sideP (fun q => (cor q).1) kvs rim (R p) p)) → H' t2 = some (oneO (sideP (fun q => (cor q).2) kvs rim (R p) p)) → Q (.ref t) H'
theorem ok_side_at (T : Txt K mg) : Ok P w K mg base 2 "side_at" ["web", "spots", "weights", "place"] sp_side_at := by
  have O_weight_of : Ok P w K mg base 1 "weight_of" ["weights", "step"] sp_weight_of := ok_weight_of T
  refine def_ok T 30 rfl rfl sc_side_at (fun _ _ _ _ _ _ us hl => match us, hl with | [_, _, _, _], _ => rfl) (fun vs H Q E h => ?_) (fun cdv A outer s H vs Q E hr h => ?_)
  · obtain ⟨_, _, _, _, _, _, _, _, _, rfl, _⟩ := h
    rfl
  · obtain ⟨a, b, d, n, R, rim, kvs, p, cor, rfl, hw, W, hn, sp, hd, wts, pn, q⟩ := h
    have hu : (A.deeper (envOfC "side_at" (defScope s_side_at) s.heap.objs.size (He.ga K "side_at") cdv)).units + 1 < cLine := Nat.lt_of_le_of_lt (Nat.add_le_add_left (by decide) _) (units200 hr)
    refine ⟨_, (pss_cons (ps_set (i := 4) sc_side_at.nd rfl (by first | exact .inl rfl | exact .inr rfl) pe_int)
      (pss_cons (ps_set (i := 5) sc_side_at.nd rfl (by first | exact .inl rfl | exact .inr rfl) pe_int)
      (pss_cons (ps_for PassesOwn.never rfl (pi_tup (pe_ix ixH (pv 0) (pv 3) (fun _ _ => rfl))) (pg_name (i := 6) sc_side_at.nd rfl (by first | exact .inl rfl | exact .inr rfl)) (pss_one (ps_if (pt_cmp (pc_din hu (pv 6) (pv 1))) (pss_cons (ps_set (i := 4) sc_side_at.nd rfl (by first | exact .inl rfl | exact .inr rfl) (pe_op op_add (pv 4) (pe_op op_mul (pe_f O_weight_of hr (by rfl) (pa_cons (pv 2) (pa_cons (pe_tup (pa_cons (pv 3) (pa_cons (pv 6) pa_nil))) pa_nil))) (pe_ix ixH (pe_dget hu (pv 1) (pv 6) (fun _ _ => rfl)) pe_int (fun _ _ => rfl)))))
      (pss_one (ps_set (i := 5) sc_side_at.nd rfl (by first | exact .inl rfl | exact .inr rfl) (pe_op op_add (pv 5) (pe_op op_mul (pe_f O_weight_of hr (by rfl) (pa_cons (pv 2) (pa_cons (pe_tup (pa_cons (pv 3) (pa_cons (pv 6) pa_nil))) pa_nil))) (pe_ix ixH (pe_dget hu (pv 1) (pv 6) (fun _ _ => rfl)) pe_int (fun _ _ => rfl))))))) pss_nil)))
      (pss_one (ps_ret (pe_tup (pa_cons (pe_tup (pa_cons (pv 4) (pa_cons pe_int pa_nil))) (pa_cons (pe_tup (pa_cons (pv 5) (pa_cons pe_int pa_nil))) pa_nil)))))))), ?_⟩
    obtain ⟨fr, hw1, hw2⟩ := id hw
    obtain ⟨ks, cA, s1, s2, s3⟩ := sp.ex
    refine ⟨_, rfl, _, rfl, a, _, _, _, rfl, rfl, .inr (.inl hw1), atI_range pn, fr p, rfl, ⟨_, (hw2 p pn).t⟩, ?_⟩
    refine for_tup (K := K) (xs := nVs (R p)) (fun j σ H' => ∃ v6, σ = [some (.ref a), some (.ref b), some (.ref d), some (nV p), some (.int (sideP (fun q => (cor q).1) kvs rim ((R p).take j) p)), some (.int (sideP (fun q => (cor q).2) kvs rim ((R p).take j) p)), v6] ∧ Kp [] H H')
      ⟨_, rfl, Kp.refl⟩ (fun j σ H' _ h => ?_) (fun j x σ H' hx h => ?_) (fun σ H' h => ?_)
    · obtain ⟨_, _, k⟩ := h
      exact ((hw2 p pn).kp k (by simp)).t
    · obtain ⟨v6, rfl, k1⟩ := h
      rw [List.getElem?_map] at hx
      obtain ⟨y, hy, rfl⟩ := Option.map_eq_some_iff.mp hx
      refine ⟨_, rfl, _, rfl, b, _, rfl, DGet.k (k := iK y) (k1.same _ _ s1), _, rfl, ?_⟩
      rw [s2 y, take_snoc hy]
      rw [sideP_snoc, sideP_snoc]
      by_cases hyr : y ∈ rim
      · rw [if_pos hyr, if_pos hyr, if_pos hyr]
        refine iteT ?_
        obtain ⟨c1, c2⟩ := s3 y hyr
        have s2y := s2 y
        rw [if_pos hyr] at s2y
        obtain ⟨_, w1, w2⟩ := wts.get p y
        refine ⟨_, rfl, _, rfl, _, rfl, _, rfl, by show 2 ≤ sizeLine; decide, fun t ht => ?_⟩
        have k2 : Kp [] H (upd H' t (.tup [nV p, nV y])) := k1.new' ht
        refine ⟨d, t, (p, y), kvs, n, R, rim, rfl, k2.same _ _ hd, wts, upd_same, ?_⟩
        refine ⟨_, rfl, _, rfl, b, _, rfl, s2y ▸ DGet.k (k := iK y) (k2.same _ _ s1), cA y, _, 0, _, rfl, rfl, .inr (.inl (k2.same _ _ c1)), rfl, ?_⟩
        refine ⟨_, _, rfl, rfl, .inl ⟨by show _ < wt kvs p y; omega, by show wt kvs p y < _; omega⟩, _, _, rfl, rfl, ?_⟩
        generalize upd H' t (.tup [nV p, nV y]) = H2 at k2 ⊢
        refine ⟨_, rfl, _, rfl, _, rfl, _, rfl, by show 2 ≤ sizeLine; decide, fun t2 ht2 => ?_⟩
        have k3 : Kp [] H (upd H2 t2 (.tup [nV p, nV y])) := k2.new' ht2
        refine ⟨d, t2, (p, y), kvs, n, R, rim, rfl, k3.same _ _ hd, wts, upd_same, ?_⟩
        refine ⟨_, rfl, _, rfl, b, _, rfl, s2y ▸ DGet.k (k := iK y) (k3.same _ _ s1), cA y, _, 1, _, rfl, rfl, .inr (.inl (k3.same _ _ c1)), rfl, ?_⟩
        refine ⟨_, _, rfl, rfl, .inl ⟨by show _ < wt kvs p y; omega, by show wt kvs p y < _; omega⟩, _, _, rfl, rfl, ?_⟩
        exact ⟨_, rfl, k3⟩
      · rw [if_neg hyr, if_neg hyr, if_neg hyr]
        refine iteF ?_
        refine ⟨some (nV y), ?_, k1⟩
        rw [Int.add_zero, Int.add_zero]
        rfl
    · obtain ⟨v6, rfl, k1⟩ := h
      rw [List.length_map, List.take_length]
      refine ⟨_, rfl, by show 2 ≤ sizeLine; decide, fun t1 ht1 => ?_⟩
      have k2 : Kp [] H (upd H' t1 (oneO (sideP (fun q => (cor q).1) kvs rim (R p) p))) := k1.new' ht1
      refine ⟨_, rfl, by show 2 ≤ sizeLine; decide, fun t2 ht2 => ?_⟩
      have t12 : t1 ≠ t2 := ne_of_none upd_same ht2
      have k3 := k2.new' (o := oneO (sideP (fun q => (cor q).2) kvs rim (R p) p)) ht2
      refine ⟨by show 2 ≤ sizeLine; decide, fun t ht => ?_⟩
      have e1 : upd (upd H' t1 (oneO (sideP (fun q => (cor q).1) kvs rim (R p) p))) t2 (oneO (sideP (fun q => (cor q).2) kvs rim (R p) p)) t1 = some (oneO (sideP (fun q => (cor q).1) kvs rim (R p) p)) := by rw [upd_ne t12, upd_same]
      refine q _ t t1 t2 (k3.new' ht) upd_same ?_ ?_
      · rw [upd_ne (ne_of_none e1 ht)]
        exact e1
      · rw [upd_ne (ne_of_none upd_same ht), upd_same]
end
end Rd
set_option Elab.async false
set_option linter.all false
set_option maxRecDepth 100000
set_option maxHeartbeats 4000000
/-! Solving: rows of whole numbers. -/
namespace Rd
open PySem PySem.Spec PyProof.Rows L2 Gw
section
variable {P : Program} {w : World} {K : PySem.W.Frag} {mg : Str → Option Value} {base : Heap}
theorem objs_iat {α : Type} {H : Hp} {o : α → HO} {ts : List Addr} {ss : List α} (h : Objs H o ts ss) {i : Nat} {v : V} (e : (ts.map V.ref)[i]? = some v) : ∃ t s, v = .ref t ∧ ts[i]? = some t ∧ ss[i]? = some s ∧ H t = some (o s) := by
  rw [List.getElem?_map] at e
  obtain ⟨t, ht, rfl⟩ := Option.map_eq_some_iff.mp e
  obtain ⟨s, hs, eo⟩ := Paired.at h ht
  exact ⟨t, s, rfl, ht, hs, eo⟩
/-! ### common_below, whole_row -/
theorem sc_common_below : FnScope ["some", "found", "n", "d"] ["some"] (defScope s_common_below) := ⟨rfl, rfl, rfl, by decide +kernel, rfl, by decide +kernel, by decide +kernel⟩
def sp_common_below : Sp := fun vs H Q _ => ∃ (a : Addr) (ts : List Addr) (xs : List Int), vs = [.ref a] ∧ H a = some (.lst (ts.map V.ref)) ∧ Objs H oneO ts xs ∧ Q (.int 1) H
theorem ok_common_below (T : Txt K mg) : Ok P w K mg base 2 "common_below" ["some"] sp_common_below := by
  have O_divisor : Ok P w K mg base 1 "divisor" ["one", "other"] sp_divisor := ok_divisor T
  refine def_ok T 16 rfl rfl sc_common_below (fun _ _ _ _ _ _ us hl => match us, hl with | [_], _ => rfl) (fun vs H Q E h => ?_) (fun cdv A outer s H vs Q E hr h => ?_)
  · obtain ⟨_, _, _, rfl, _⟩ := h
    rfl
  · obtain ⟨a, ts, xs, rfl, ha, ob, q⟩ := h
    refine ⟨_, (pss_cons (ps_set (i := 1) sc_common_below.nd rfl (by first | exact .inl rfl | exact .inr rfl) pe_int)
      (pss_cons (ps_for PassesOwn.never rfl (pi_list (pv 0)) (pg_tup (by rfl) (pgs_cons (pg_name (i := 2) sc_common_below.nd rfl (by first | exact .inl rfl | exact .inr rfl)) (pgs_cons (pg_name (i := 3) sc_common_below.nd rfl (by first | exact .inl rfl | exact .inr rfl)) pgs_nil))) (pss_one (ps_set (i := 1) sc_common_below.nd rfl (by first | exact .inl rfl | exact .inr rfl) (pe_op op_mulW (pe_op op_fdivW (pv 1) (pe_f O_divisor hr (by rfl) (pa_cons (pv 1) (pa_cons (pv 3) pa_nil)))) (pv 3)))))
      (pss_one (ps_ret (pv 1))))), ?_⟩
    refine ⟨_, rfl, a, rfl, ⟨_, SqL.of ha⟩, ?_⟩
    refine for_list (K := K) (xs := ts.map V.ref) (fun i σ H' => ∃ v2 v3, σ = [some (.ref a), some (.int 1), v2, v3] ∧ H' = H) ⟨_, _, rfl, rfl⟩ (fun i σ H' _ h => ?_) (fun i x σ H' hx h => ?_) (fun σ H' h => ?_)
    · obtain ⟨_, _, _, rfl⟩ := h
      exact SqL.of ha
    · obtain ⟨v2, v3, rfl, rfl⟩ := h
      obtain ⟨t, n, rfl, _, _, ho⟩ := objs_iat ob hx
      refine ⟨t, _, rfl, SqT.of ho, rfl, _, _, rfl, _, _, rfl, rfl, ?_⟩
      refine ⟨_, rfl, _, rfl, _, rfl, 1, 1, rfl, ?_⟩
      refine ⟨_, _, rfl, rfl, wide_div (b := 1) (by decide) (by decide) (by decide) (by decide), _, rfl, _, _, rfl, rfl, wide_mul (a := 1) (b := 1) (by decide) (by decide) (by decide) (by decide) (by decide), ?_⟩
      exact ⟨_, _, rfl, rfl⟩
    · obtain ⟨v2, v3, rfl, rfl⟩ := h
      exact ⟨_, rfl, q⟩
def tight (x : Int) : Prop := x.natAbs < 2 ^ 120
theorem sc_whole_row : FnScope ["row", "side", "some", "common", "n", "d"] ["row", "side"] (defScope s_whole_row) := ⟨rfl, rfl, rfl, by decide +kernel, rfl, by decide +kernel, by decide +kernel⟩
def sp_whole_row : Sp := fun vs H Q _ => ∃ (a b : Addr) (ts us : List Addr) (xs ys : List Int), vs = [.ref a, .ref b] ∧ H a = some (.tup (ts.map V.ref)) ∧ Objs H oneO ts xs ∧ H b = some (.tup (us.map V.ref)) ∧ Objs H oneO us ys ∧ (∀ x, x ∈ xs ++ ys → tight x) ∧ xs.length + ys.length ≤ 100 ∧
  ∀ H' p, Kp [] H H' → H p = none → H' p = some (.lst ((xs ++ ys).map V.int)) → Q (.ref p) H'
theorem ok_whole_row (T : Txt K mg) : Ok P w K mg base 3 "whole_row" ["row", "side"] sp_whole_row := by
  have O_common_below : Ok P w K mg base 2 "common_below" ["some"] sp_common_below := ok_common_below T
  refine def_ok T 17 rfl rfl sc_whole_row (fun _ _ _ _ _ _ us hl => match us, hl with | [_, _], _ => rfl) (fun vs H Q E h => ?_) (fun cdv A outer s H vs Q E hr h => ?_)
  · obtain ⟨_, _, _, _, _, _, rfl, _⟩ := h
    rfl
  · obtain ⟨a, b, ts, us, xs, ys, rfl, ha, oa, hb, ob, bd, l100, q⟩ := h
    refine ⟨_, (pss_cons (ps_set (i := 2) sc_whole_row.nd rfl (by first | exact .inl rfl | exact .inr rfl) (pe_op op_cat (pe_callTy call_listH (by rfl) T.z_list (by decide +kernel) (pa_cons (pv 0) pa_nil)) (pe_callTy call_listH (by rfl) T.z_list (by decide +kernel) (pa_cons (pv 1) pa_nil))))
      (pss_cons (ps_set (i := 3) sc_whole_row.nd rfl (by first | exact .inl rfl | exact .inr rfl) (pe_f O_common_below hr (by rfl) (pa_cons (pv 2) pa_nil)))
      (pss_one (ps_ret (pe_lc (own := [("n", 4), ("d", 5)]) (g := (gTup K 2 (gCons (gName 4) (gCons (gName 5) gNil)))) rfl sc_whole_row.nd (pi_list (pv 2)) (blkOk_by (own := [("n", 4), ("d", 5)]) (N := ["row", "side", "some", "common", "n", "d"]) (sc := defScope s_whole_row) (by decide +kernel)) (fun _ _ _ _ _ => (pg_tup (by rfl) (pgs_cons (pg_name (i := 4) sc_whole_row.nd rfl (by first | exact .inl rfl | exact .inr rfl)) (pgs_cons (pg_name (i := 5) sc_whole_row.nd rfl (by first | exact .inl rfl | exact .inr rfl)) pgs_nil)))) (fun _ _ _ _ _ => pts_nil) (fun _ _ _ _ _ => (pe_op op_mulW (pv 4) (pe_op op_fdivW (pv 3) (pv 5))))))))), ?_⟩
    have la := oa.len
    have lb := ob.len
    refine ⟨_, rfl, a, _, rfl, .inr (.inl ha), fun p1 hp1 => ?_⟩
    have k1 : Kp [] H (upd H p1 (.lst (ts.map V.ref))) := Kp.new hp1
    refine ⟨_, rfl, b, _, rfl, .inr (.inl (k1.same _ _ hb)), fun p2 hp2 => ?_⟩
    have h12 : p1 ≠ p2 := ne_of_none upd_same hp2
    refine ⟨p1, p2, _, _, rfl, rfl, by rw [upd_ne h12, upd_same], upd_same, by rw [List.length_map, List.length_map, sizeLine_eq]; omega, fun p3 hp3 => ?_⟩
    have k3 : Kp [] H (upd (upd (upd H p1 (.lst (ts.map V.ref))) p2 (.lst (us.map V.ref))) p3 (.lst (ts.map V.ref ++ us.map V.ref))) := (k1.new' hp2).new' hp3
    have h3 : upd (upd (upd H p1 (.lst (ts.map V.ref))) p2 (.lst (us.map V.ref))) p3 (.lst (ts.map V.ref ++ us.map V.ref)) p3 = some (.lst ((ts ++ us).map V.ref)) := by rw [upd_same, List.map_append]
    generalize upd (upd (upd H p1 (.lst (ts.map V.ref))) p2 (.lst (us.map V.ref))) p3 (.lst (ts.map V.ref ++ us.map V.ref)) = H3 at k3 h3 ⊢
    have o3 : Objs H3 oneO (ts ++ us) (xs ++ ys) := Paired.app (oa.kp k3) (ob.kp k3)
    have l3 := o3.len
    refine ⟨_, rfl, p3, ts ++ us, xs ++ ys, rfl, h3, o3, ?_⟩
    refine ⟨_, rfl, p3, rfl, ⟨_, SqL.of h3⟩, fun D hD => ?_⟩
    refine lc_list (K := K) (a := p3) (xs := (ts ++ us).map V.ref) (fun i H' => H' = upd H3 D (.lst (((xs ++ ys).take i).map V.int))) rfl (fun i H' _ h => ?_) (fun i x H' hx h => ?_) (fun H' h => ?_)
    · subst h
      exact SqL.of (by rw [upd_ne (ne_of_none h3 hD)]; exact h3)
    · subst h
      obtain ⟨t, n, rfl, _, hn, ho⟩ := objs_iat o3 hx
      have nt := bd n (List.mem_of_getElem? hn)
      refine ⟨t, _, rfl, SqT.of (by rw [upd_ne (ne_of_none ho hD)]; exact ho), rfl, _, _, rfl, _, _, rfl, rfl, ?_⟩
      have il := (List.getElem?_eq_some_iff.mp hn).1
      rw [List.length_append] at il
      refine ⟨rfl, _, rfl, _, rfl, _, rfl, _, _, rfl, rfl, wide_div (b := 1) (by decide) (by decide) (by decide) (by decide), _, _, rfl, rfl, wide_mul (a := 120) (b := 1) nt (by decide) (by decide) (by decide) (by decide), ?_⟩
      refine ⟨_, upd_same, ?_, ?_⟩
      · rw [List.length_map, List.length_take, sizeLine_eq]; omega
      · rw [upd_upd, take_snoc hn, List.map_append]
        show upd H3 D (.lst (_ ++ [V.int (n * 1)])) = _
        rw [Int.mul_one]
        rfl
    · rw [List.length_map, l3, List.take_length] at h
      subst h
      exact q _ D (k3.new' hD) (k3.free hD) upd_same
/-! ### lead_at, taken_off -/
/-- a matrix: a list of m lists of w numbers -/
def MatL (H : Hp) (a : Addr) (m w : Nat) (E : Nat → Nat → Int) : Prop := ∃ f : Nat → Addr, H a = some (.lst ((List.range m).map fun i => V.ref (f i))) ∧ ∀ i, i < m → H (f i) = some (.lst ((List.range w).map fun j => V.int (E i j)))
theorem MatL.kp {H H' : Hp} {a : Addr} {m w : Nat} {E : Nat → Nat → Int} (h : MatL H a m w E) (k : Kp [] H H') : MatL H' a m w E := by
  obtain ⟨f, h1, h2⟩ := h
  exact ⟨f, k.same _ _ h1, fun i hi => k.same _ _ (h2 i hi)⟩
theorem atI_row {w : Nat} {e : Nat → Int} {j : Nat} (h : j < w) : atI ((List.range w).map fun j => V.int (e j)) (j : Int) = some (.int (e j)) := atI_nat (by rw [List.getElem?_map, List.getElem?_range h]; rfl)
theorem sc_lead_at : FnScope ["rows", "k", "at"] ["rows", "k"] (defScope s_lead_at) := ⟨rfl, rfl, rfl, by decide +kernel, rfl, by decide +kernel, by decide +kernel⟩
def sp_lead_at : Sp := fun vs H Q _ => ∃ (a : Addr) (m w k : Nat) (E : Nat → Nat → Int), vs = [.ref a, nV k] ∧ MatL H a m w E ∧ m ≤ 100 ∧ k < m ∧ m ≤ w ∧ E k k ≠ 0 ∧ Q (nV k) H
theorem ok_lead_at (T : Txt K mg) : Ok P w K mg base 1 "lead_at" ["rows", "k"] sp_lead_at := by
  refine def_ok T 18 rfl rfl sc_lead_at (fun _ _ _ _ _ _ us hl => match us, hl with | [_, _], _ => rfl) (fun vs H Q E h => ?_) (fun cdv A outer s H vs Q E hr h => ?_)
  · obtain ⟨_, _, _, _, _, rfl, _⟩ := h
    rfl
  · obtain ⟨a, m, wd, k, En, rfl, ⟨f, h1, h2⟩, m100, hk, hmw, hne, q⟩ := h
    refine ⟨_, (pss_cons (ps_for PassesOwn.never rfl (pi_range2 (by rfl) T.z_range (pa_cons (pv 1) (pa_cons (pe_callB call_lenH (by rfl) T.z_len (by decide +kernel) (pa_cons (pv 0) pa_nil)) pa_nil))) (pg_name (i := 2) sc_lead_at.nd rfl (by first | exact .inl rfl | exact .inr rfl)) (pss_one (ps_if (pt_cmpR op_ne (pe_ix ixH (pe_ix ixH (pv 0) (pv 2) (fun _ _ => rfl)) (pv 1) (fun _ _ => rfl)) pe_int (nomark _)) (pss_one (ps_ret (pv 2))) pss_nil)))
      (pss_one (ps_ret pe_non))), ?_⟩
    have e0 : ((List.range m).map fun i => V.ref (f i)).length = m := by rw [List.length_map, List.length_range]
    refine ⟨_, rfl, _, rfl, a, _, rfl, .inl h1, _, _, rfl, ⟨by omega, by omega, by omega, by omega⟩, ?_⟩
    rw [e0]
    refine for_range (lo := (k : Int)) (n := ((m : Int) - (k : Int)).toNat) (fun i σ H' => i = 0 ∧ ∃ v2, σ = [some (.ref a), some (nV k), v2] ∧ H' = H) ⟨rfl, _, rfl, rfl⟩ (fun i σ H' hi h => ?_) (fun σ H' h => ?_)
    · obtain ⟨rfl, v2, rfl, rfl⟩ := h
      rw [show (k : Int) + ((0 : Nat) : Int) = (k : Int) by omega]
      refine ⟨_, rfl, _, rfl, a, _, _, _, rfl, rfl, .inl h1, atI_range hk, _, rfl, f k, _, _, _, rfl, rfl, .inl (h2 k hk), atI_row (by omega), rfl, _, rfl, ?_⟩
      rw [decide_eq_false (show ¬ (V.int (En k k) = V.int 0) from fun e => hne (by injection e))]
      refine iteT ?_
      exact ⟨_, rfl, q⟩
    · obtain ⟨h0, _⟩ := h
      omega
def rowV (w : Nat) (e : Nat → Int) : HO := .lst ((List.range w).map fun j => V.int (e j))
theorem row_get {w : Nat} {e : Nat → Int} {j : Nat} {v : V} (h : ((List.range w).map fun j => V.int (e j))[j]? = some v) : j < w ∧ v = .int (e j) := by
  have hl := (List.getElem?_eq_some_iff.mp h).1
  rw [List.length_map, List.length_range] at hl
  rw [List.getElem?_map, List.getElem?_range hl] at h
  exact ⟨hl, (Option.some.inj h).symm⟩
theorem row_succ {w : Nat} {e : Nat → Int} : (List.range (w + 1)).map (fun j => V.int (e j)) = (List.range w).map (fun j => V.int (e j)) ++ [.int (e w)] := by rw [List.range_succ, List.map_append]; rfl
theorem sc_taken_off : FnScope ["row", "lead", "k", "last", "one", "other"] ["row", "lead", "k", "last"] (defScope s_taken_off) := ⟨rfl, rfl, rfl, by decide +kernel, rfl, by decide +kernel, by decide +kernel⟩
def sp_taken_off : Sp := fun vs H Q _ => ∃ (a b : Addr) (w k : Nat) (last : Int) (e g : Nat → Int), vs = [.ref a, .ref b, nV k, .int last] ∧ H a = some (rowV w e) ∧ H b = some (rowV w g) ∧ w ≤ 200 ∧ k < w ∧ 0 < last ∧ last.natAbs < 2 ^ 9000 ∧ (∀ j, j < w → (e j).natAbs < 2 ^ 9000 ∧ (g j).natAbs < 2 ^ 9000) ∧
  ∀ H' p, Kp [] H H' → H p = none → H' p = some (rowV w fun j => (g k * e j - e k * g j) / last) → Q (.ref p) H'
theorem ok_taken_off (T : Txt K mg) : Ok P w K mg base 1 "taken_off" ["row", "lead", "k", "last"] sp_taken_off := by
  refine def_ok T 19 rfl rfl sc_taken_off (fun _ _ _ _ _ _ us hl => match us, hl with | [_, _, _, _], _ => rfl) (fun vs H Q E h => ?_) (fun cdv A outer s H vs Q E hr h => ?_)
  · obtain ⟨_, _, _, _, _, _, _, rfl, _⟩ := h
    rfl
  · obtain ⟨a, b, wd, k, last, e, g, rfl, ha, hb, w200, hk, l0, l9, bd, q⟩ := h
    refine ⟨_, (pss_one (ps_ret (pe_lc (own := [("one", 4), ("other", 5)]) (g := (gTup K 2 (gCons (gName 4) (gCons (gName 5) gNil)))) rfl sc_taken_off.nd (RZ.pi_zipA (by rfl) T.z_zip (pa_cons (pv 0) (pa_cons (pv 1) pa_nil))) (blkOk_by (own := [("one", 4), ("other", 5)]) (N := ["row", "lead", "k", "last", "one", "other"]) (sc := defScope s_taken_off) (by decide +kernel)) (fun _ _ _ _ _ => (pg_tup (by rfl) (pgs_cons (pg_name (i := 4) sc_taken_off.nd rfl (by first | exact .inl rfl | exact .inr rfl)) (pgs_cons (pg_name (i := 5) sc_taken_off.nd rfl (by first | exact .inl rfl | exact .inr rfl)) pgs_nil)))) (fun _ _ _ _ _ => pts_nil) (fun _ _ _ _ _ => (pe_op op_fdivW (pe_op op_sub (pe_op op_mulW (pe_ix ixH (pv 1) (pv 2) (fun _ _ => rfl)) (pv 4)) (pe_op op_mulW (pe_ix ixH (pv 0) (pv 2) (fun _ _ => rfl)) (pv 5))) (pv 3)))))), ?_⟩
    unfold rowV at ha hb
    refine ⟨_, rfl, _, rfl, a, b, _, _, rfl, .inl ⟨SqL.of ha, SqL.of hb, fun D hD => ?_⟩⟩
    refine lc_it (walk_zip (K := K) (a := a) (b := b) (xs := (List.range wd).map fun j => V.int (e j)) (ys := (List.range wd).map fun j => V.int (g j)) (n := wd) (by simp)) (fun i H' => H' D = some (rowV i fun j => (g k * e j - e k * g j) / last) ∧ Kp [] H H') ⟨upd_same, Kp.new hD⟩ (fun i H' _ h => ⟨SqL.of (h.2.same _ _ ha), SqL.of (h.2.same _ _ hb)⟩) (fun i x H1 H' hi h y => ?_) (fun H' h => q H' D h.2 hD h.1)
    obtain ⟨h1, k1⟩ := h
    obtain ⟨t, x, y, rfl, ht, rfl, hx, hy⟩ := y
    obtain ⟨_, rfl⟩ := row_get hx
    obtain ⟨_, rfl⟩ := row_get hy
    have k2 : Kp [] H (upd H1 t (.tup [.int (e i), .int (g i)])) := k1.new' ht
    have hDt : D ≠ t := ne_of_none h1 ht
    refine ⟨t, _, rfl, SqT.of upd_same, rfl, _, _, rfl, _, _, rfl, rfl, ?_⟩
    obtain ⟨bi1, bi2⟩ := bd i hi
    obtain ⟨bk1, bk2⟩ := bd k hk
    refine ⟨rfl, _, rfl, _, rfl, b, _, _, _, rfl, rfl, .inl (k2.same _ _ hb), atI_row hk, _, rfl, _, _, rfl, rfl, wide_mul (a := 9000) (b := 9000) bk2 bi1 (by decide) (by decide) (by decide), ?_⟩
    refine ⟨_, rfl, _, rfl, a, _, _, _, rfl, rfl, .inl (k2.same _ _ ha), atI_row hk, _, rfl, _, _, rfl, rfl, wide_mul (a := 9000) (b := 9000) bk1 bi2 (by decide) (by decide) (by decide), ?_⟩
    refine ⟨_, _, rfl, rfl, _, rfl, _, _, rfl, rfl, wide_div l0 l9 (by decide) (by decide), ?_⟩
    refine ⟨(List.range i).map fun j => V.int ((g k * e j - e k * g j) / last), by rw [upd_ne hDt]; exact h1, by rw [List.length_map, List.length_range, sizeLine_eq]; omega, ?_, k2.own hD⟩
    rw [upd_same, rowV, row_succ]
/-! ### cleared -/
theorem set_same {α : Type} {l : List α} {k : Nat} {v : α} (h : l[k]? = some v) : l.set k v = l := by
  apply List.ext_getElem?
  intro i
  rw [List.getElem?_set]
  by_cases e : k = i
  · subst e
    rw [if_pos rfl, h, if_pos (List.getElem?_eq_some_iff.mp h).1]
  · rw [if_neg e]
theorem upd_id {H : Hp} {a : Addr} {o : HO} (h : H a = some o) : upd H a o = H := by
  funext b
  by_cases e : b = a
  · subst e; rw [upd_same, h]
  · rw [upd_ne e]
theorem ixN_nat' {n k : Nat} (h : k < n) : ixN n (k : Int) = some k := by
  unfold ixN
  rw [if_pos (by omega), if_pos (by omega)]
  simp
theorem sc_cleared : FnScope ["rows", "last", "k", "at", "lead", "row"] ["rows"] (defScope s_cleared) := ⟨rfl, rfl, rfl, by decide +kernel, rfl, by decide +kernel, by decide +kernel⟩
def sp_cleared : Sp := fun vs H Q _ => ∃ (a : Addr) (m : Nat) (c : Nat → Nat → Int), vs = [.ref a] ∧ MatL H a m (m + 2) (fun i j => c j i) ∧ m ≤ 9 ∧ (∀ k, k < m → 0 < Gj.M c k k k) ∧ (∀ k, k ≤ m → Gj.Cram c k ∧ 0 < Gj.d c k) ∧ (∀ k, k ≤ m → ∀ i j, i < m → j < m + 2 → (Gj.M c k i j).natAbs < 2 ^ 9000) ∧
  ∀ H' p, Kp [] H H' → MatL H' p m (m + 2) (Gj.M c m) → Q (.ref p) H'
theorem ok_cleared (T : Txt K mg) : Ok P w K mg base 2 "cleared" ["rows"] sp_cleared := by
  have O_lead_at : Ok P w K mg base 1 "lead_at" ["rows", "k"] sp_lead_at := ok_lead_at T
  have O_taken_off : Ok P w K mg base 1 "taken_off" ["row", "lead", "k", "last"] sp_taken_off := ok_taken_off T
  refine def_ok T 20 rfl rfl sc_cleared (fun _ _ _ _ _ _ us hl => match us, hl with | [_], _ => rfl) (fun vs H Q E h => ?_) (fun cdv A outer s H vs Q E hr h => ?_)
  · obtain ⟨_, _, _, rfl, _⟩ := h
    rfl
  · obtain ⟨a, m, c, rfl, hm, m9, piv, pos, bd, q⟩ := h
    refine ⟨_, (pss_cons (ps_set (i := 1) sc_cleared.nd rfl (by first | exact .inl rfl | exact .inr rfl) pe_int)
      (pss_cons (ps_for PassesOwn.never rfl (pi_range1 (by rfl) T.z_range (pa_cons (pe_callB call_lenH (by rfl) T.z_len (by decide +kernel) (pa_cons (pv 0) pa_nil)) pa_nil)) (pg_name (i := 2) sc_cleared.nd rfl (by first | exact .inl rfl | exact .inr rfl)) (pss_cons (ps_set (i := 3) sc_cleared.nd rfl (by first | exact .inl rfl | exact .inr rfl) (pe_f O_lead_at hr (by rfl) (pa_cons (pv 0) (pa_cons (pv 2) pa_nil))))
      (pss_cons (ps_if (pt_cmpR op_isN (pv 3) pe_non (nomark _)) (pss_one (ps_ret pe_non)) pss_nil)
      (pss_cons (ps_asg (pe_tup (pa_cons (pe_ix ixH (pv 0) (pv 3) (fun _ _ => rfl)) (pa_cons (pe_ix ixH (pv 0) (pv 2) (fun _ _ => rfl)) pa_nil))) (pg_tup (by rfl) (pgs_cons (pg_sub (pv 0) (pv 2) set_list) (pgs_cons (pg_sub (pv 0) (pv 3) set_list) pgs_nil))))
      (pss_cons (ps_set (i := 4) sc_cleared.nd rfl (by first | exact .inl rfl | exact .inr rfl) (pe_ix ixH (pv 0) (pv 2) (fun _ _ => rfl)))
      (pss_cons (ps_setLc (i := 0) (own := [("at", 3), ("row", 5)]) (g := (gTup K 2 (gCons (gName 3) (gCons (gName 5) gNil)))) (by rfl) sc_cleared.nd rfl rfl (sw_true rfl rfl rfl (by decide +kernel)) (pi_enum (by rfl) T.z_enumerate (pa_cons (pv 0) pa_nil)) (blkOk_by (own := [("at", 3), ("row", 5)]) (N := ["rows", "last", "k", "at", "lead", "row"]) (sc := defScope s_cleared) (by decide +kernel)) (fun _ _ _ _ _ => (pg_tup (by rfl) (pgs_cons (pg_name (i := 3) sc_cleared.nd rfl (by first | exact .inl rfl | exact .inr rfl)) (pgs_cons (pg_name (i := 5) sc_cleared.nd rfl (by first | exact .inl rfl | exact .inr rfl)) pgs_nil)))) (fun _ _ _ _ _ => pts_nil) (fun _ _ _ _ _ => (pe_ifExp (pt_cmpR op_eq (pv 3) (pv 2) (nomark _)) (pv 5) (pe_f O_taken_off hr (by rfl) (pa_cons (pv 5) (pa_cons (pv 4) (pa_cons (pv 2) (pa_cons (pv 1) pa_nil))))))))
      (pss_one (ps_set (i := 1) sc_cleared.nd rfl (by first | exact .inl rfl | exact .inr rfl) (pe_ix ixH (pv 4) (pv 2) (fun _ _ => rfl))))))))))
      (pss_one (ps_ret (pv 0))))), ?_⟩
    obtain ⟨f0, ha, _⟩ := id hm
    have e0 : ((List.range m).map fun i => V.ref (f0 i)).length = m := by rw [List.length_map, List.length_range]
    refine ⟨_, rfl, a, _, rfl, .inl ha, _, rfl, by omega, by omega, ?_⟩
    rw [show (((List.range m).map fun i => V.ref (f0 i)).length : Int).toNat = m by omega]
    refine for_range (lo := 0) (n := m) (fun k σ H' => ∃ r v2 v3 v4, σ = [some (.ref r), some (.int (Gj.d c k)), v2, v3, v4, none] ∧ Kp [] H H' ∧ MatL H' r m (m + 2) (Gj.M c k)) ⟨a, _, _, _, by rw [Gj.d_zero]; rfl, Kp.refl, ?_⟩ (fun k σ H' hk h => ?_) (fun σ H' h => ?_)
    · obtain ⟨f, h1, h2⟩ := hm
      refine ⟨f, h1, fun i hi => ?_⟩
      rw [h2 i hi]
      congr 2
      refine List.map_congr_left fun j _ => ?_
      rw [Gj.M_zero]
    · obtain ⟨r, v2, v3, v4, rfl, k1, mt⟩ := h
      rw [show (0 : Int) + (k : Int) = (k : Int) by omega]
      obtain ⟨f, h1, h2⟩ := id mt
      have pk := piv k hk
      obtain ⟨cr, dp⟩ := pos k (by omega)
      have d9 : (Gj.d c k).natAbs < 2 ^ 9000 := by
        cases k with
        | zero => rw [Gj.d_zero]; decide
        | succ k => rw [← Gj.M_diag c (k + 1) 0 (by omega)]; exact bd (k + 1) (by omega) 0 0 (by omega) (by omega)
      have ix : ∀ {G : Hp}, Kp [] H' G → Sq G r ((List.range m).map fun i => V.ref (f i)) := fun kk => .inl (kk.same _ _ h1)
      have len : ((List.range m).map fun i => V.ref (f i)).length = m := by rw [List.length_map, List.length_range]
      refine ⟨_, rfl, _, rfl, r, m, m + 2, k, Gj.M c k, rfl, mt, by omega, hk, by omega, by omega, ?_⟩
      refine ⟨_, rfl, rfl, _, rfl, ?_⟩
      rw [decide_eq_false (show ¬ (nV k = V.non) from fun e => nomatch e)]
      refine iteF ?_
      refine ⟨_, rfl, _, rfl, r, _, _, _, rfl, rfl, ix Kp.refl, atI_range hk, _, rfl, _, rfl, r, _, _, _, rfl, rfl, ix Kp.refl, atI_range hk, by show 2 ≤ sizeLine; decide, fun t ht => ?_⟩
      have k2 : Kp [] H' (upd H' t (.tup [.ref (f k), .ref (f k)])) := Kp.new ht
      have hr2 : upd H' t (.tup [.ref (f k), .ref (f k)]) r = some (.lst ((List.range m).map fun i => V.ref (f i))) := k2.same _ _ h1
      have es : ((List.range m).map fun i => V.ref (f i)).set k (.ref (f k)) = (List.range m).map fun i => V.ref (f i) := set_same (range_at hk)
      have eu : upd (upd H' t (.tup [.ref (f k), .ref (f k)])) r (.lst (((List.range m).map fun i => V.ref (f i)).set k (.ref (f k)))) = upd H' t (.tup [.ref (f k), .ref (f k)]) := by rw [es]; exact upd_id hr2
      refine ⟨t, _, rfl, SqT.of upd_same, rfl, _, _, rfl, _, rfl, _, rfl, r, _, _, k, rfl, rfl, hr2, ixN_nat' (by rw [len]; exact hk), ?_⟩
      rw [eu]
      refine ⟨_, _, rfl, _, rfl, _, rfl, r, _, _, k, rfl, rfl, hr2, ixN_nat' (by rw [len]; exact hk), ?_⟩
      rw [eu]
      refine ⟨rfl, ?_⟩
      generalize upd H' t (.tup [.ref (f k), .ref (f k)]) = H2 at k2 hr2 ⊢
      refine ⟨_, rfl, _, rfl, r, _, _, _, rfl, rfl, ix k2, atI_range hk, ?_⟩
      have hl2 := k2.same _ _ (h2 k hk)
      refine ⟨_, rfl, r, _, rfl, SqL.of hr2, fun D hD => ?_⟩
      refine lc_it (walk_enum (K := K) (a := r) (xs := (List.range m).map fun i => V.ref (f i))) (fun i G => ∃ g : Nat → Addr, G D = some (.lst ((List.range i).map fun i => V.ref (g i))) ∧ Kp [] H2 G ∧ ∀ j, j < i → G (g j) = some (rowV (m + 2) (Gj.M c (k + 1) j)) ∧ g j ≠ D) ⟨fun _ => 0, upd_same, Kp.new hD, fun j hj => absurd hj (Nat.not_lt_zero _)⟩ (fun i G _ h => ?_) (fun i x G1 G hi h y => ?_) (fun G h => ?_)
      · obtain ⟨_, _, k3, _⟩ := h
        exact SqL.of (k3.same _ _ hr2)
      · obtain ⟨g, hD1, k3, hg⟩ := h
        obtain ⟨t2, x, y, rfl, ht2, rfl, hx, hy⟩ := y
        obtain rfl := Option.some.inj hx
        have him : i < m := by rwa [len] at hi
        replace hy : ((List.range m).map fun i => V.ref (f i))[i]? = some y := hy
        rw [range_at him] at hy
        obtain rfl := Option.some.inj hy
        have k4 : Kp [] H2 (upd G1 t2 (.tup [.int (i : Nat), .ref (f i)])) := k3.new' ht2
        have hD2 : upd G1 t2 (.tup [.int (i : Nat), .ref (f i)]) D = some (.lst ((List.range i).map fun i => V.ref (g i))) := by rw [upd_ne (ne_of_none hD1 ht2)]; exact hD1
        have hg2 : ∀ j, j < i → upd G1 t2 (.tup [.int (i : Nat), .ref (f i)]) (g j) = some (rowV (m + 2) (Gj.M c (k + 1) j)) := fun j hj => by rw [upd_ne (ne_of_none (hg j hj).1 ht2)]; exact (hg j hj).1
        refine ⟨t2, _, rfl, SqT.of upd_same, rfl, _, _, rfl, _, _, rfl, rfl, ?_⟩
        generalize upd G1 t2 (.tup [.int (i : Nat), .ref (f i)]) = G2 at k4 hD2 hg2 ⊢
        have hfi := k4.same _ _ (k2.same _ _ (h2 i him))
        -- the new list grows by a row
        have grow : ∀ (G3 : Hp) (z : Addr), Kp [] G2 G3 → G3 z = some (rowV (m + 2) (Gj.M c (k + 1) i)) → z ≠ D → ∃ acc, G3 D = some (.lst acc) ∧ acc.length < sizeLine ∧ ∃ g : Nat → Addr, upd G3 D (.lst (acc ++ [.ref z])) D = some (.lst ((List.range (i + 1)).map fun i => V.ref (g i))) ∧ Kp [] H2 (upd G3 D (.lst (acc ++ [.ref z]))) ∧ ∀ j, j < i + 1 → upd G3 D (.lst (acc ++ [.ref z])) (g j) = some (rowV (m + 2) (Gj.M c (k + 1) j)) ∧ g j ≠ D := by
          intro G3 z kz hz hzD
          refine ⟨_, kz.same _ _ hD2, by rw [List.length_map, List.length_range, sizeLine_eq]; omega, fun j => if j = i then z else g j, ?_, (k4.trans kz).own hD, fun j hj => ?_⟩
          · rw [upd_same, List.range_succ, List.map_append]
            have e1 : (List.range i).map (fun i_1 => V.ref ((fun j => if j = i then z else g j) i_1)) = (List.range i).map fun j => V.ref (g j) := by
              refine List.map_congr_left fun j hj => ?_
              have : j ≠ i := by have := List.mem_range.mp hj; omega
              simp [this]
            have e2 : [i].map (fun i_1 => V.ref ((fun j => if j = i then z else g j) i_1)) = [.ref z] := by simp
            rw [e1, e2]
          · by_cases hji : j = i
            · subst hji
              simp only [if_true]
              rw [upd_ne hzD]
              exact ⟨hz, hzD⟩
            · simp only [hji, if_false]
              have e := kz.same _ _ (hg2 j (by omega))
              have nD := (hg j (by omega)).2
              rw [upd_ne nD]
              exact ⟨e, nD⟩
        refine ⟨rfl, _, rfl, _, rfl, rfl, _, rfl, ?_⟩
        by_cases hik : i = k
        · subst hik
          rw [decide_eq_true rfl]
          refine iteT ?_
          refine ⟨_, rfl, grow G2 (f i) Kp.refl ?_ (ne_of_none hl2 hD)⟩
          rw [hfi, rowV]
          congr 2
          refine List.map_congr_left fun j _ => ?_
          rw [Gj.M_same c cr (by omega)]
        · rw [decide_eq_false (show ¬ (V.int (i : Int) = V.int (k : Int)) from fun e => hik (nV_inj e))]
          refine iteF ?_
          refine ⟨_, rfl, _, rfl, _, rfl, _, rfl, f i, f k, m + 2, k, Gj.d c k, Gj.M c k i, Gj.M c k k, rfl, hfi, k4.same _ _ hl2, by omega, by omega, dp, d9, fun j hj => ⟨bd k (by omega) i j him hj, bd k (by omega) k j hk hj⟩, fun G3 z kz nz hz => ?_⟩
          refine grow G3 z kz ?_ (ne_of_none hD2 nz).symm
          rw [hz]
          unfold rowV
          congr 2
          refine List.map_congr_left fun j _ => ?_
          have e := Gj.M_up c cr (by omega) hik j
          show V.int ((Gj.M c k k k * Gj.M c k i j - Gj.M c k i k * Gj.M c k k j) / Gj.d c k) = _
          rw [← e, Int.mul_ediv_cancel_left _ (by omega)]
      · obtain ⟨g, hD1, k3, hg⟩ := h
        rw [len] at hD1 hg
        refine ⟨_, rfl, _, rfl, f k, _, _, _, rfl, rfl, .inl (k3.same _ _ hl2), atI_row (by omega), ?_⟩
        refine ⟨D, some (.int (k : Int)), some (nV k), some (.ref (f k)), ?_, (k1.trans k2).trans k3, g, hD1, fun j hj => (hg j hj).1⟩
        rw [Gj.d_succ c cr (by omega)]
        rfl
    · obtain ⟨r, v2, v3, v4, rfl, k1, mt⟩ := h
      exact ⟨_, rfl, q H' r k1 mt⟩
end
end Rd
set_option Elab.async false
set_option linter.all false
set_option maxRecDepth 100000
set_option maxHeartbeats 4000000
/-! Solving: fractions. -/
namespace Rd
open PySem PySem.Spec PyProof.Rows L2 Gw
section
variable {P : Program} {w : World} {K : PySem.W.Frag} {mg : Str → Option Value} {base : Heap}
theorem walk_zipT {a b : Addr} {xs ys : List V} {n : Nat} (hn : n = min xs.length ys.length) : Walk (RZ.ItzT K a b) n (fun H => SqT K H a xs ∧ SqT K H b ys) (YPair (fun i => xs[i]?) (fun i => ys[i]?)) := by
  subst hn
  refine ⟨fun i _ hi q => ?_, fun _ q => ⟨xs, ys, q.1, q.2, by omega⟩, fun i H v H' _ q y => ?_⟩
  · have g1 : i < xs.length := by omega
    have g2 : i < ys.length := by omega
    exact ⟨xs, ys, xs[i], ys[i], q.1, q.2, by simp [g1], by simp [g2]⟩
  · obtain ⟨T, x, z, g1, g2, g3, g4, g5⟩ := y
    exact ⟨T, x, z, g1, g2, g3, g4 xs q.1, g5 ys q.2⟩
/-- a tuple of whole numbers as fractions -/
def FrT (H : Hp) (b : Addr) (xs : List Int) : Prop := ∃ us : List Addr, H b = some (.tup (us.map V.ref)) ∧ Objs H oneO us xs
theorem FrT.kp {H H' : Hp} {b : Addr} {xs : List Int} (h : FrT H b xs) (k : Kp [] H H') : FrT H' b xs := let ⟨us, h1, h2⟩ := h; ⟨us, k.same _ _ h1, h2.kp k⟩
def RowsT (H : Hp) (a : Addr) (m : Nat) (X : Nat → List Int) : Prop := ∃ f : Nat → Addr, H a = some (.tup ((List.range m).map fun i => V.ref (f i))) ∧ ∀ i, i < m → FrT H (f i) (X i)
theorem RowsT.kp {H H' : Hp} {a : Addr} {m : Nat} {X : Nat → List Int} (h : RowsT H a m X) (k : Kp [] H H') : RowsT H' a m X := let ⟨f, h1, h2⟩ := h; ⟨f, k.same _ _ h1, fun i hi => (h2 i hi).kp k⟩
/-- a point: a pair of fractions -/
def PtR (H : Hp) (t : Addr) (x y : Int × Int) : Prop := ∃ t1 t2, H t = some (.tup [.ref t1, .ref t2]) ∧ H t1 = some (ptO x) ∧ H t2 = some (ptO y)
theorem PtR.kp {H H' : Hp} {t : Addr} {x y : Int × Int} (h : PtR H t x y) (k : Kp [] H H') : PtR H' t x y := let ⟨t1, t2, a, b, c⟩ := h; ⟨t1, t2, k.same _ _ a, k.same _ _ b, k.same _ _ c⟩
def rowL (m : Nat) (c : Nat → Nat → Int) (i : Nat) : List Int := (List.range m).map fun j => c j i
theorem row_join (m : Nat) (c : Nat → Nat → Int) (i : Nat) : (rowL m c i ++ [c m i, c (m + 1) i]).map V.int = (List.range (m + 2)).map fun j => V.int (c j i) := by
  rw [show m + 2 = (m + 1) + 1 from rfl, List.range_succ, List.range_succ]
  simp [rowL]
/-- a new list grows by a new object; told by a function -/
theorem fun_grow {H G G3 : Hp} {D z : Addr} {i : Nat} {g : Nat → Addr} {Rel : Hp → Nat → Addr → Prop} (hD0 : H D = none) (hD : G D = some (.lst ((List.range i).map fun j => V.ref (g j)))) (hi : i < 1000) (kz : Kp [] G G3) (kH : Kp [] H G)
    (mono : ∀ (G G' : Hp) j z, (∀ b o, G b = some o → ((∀ l, o ≠ .lst l) ∨ b ≠ D) → G' b = some o) → z ≠ D → Rel G j z → Rel G' j z)
    (hg : ∀ j, j < i → Rel G j (g j) ∧ g j ≠ D) (hz : Rel G3 i z) (hzD : z ≠ D) :
    ∃ acc, G3 D = some (.lst acc) ∧ acc.length < sizeLine ∧ ∃ g : Nat → Addr, upd G3 D (.lst (acc ++ [.ref z])) D = some (.lst ((List.range (i + 1)).map fun i => V.ref (g i))) ∧ Kp [] H (upd G3 D (.lst (acc ++ [.ref z]))) ∧ ∀ j, j < i + 1 → Rel (upd G3 D (.lst (acc ++ [.ref z]))) j (g j) ∧ g j ≠ D := by
  have st : ∀ b o, G3 b = some o → ((∀ l, o ≠ .lst l) ∨ b ≠ D) → upd G3 D (.lst ((List.range i).map (fun j => V.ref (g j)) ++ [.ref z])) b = some o := fun b o e hb => by
    have nb : b ≠ D := by
      rcases hb with hb | hb
      · intro z
        subst z
        rw [kz.same _ _ hD] at e
        exact hb _ (Option.some.inj e).symm
      · exact hb
    rw [upd_ne nb]
    exact e
  refine ⟨_, kz.same _ _ hD, by rw [List.length_map, List.length_range, sizeLine_eq]; omega, fun j => if j = i then z else g j, ?_, (kH.trans kz).own hD0, fun j hj => ?_⟩
  · rw [upd_same, List.range_succ, List.map_append]
    have e1 : (List.range i).map (fun i_1 => V.ref ((fun j => if j = i then z else g j) i_1)) = (List.range i).map fun j => V.ref (g j) := by
      refine List.map_congr_left fun j hj => ?_
      have : j ≠ i := by have := List.mem_range.mp hj; omega
      simp [this]
    have e2 : [i].map (fun i_1 => V.ref ((fun j => if j = i then z else g j) i_1)) = [.ref z] := by simp
    rw [e1, e2]
  · by_cases hji : j = i
    · subst hji
      simp only [if_true]
      exact ⟨mono _ _ _ _ st hzD hz, hzD⟩
    · simp only [hji, if_false]
      obtain ⟨e, nD⟩ := hg j (by omega)
      exact ⟨mono _ _ _ _ st nD (mono _ _ _ _ (fun b o e _ => kz.same _ _ e) nD e), nD⟩
theorem sc_solved : FnScope ["rows", "sides", "many", "row", "side", "found", "k"] ["rows", "sides"] (defScope s_solved) := ⟨rfl, rfl, rfl, by decide +kernel, rfl, by decide +kernel, by decide +kernel⟩
def sp_solved : Sp := fun vs H Q _ => ∃ (a b : Addr) (m : Nat) (c : Nat → Nat → Int), vs = [.ref a, .ref b] ∧ RowsT H a m (rowL m c) ∧ RowsT H b m (fun i => [c m i, c (m + 1) i]) ∧ m ≤ 9 ∧ (∀ i j, i < m → j < m + 2 → tight (c j i)) ∧ (∀ k, k < m → 0 < Gj.M c k k k) ∧ (∀ k, k ≤ m → Gj.Cram c k ∧ 0 < Gj.d c k) ∧ (∀ k, k ≤ m → ∀ i j, i < m → j < m + 2 → (Gj.M c k i j).natAbs < 2 ^ 9000) ∧
  ∀ (H' : Hp) (p : Addr) (f : Nat → Addr), Kp [] H H' → H' p = some (.tup ((List.range m).map fun i => V.ref (f i))) → (∀ k, k < m → PtR H' (f k) (low (Gj.M c m k m) (Gj.d c m)) (low (Gj.M c m k (m + 1)) (Gj.d c m))) → Q (.ref p) H'
theorem ok_solved (T : Txt K mg) : Ok P w K mg base 4 "solved" ["rows", "sides"] sp_solved := by
  have O_whole_row : Ok P w K mg base 3 "whole_row" ["row", "side"] sp_whole_row := ok_whole_row T
  have O_cleared : Ok P w K mg base 3 "cleared" ["rows"] sp_cleared := (ok_cleared T).mono (by decide)
  have O_fraction : Ok P w K mg base 3 "fraction" ["n", "d"] sp_fraction := (ok_fraction T).mono (by decide)
  refine def_ok T 21 rfl rfl sc_solved (fun _ _ _ _ _ _ us hl => match us, hl with | [_, _], _ => rfl) (fun vs H Q E h => ?_) (fun cdv A outer s H vs Q E hr h => ?_)
  · obtain ⟨_, _, _, _, rfl, _⟩ := h
    rfl
  · obtain ⟨a, b, m, c, rfl, ra, rb, m9, ti, piv, pos, bd, q⟩ := h
    refine ⟨_, (pss_cons (ps_set (i := 2) sc_solved.nd rfl (by first | exact .inl rfl | exact .inr rfl) (pe_callB call_lenH (by rfl) T.z_len (by decide +kernel) (pa_cons (pv 0) pa_nil)))
      (pss_cons (ps_set (i := 5) sc_solved.nd rfl (by first | exact .inl rfl | exact .inr rfl) (pe_f O_cleared hr (by rfl) (pa_cons (pe_lc (own := [("row", 3), ("side", 4)]) (g := (gTup K 2 (gCons (gName 3) (gCons (gName 4) gNil)))) rfl sc_solved.nd (RZ.pi_zipA (by rfl) T.z_zip (pa_cons (pv 0) (pa_cons (pv 1) pa_nil))) (blkOk_by (own := [("row", 3), ("side", 4)]) (N := ["rows", "sides", "many", "row", "side", "found", "k"]) (sc := defScope s_solved) (by decide +kernel)) (fun _ _ _ _ _ => (pg_tup (by rfl) (pgs_cons (pg_name (i := 3) sc_solved.nd rfl (by first | exact .inl rfl | exact .inr rfl)) (pgs_cons (pg_name (i := 4) sc_solved.nd rfl (by first | exact .inl rfl | exact .inr rfl)) pgs_nil)))) (fun _ _ _ _ _ => pts_nil) (fun _ _ _ _ _ => (pe_f O_whole_row hr (by rfl) (pa_cons (pv 3) (pa_cons (pv 4) pa_nil))))) pa_nil)))
      (pss_cons (ps_if (pt_cmpR op_isN (pv 5) pe_non (nomark _)) (pss_one (ps_ret pe_non)) pss_nil)
      (pss_one (ps_ret (pe_callTy call_tupH (by rfl) T.z_tuple (by decide +kernel) (pa_cons (pe_lc (own := [("k", 6), ("row", 3)]) (g := (gTup K 2 (gCons (gName 6) (gCons (gName 3) gNil)))) rfl sc_solved.nd (pi_enum (by rfl) T.z_enumerate (pa_cons (pv 5) pa_nil)) (blkOk_by (own := [("k", 6), ("row", 3)]) (N := ["rows", "sides", "many", "row", "side", "found", "k"]) (sc := defScope s_solved) (by decide +kernel)) (fun _ _ _ _ _ => (pg_tup (by rfl) (pgs_cons (pg_name (i := 6) sc_solved.nd rfl (by first | exact .inl rfl | exact .inr rfl)) (pgs_cons (pg_name (i := 3) sc_solved.nd rfl (by first | exact .inl rfl | exact .inr rfl)) pgs_nil)))) (fun _ _ _ _ _ => pts_nil) (fun _ _ _ _ _ => (pe_tup (pa_cons (pe_f O_fraction hr (by rfl) (pa_cons (pe_ix ixH (pv 3) (pv 2) (fun _ _ => rfl)) (pa_cons (pe_ix ixH (pv 3) (pv 6) (fun _ _ => rfl)) pa_nil))) (pa_cons (pe_f O_fraction hr (by rfl) (pa_cons (pe_ix ixH (pv 3) (pe_op op_add (pv 2) pe_int) (fun _ _ => rfl)) (pa_cons (pe_ix ixH (pv 3) (pv 6) (fun _ _ => rfl)) pa_nil))) pa_nil))))) pa_nil))))))), ?_⟩
    obtain ⟨fa, ha, ha2⟩ := id ra
    obtain ⟨fb, hb, hb2⟩ := id rb
    have len : ∀ f : Nat → Addr, ((List.range m).map fun i => V.ref (f i)).length = m := fun f => by rw [List.length_map, List.length_range]
    refine ⟨_, rfl, a, _, rfl, .inr (.inl ha), ?_⟩
    refine ⟨_, rfl, _, rfl, a, b, _, _, rfl, .inr ⟨SqT.of ha, SqT.of hb, fun D hD => ?_⟩⟩
    refine lc_it (walk_zipT (K := K) (a := a) (b := b) (xs := (List.range m).map fun i => V.ref (fa i)) (ys := (List.range m).map fun i => V.ref (fb i)) (n := m) (by simp)) (fun i G => ∃ g : Nat → Addr, G D = some (.lst ((List.range i).map fun i => V.ref (g i))) ∧ Kp [] H G ∧ ∀ j, j < i → G (g j) = some (rowV (m + 2) fun jj => c jj j) ∧ g j ≠ D)
      ⟨fun _ => 0, upd_same, Kp.new hD, fun j hj => absurd hj (Nat.not_lt_zero _)⟩ (fun i G _ h => ?_) (fun i x G1 G hi h y => ?_) (fun G h => ?_)
    · obtain ⟨_, _, k, _⟩ := h
      exact ⟨SqT.of (k.same _ _ ha), SqT.of (k.same _ _ hb)⟩
    · obtain ⟨g, hD1, k1, hg⟩ := h
      obtain ⟨t, x, y, rfl, ht, rfl, hx, hy⟩ := y
      replace hx : ((List.range m).map fun i => V.ref (fa i))[i]? = some x := hx
      replace hy : ((List.range m).map fun i => V.ref (fb i))[i]? = some y := hy
      rw [range_at hi] at hx hy
      obtain rfl := Option.some.inj hx
      obtain rfl := Option.some.inj hy
      have k2 : Kp [] H (upd G1 t (.tup [.ref (fa i), .ref (fb i)])) := k1.new' ht
      have hD2 : upd G1 t (.tup [.ref (fa i), .ref (fb i)]) D = some (.lst ((List.range i).map fun i => V.ref (g i))) := by rw [upd_ne (ne_of_none hD1 ht)]; exact hD1
      have hg2 : ∀ j, j < i → upd G1 t (.tup [.ref (fa i), .ref (fb i)]) (g j) = some (rowV (m + 2) fun jj => c jj j) ∧ g j ≠ D := fun j hj => ⟨by rw [upd_ne (ne_of_none (hg j hj).1 ht)]; exact (hg j hj).1, (hg j hj).2⟩
      refine ⟨t, _, rfl, SqT.of upd_same, rfl, _, _, rfl, _, _, rfl, rfl, ?_⟩
      generalize upd G1 t (.tup [.ref (fa i), .ref (fb i)]) = G2 at k2 hD2 hg2 ⊢
      obtain ⟨ua, ea, oa⟩ := (ha2 i hi).kp k2
      obtain ⟨ub, eb, ob⟩ := (hb2 i hi).kp k2
      refine ⟨rfl, _, rfl, _, rfl, fa i, fb i, ua, ub, rowL m c i, [c m i, c (m + 1) i], rfl, ea, oa, eb, ob, fun x hx => ?_, ?_, fun G3 z kz nz hz => ?_⟩
      · rcases List.mem_append.mp hx with h | h
        · obtain ⟨j, hj, rfl⟩ := List.mem_map.mp h
          have := List.mem_range.mp hj
          exact ti i j hi (by omega)
        · simp only [List.mem_cons, List.not_mem_nil, or_false] at h
          rcases h with rfl | rfl
          · exact ti i m hi (by omega)
          · exact ti i (m + 1) hi (by omega)
      · simp [rowL]; omega
      · rw [row_join] at hz
        exact fun_grow (Rel := fun G j z => G z = some (rowV (m + 2) fun jj => c jj j)) hD hD2 (by omega) kz k2 (fun _ _ _ _ st hzD e => st _ _ e (.inr hzD)) hg2 hz (ne_of_none hD2 nz).symm
    · obtain ⟨g, hD1, k1, hg⟩ := h
      refine ⟨D, m, c, rfl, ⟨g, hD1, fun i hi => (hg i hi).1⟩, m9, piv, pos, bd, fun G2 r k2 mt => ?_⟩
      refine ⟨_, rfl, rfl, _, rfl, ?_⟩
      rw [decide_eq_false (show ¬ (V.ref r = V.non) from fun e => nomatch e)]
      refine iteF ?_
      obtain ⟨f, h1, h2⟩ := mt
      obtain ⟨cr, dp⟩ := pos m (Nat.le_refl _)
      refine ⟨_, rfl, r, _, rfl, SqL.of h1, fun D2 hD2 => ?_⟩
      refine lc_it (walk_enum (K := K) (a := r) (xs := (List.range m).map fun i => V.ref (f i))) (fun i G => ∃ g : Nat → Addr, G D2 = some (.lst ((List.range i).map fun i => V.ref (g i))) ∧ Kp [] G2 G ∧ ∀ j, j < i → PtR G (g j) (low (Gj.M c m j m) (Gj.d c m)) (low (Gj.M c m j (m + 1)) (Gj.d c m)) ∧ g j ≠ D2)
        ⟨fun _ => 0, upd_same, Kp.new hD2, fun j hj => absurd hj (Nat.not_lt_zero _)⟩ (fun i G _ h => ?_) (fun i x G3 G hi h y => ?_) (fun G h => ?_)
      · obtain ⟨_, _, k, _⟩ := h
        exact SqL.of (k.same _ _ h1)
      · obtain ⟨g, hD3, k3, hg⟩ := h
        obtain ⟨t, x, y, rfl, ht, rfl, hx, hy⟩ := y
        obtain rfl := Option.some.inj hx
        have him : i < m := by rwa [len] at hi
        replace hy : ((List.range m).map fun i => V.ref (f i))[i]? = some y := hy
        rw [range_at him] at hy
        obtain rfl := Option.some.inj hy
        have k4 : Kp [] G2 (upd G3 t (.tup [.int (i : Nat), .ref (f i)])) := k3.new' ht
        have hD4 : upd G3 t (.tup [.int (i : Nat), .ref (f i)]) D2 = some (.lst ((List.range i).map fun i => V.ref (g i))) := by rw [upd_ne (ne_of_none hD3 ht)]; exact hD3
        have hg4 : ∀ j, j < i → PtR (upd G3 t (.tup [.int (i : Nat), .ref (f i)])) (g j) (low (Gj.M c m j m) (Gj.d c m)) (low (Gj.M c m j (m + 1)) (Gj.d c m)) ∧ g j ≠ D2 := fun j hj => ⟨(hg j hj).1.kp (Kp.new ht), (hg j hj).2⟩
        refine ⟨t, _, rfl, SqT.of upd_same, rfl, _, _, rfl, _, _, rfl, rfl, ?_⟩
        generalize upd G3 t (.tup [.int (i : Nat), .ref (f i)]) = G4 at k4 hD4 hg4 ⊢
        have row : ∀ {G5 : Hp}, Kp [] G4 G5 → Sq G5 (f i) ((List.range (m + 2)).map fun j => V.int (Gj.M c m i j)) := fun kk => .inl (kk.same _ _ (k4.same _ _ (h2 i him)))
        have ed : Gj.M c m i i = Gj.d c m := Gj.M_diag c m i him
        have dp' : 0 < Gj.M c m i i := by rw [ed]; exact dp
        have d9 := bd m (Nat.le_refl _) i i him (by omega)
        refine ⟨rfl, ?_⟩
        have am : atI ((List.range (m + 2)).map fun j => V.int (Gj.M c m i j)) (((List.range m).map fun i => V.ref (fa i)).length : Nat) = some (.int (Gj.M c m i m)) := by
          rw [len]
          exact atI_row (by omega)
        have am1 : atI ((List.range (m + 2)).map fun j => V.int (Gj.M c m i j)) ((((List.range m).map fun i => V.ref (fa i)).length : Nat) + 1 : Int) = some (.int (Gj.M c m i (m + 1))) := by
          rw [len, show ((m : Nat) : Int) + 1 = ((m + 1 : Nat) : Int) by omega]
          exact atI_row (by omega)
        refine ⟨_, rfl, _, rfl, f i, _, _, .int (Gj.M c m i m), rfl, rfl, row Kp.refl, am, _, rfl, _, rfl, f i, _, _, .int (Gj.M c m i i), rfl, rfl, row Kp.refl, atI_row (by omega), ?_⟩
        refine ⟨_, _, rfl, dp', d9, fun p1 hp1 => ?_⟩
        have k5 : Kp [] G4 (upd G4 p1 (ptO (low (Gj.M c m i m) (Gj.M c m i i)))) := Kp.new hp1
        have e5 : upd G4 p1 (ptO (low (Gj.M c m i m) (Gj.M c m i i))) p1 = some (ptO (low (Gj.M c m i m) (Gj.M c m i i))) := upd_same
        generalize hG5 : upd G4 p1 (.tup [.int (low (Gj.M c m i m) (Gj.M c m i i)).1, .int (low (Gj.M c m i m) (Gj.M c m i i)).2]) = G5
        rw [show upd G4 p1 (ptO (low (Gj.M c m i m) (Gj.M c m i i))) = G5 from hG5] at k5 e5
        refine ⟨_, rfl, _, rfl, _, _, rfl, rfl, f i, _, _, .int (Gj.M c m i (m + 1)), rfl, rfl, row k5, am1, _, rfl, _, rfl, f i, _, _, .int (Gj.M c m i i), rfl, rfl, row k5, atI_row (by omega), ?_⟩
        refine ⟨_, _, rfl, dp', d9, fun p2 hp2 => ?_⟩
        have k6 : Kp [] G5 (upd G5 p2 (ptO (low (Gj.M c m i (m + 1)) (Gj.M c m i i)))) := Kp.new hp2
        have e6 : upd G5 p2 (ptO (low (Gj.M c m i (m + 1)) (Gj.M c m i i))) p2 = some (ptO (low (Gj.M c m i (m + 1)) (Gj.M c m i i))) := upd_same
        have e5' := k6.same _ _ e5
        refine ⟨by show 2 ≤ sizeLine; decide, fun z hz => ?_⟩
        rw [ed] at *
        have kz : Kp [] G4 (upd (upd G5 p2 (.tup [.int (low (Gj.M c m i (m + 1)) (Gj.d c m)).1, .int (low (Gj.M c m i (m + 1)) (Gj.d c m)).2])) z (.tup [.ref p1, .ref p2])) := (k5.trans k6).new' hz
        have nz : G4 z = none := (k5.trans k6).free hz
        refine fun_grow (Rel := fun G j z => PtR G z (low (Gj.M c m j m) (Gj.d c m)) (low (Gj.M c m j (m + 1)) (Gj.d c m))) hD2 hD4 (by omega) kz k4 (fun G G' j z st _ h => ?_) hg4 ⟨p1, p2, upd_same, ?_, ?_⟩ (ne_of_none hD4 nz).symm
        · obtain ⟨t1, t2, a1, a2, a3⟩ := h
          exact ⟨t1, t2, st _ _ a1 (.inl fun l z => nomatch z), st _ _ a2 (.inl fun l z => nomatch z), st _ _ a3 (.inl fun l z => nomatch z)⟩
        · rw [upd_ne (ne_of_none e5' hz)]
          exact e5'
        · rw [upd_ne (ne_of_none e6 hz)]
          exact e6
      · obtain ⟨g, hD3, k3, hg⟩ := h
        rw [len] at hD3 hg
        refine ⟨D2, _, rfl, hD3, fun p hp => ?_⟩
        exact q _ p g (((k1.trans k2).trans k3).new' hp) upd_same fun k hk => (hg k hk).1.kp (Kp.new hp)
end
end Rd
set_option Elab.async false
set_option linter.all false
set_option maxRecDepth 100000
set_option maxHeartbeats 4000000
/-! At rest. -/
namespace Rd
open PySem PySem.Spec PyProof.Rows L2 Gw
section
variable {P : Program} {w : World} {K : PySem.W.Frag} {mg : Str → Option Value} {base : Heap}
theorem paired_of {α β : Type} {F : α → β → Prop} : ∀ {l : List α} {m : List β}, l.length = m.length → (∀ (j : Nat) (x : α) (y : β), l[j]? = some x → m[j]? = some y → F x y) → Paired F l m
  | [], [], _, _ => .nil
  | x :: l, y :: m, h, f => .cons (f 0 x y rfl rfl) (paired_of (by simpa using h) fun j a b ha hb => f (j + 1) a b ha hb)
  | [], _ :: _, h, _ => by simp at h
  | _ :: _, [], h, _ => by simp at h
/-- entries by places -/
def plE (f : Nat → Addr) (q : Nat) : Key × V := (iK q, .ref (f q))
theorem plE_get {f : Nat → Addr} : ∀ (l : List Nat) (q : Nat), valV (l.map (plE f)) (iK q) = if q ∈ l then some (.ref (f q)) else none
  | [], q => by simp [valV]
  | x :: l, q => by
    rw [List.map_cons]
    by_cases h : x = q
    · subst h
      have e : valV (plE f x :: l.map (plE f)) (iK x) = some (plE f x).2 := valV_pos rfl
      rw [e]
      simp [plE]
    · have e : valV (plE f x :: l.map (plE f)) (iK q) = valV (l.map (plE f)) (iK q) := valV_neg fun e => h (iKey_inj e)
      rw [e, plE_get l q]
      have : ¬ q = x := fun e => h e.symm
      simp [this]
theorem plE_merge {f : Nat → Addr} {l : List Nat} (nd : l.Nodup) : mergeK [] (l.map (plE f)) = l.map (plE f) := by
  refine fold_new _ [] ?_
  rw [List.nil_append, List.map_map]
  exact nodup_map (fun x y e => iKey_inj e) nd
/-- pairs (place, object) in a list -/
theorem zip_pairs {H : Hp} (K : PySem.W.Frag) {l : List Nat} {us ts : List Addr} (nd : l.Nodup) (hl : l.length = us.length) (ht : ts.length = l.length)
    (h : ∀ (j : Nat) (t : Addr), ts[j]? = some t → ∃ x y, (nVs l)[j]? = some x ∧ (us.map V.ref)[j]? = some y ∧ H t = some (.tup [x, y])) :
    Paired (fun p kv => SqT K H p [kV kv.1, kv.2]) ts (l.map (plE fun q => us.getD (l.idxOf q) 0)) := by
  refine paired_of (by rw [List.length_map, ht]) fun j t kv h1 h2 => ?_
  obtain ⟨x, y, hx, hy, e⟩ := h j t h1
  rw [List.getElem?_map] at h2 hx hy
  obtain ⟨q, hq, rfl⟩ := Option.map_eq_some_iff.mp h2
  rw [hq] at hx
  obtain ⟨u, hu, rfl⟩ := Option.map_eq_some_iff.mp hy
  obtain rfl := Option.some.inj hx
  have hj : l.idxOf q = j := by
    have jl := (List.getElem?_eq_some_iff.mp hq).1
    have m := List.mem_of_getElem? hq
    have il := List.idxOf_lt_length_iff.mpr m
    refine (List.getElem?_inj il nd).mp ?_
    rw [hq, List.getElem?_eq_getElem il, List.getElem_idxOf il]
  refine SqT.of ?_
  rw [e]
  have : us.getD (l.idxOf q) 0 = u := by rw [hj, List.getD_eq_getElem?_getD, hu]; rfl
  show _ = some (HO.tup [kV (iK q), V.ref (us.getD (l.idxOf q) 0)])
  rw [this]
  rfl
theorem PtR.put {H : Hp} {t p : Addr} {x y : Int × Int} {ks : List (Key × V)} {v : HO} (h : PtR H t x y) (e : H p = some (.dK ks)) : PtR (upd H p v) t x y := by
  obtain ⟨t1, t2, a, b, c⟩ := h
  have ne : ∀ {b xs}, H b = some (.tup xs) → b ≠ p := fun e' z => by subst z; rw [e] at e'; cases e'
  exact ⟨t1, t2, by rw [upd_ne (ne a)]; exact a, by rw [upd_ne (ne b)]; exact b, by rw [upd_ne (ne c)]; exact c⟩
theorem PtR.st {G G' : Hp} {D : Addr} {z : Addr} {x y : Int × Int} (st : ∀ b o, G b = some o → ((∀ l, o ≠ .lst l) ∨ b ≠ D) → G' b = some o) (h : PtR G z x y) : PtR G' z x y := by
  obtain ⟨t1, t2, a, b, c⟩ := h
  exact ⟨t1, t2, st _ _ a (.inl fun l z => nomatch z), st _ _ b (.inl fun l z => nomatch z), st _ _ c (.inl fun l z => nomatch z)⟩
theorem FrT.st {G G' : Hp} {D : Addr} {z : Addr} {xs : List Int} (st : ∀ b o, G b = some o → ((∀ l, o ≠ .lst l) ∨ b ≠ D) → G' b = some o) (h : FrT G z xs) : FrT G' z xs := by
  obtain ⟨us, a, b⟩ := h
  exact ⟨us, st _ _ a (.inl fun l z => nomatch z), Paired.mapP b fun _ _ e => st _ _ e (.inl fun l z => nomatch z)⟩
theorem map_getD {α : Type} (ps : List Nat) (F : Nat → α) : (List.range ps.length).map (fun j => F (ps.getD j 0)) = ps.map F := by
  apply List.ext_getElem?
  intro i
  rw [List.getElem?_map, List.getElem?_map]
  by_cases h : i < ps.length
  · rw [List.getElem?_range h, List.getElem?_eq_getElem h]
    show some (F (ps.getD i 0)) = some (F ps[i])
    rw [List.getD_eq_getElem?_getD, List.getElem?_eq_getElem h]
    rfl
  · rw [List.getElem?_eq_none (by simpa using h), List.getElem?_eq_none (by omega)]
    rfl
def cor (l : List Nat) (ps : List Pt) (q : Nat) : Pt := ps.getD (l.idxOf q) (0, 0)
theorem low_is (a d : Int) : low a d = lowF a d := rfl
theorem inn_is (n : Nat) (r : List Nat) : inn n r = innr n r := rfl
theorem sc_at_rest : FnScope ["web", "rim", "corners", "weights", "inner", "spots", "place", "rows", "sides", "points"] ["web", "rim", "corners", "weights"] (defScope s_at_rest) := ⟨rfl, rfl, rfl, by decide +kernel, rfl, by decide +kernel, by decide +kernel⟩
def sp_at_rest : Sp := fun vs H Q _ => ∃ (a b cA dA : Addr) (n : Nat) (R : Rows) (c : List S) (l : List Nat) (ts : List Addr) (ps : List Pt) (kvs : List (List Key × V)), vs = [.ref a, .ref b, .ref cA, .ref dA] ∧ WebT H a n R ∧ Good n R ∧ 4 ≤ n ∧ n ≤ 9 ∧ H b = some (tuO l) ∧ Cyc R c ∧ Told R c l ∧ l.Nodup ∧
  H cA = some (.tup (ts.map V.ref)) ∧ Objs H ptO ts ps ∧ l.length = ps.length ∧ (∀ p, p ∈ ps → small p) ∧ Bend ps ∧ H dA = some (.dT kvs) ∧ Wts n R l kvs ∧
  ∀ (H' : Hp) (t : Addr) (f : Nat → Addr) (d : Int) (X Y : Nat → Int), Kp [] H H' → H' t = some (.tup ((List.range n).map fun i => V.ref (f i))) → 0 < d → Rest n R l (wt kvs) d (fun q => (cor l ps q).1) X → Rest n R l (wt kvs) d (fun q => (cor l ps q).2) Y →
    (∀ p, p < n → PtR H' (f p) (lowF (X p) d) (lowF (Y p) d)) → Q (.ref t) H'
theorem ok_at_rest (T : Txt K mg) : Ok P w K mg base 7 "at_rest" ["web", "rim", "corners", "weights"] sp_at_rest := by
  have O_want_rim : Ok P w K mg base 6 "want_rim" ["web", "rim"] sp_want_rim := ok_want_rim T
  have O_want_corners : Ok P w K mg base 6 "want_corners" ["rim", "corners"] sp_want_corners := (ok_want_corners T).mono (by decide)
  have O_want_weights : Ok P w K mg base 6 "want_weights" ["web", "rim", "weights"] sp_want_weights := (ok_want_weights T).mono (by decide)
  have O_inner_places : Ok P w K mg base 6 "inner_places" ["web", "rim"] sp_inner_places := (ok_inner_places T).mono (by decide)
  have O_row_at : Ok P w K mg base 6 "row_at" ["web", "inner", "weights", "place"] sp_row_at := (ok_row_at T).mono (by decide)
  have O_side_at : Ok P w K mg base 6 "side_at" ["web", "spots", "weights", "place"] sp_side_at := (ok_side_at T).mono (by decide)
  have O_solved : Ok P w K mg base 6 "solved" ["rows", "sides"] sp_solved := (ok_solved T).mono (by decide)
  refine def_ok T 31 rfl rfl sc_at_rest (fun _ _ _ _ _ _ us hl => match us, hl with | [_, _, _, _], _ => rfl) (fun vs H Q E h => ?_) (fun cdv A outer s H vs Q E hr h => ?_)
  · obtain ⟨_, _, _, _, _, _, _, _, _, _, _, rfl, _⟩ := h
    rfl
  · obtain ⟨a, b, cA, dA, n, R, c, l, ts, ps, kvs, rfl, hw, G, h4, hn, hb, cy, tl, lnd, hc, oc, lps, sm, bd, hd, wts, q⟩ := h
    have hu : (A.deeper (envOfC "at_rest" (defScope s_at_rest) s.heap.objs.size (He.ga K "at_rest") cdv)).units + 1 < cLine := Nat.lt_of_le_of_lt (Nat.add_le_add_left (by decide) _) (units200 hr)
    refine ⟨_, (pss_cons (ps_expr (pe_f O_want_rim hr (by rfl) (pa_cons (pv 0) (pa_cons (pv 1) pa_nil))))
      (pss_cons (ps_expr (pe_f O_want_corners hr (by rfl) (pa_cons (pv 1) (pa_cons (pv 2) pa_nil))))
      (pss_cons (ps_expr (pe_f O_want_weights hr (by rfl) (pa_cons (pv 0) (pa_cons (pv 1) (pa_cons (pv 3) pa_nil)))))
      (pss_cons (ps_set (i := 4) sc_at_rest.nd rfl (by first | exact .inl rfl | exact .inr rfl) (pe_f O_inner_places hr (by rfl) (pa_cons (pv 0) (pa_cons (pv 1) pa_nil))))
      (pss_cons (ps_set (i := 5) sc_at_rest.nd rfl (by first | exact .inl rfl | exact .inr rfl) (pe_callTy (call_dictP rfl) (by rfl) T.z_dict (by decide +kernel) (pa_cons (pe_listZip rfl (by rfl) T.z_list (by rfl) T.z_zip (pa_cons (pv 1) (pa_cons (pv 2) pa_nil))) pa_nil)))
      (pss_cons (ps_set (i := 7) sc_at_rest.nd rfl (by first | exact .inl rfl | exact .inr rfl) (pe_callTy call_tupH (by rfl) T.z_tuple (by decide +kernel) (pa_cons (pe_lc (own := [("place", 6)]) (g := (gName 6)) rfl sc_at_rest.nd (pi_list (pv 4)) (blkOk_by (own := [("place", 6)]) (N := ["web", "rim", "corners", "weights", "inner", "spots", "place", "rows", "sides", "points"]) (sc := defScope s_at_rest) (by decide +kernel)) (fun _ _ _ _ _ => (pg_name (i := 6) sc_at_rest.nd rfl (by first | exact .inl rfl | exact .inr rfl))) (fun _ _ _ _ _ => pts_nil) (fun _ _ _ _ _ => (pe_f O_row_at hr (by rfl) (pa_cons (pv 0) (pa_cons (pv 4) (pa_cons (pv 3) (pa_cons (pv 6) pa_nil))))))) pa_nil)))
      (pss_cons (ps_set (i := 8) sc_at_rest.nd rfl (by first | exact .inl rfl | exact .inr rfl) (pe_callTy call_tupH (by rfl) T.z_tuple (by decide +kernel) (pa_cons (pe_lc (own := [("place", 6)]) (g := (gName 6)) rfl sc_at_rest.nd (pi_list (pv 4)) (blkOk_by (own := [("place", 6)]) (N := ["web", "rim", "corners", "weights", "inner", "spots", "place", "rows", "sides", "points"]) (sc := defScope s_at_rest) (by decide +kernel)) (fun _ _ _ _ _ => (pg_name (i := 6) sc_at_rest.nd rfl (by first | exact .inl rfl | exact .inr rfl))) (fun _ _ _ _ _ => pts_nil) (fun _ _ _ _ _ => (pe_f O_side_at hr (by rfl) (pa_cons (pv 0) (pa_cons (pv 5) (pa_cons (pv 3) (pa_cons (pv 6) pa_nil))))))) pa_nil)))
      (pss_cons (ps_set (i := 9) sc_at_rest.nd rfl (by first | exact .inl rfl | exact .inr rfl) (pe_callTy (call_dictP rfl) (by rfl) T.z_dict (by decide +kernel) (pa_cons (pe_listZip rfl (by rfl) T.z_list (by rfl) T.z_zip (pa_cons (pv 4) (pa_cons (pe_f O_solved hr (by rfl) (pa_cons (pv 7) (pa_cons (pv 8) pa_nil))) pa_nil))) pa_nil)))
      (pss_cons (ps_for PassesOwn.never rfl (pi_tup (pv 1)) (pg_name (i := 6) sc_at_rest.nd rfl (by first | exact .inl rfl | exact .inr rfl)) (pss_one (ps_dput hu (pv 9) (pv 6) (pe_tup (pa_cons (pe_tup (pa_cons (pe_ix ixH (pe_dget hu (pv 5) (pv 6) (fun _ _ => rfl)) pe_int (fun _ _ => rfl)) (pa_cons pe_int pa_nil))) (pa_cons (pe_tup (pa_cons (pe_ix ixH (pe_dget hu (pv 5) (pv 6) (fun _ _ => rfl)) pe_int (fun _ _ => rfl)) (pa_cons pe_int pa_nil))) pa_nil))) rfl)))
      (pss_one (ps_ret (pe_callTy call_tupH (by rfl) T.z_tuple (by decide +kernel) (pa_cons (pe_lc (own := [("place", 6)]) (g := (gName 6)) rfl sc_at_rest.nd (pi_range1 (by rfl) T.z_range (pa_cons (pe_callB call_lenH (by rfl) T.z_len (by decide +kernel) (pa_cons (pv 0) pa_nil)) pa_nil)) (blkOk_by (own := [("place", 6)]) (N := ["web", "rim", "corners", "weights", "inner", "spots", "place", "rows", "sides", "points"]) (sc := defScope s_at_rest) (by decide +kernel)) (fun _ _ _ _ _ => (pg_name (i := 6) sc_at_rest.nd rfl (by first | exact .inl rfl | exact .inr rfl))) (fun _ _ _ _ _ => pts_nil) (fun _ _ _ _ _ => (pe_dget hu (pv 9) (pv 6) (fun _ _ => rfl)))) pa_nil))))))))))))), ?_⟩
    have W := G.toWeb
    have hnt : G.toWeb = W := rfl
    -- the rim's places
    obtain ⟨s0, t0, cy0, mm0, _, el⟩ := tl.ex
    have ltl : ∀ x, x ∈ l → x < n := fun x hx => by
      rw [el] at hx
      obtain ⟨s', hs', rfl⟩ := List.mem_map.mp hx
      exact W.lt _ _ (cy0.st s' hs')
    have ll9 : l.length ≤ 9 := Nat.le_trans (nd_le lnd ltl) hn
    have tl9 := oc.len
    obtain ⟨xs, ha, lx⟩ := hw.len
    refine ⟨_, rfl, _, rfl, a, b, n, R, c, l, rfl, hw, G, h4, hn, hb, by omega, cy, tl, fun H1 k1 => ?_⟩
    refine ⟨_, rfl, _, rfl, b, cA, nVs l, ts, ps, rfl, k1.same _ _ hb, k1.same _ _ hc, oc.kp k1, by rw [List.length_map, lps], sm, by omega, bd, fun H2 k2 => ?_⟩
    have k12 := k1.trans k2
    refine ⟨_, rfl, _, rfl, _, rfl, a, b, dA, n, R, l, kvs, rfl, hw.kp k12, hn, k12.same _ _ hb, k12.same _ _ hd, wts, fun H3 k3 => ?_⟩
    have k13 := k12.trans k3
    refine ⟨_, rfl, _, rfl, a, b, xs, l, rfl, k13.same _ _ ha, k13.same _ _ hb, by omega, fun iA hiA => ?_⟩
    rw [lx]
    have k14 : Kp [] H (upd H3 iA (.lst (nVs (inn n l)))) := k13.new' hiA
    have hi4 : upd H3 iA (.lst (nVs (inn n l))) iA = some (.lst (nVs (inn n l))) := upd_same
    generalize upd H3 iA (.lst (nVs (inn n l))) = H4 at k14 hi4 ⊢
    have hb4 := k14.same _ _ hb
    have hc4 := k14.same _ _ hc
    refine ⟨_, rfl, _, rfl, b, cA, nVs l, ts.map V.ref, rfl, .inr (.inl hb4), .inr (.inl hc4), by rw [List.length_map, List.length_map]; omega, fun H5 zA zs' k5 nz hz lz zp => ?_⟩
    rw [List.length_map] at lz
    refine ⟨zA, zs', _, rfl, SqL.of hz, zip_pairs (us := ts) _ lnd (by omega) lz (fun j t ht => ?_), fun sA hsA => ?_⟩
    · obtain ⟨_, x, y, h1, h2, h3⟩ := zp j t ht
      exact ⟨x, y, h1, h2, h3⟩
    rw [plE_merge lnd]
    have k16 : Kp [] H (upd H5 sA (.dK (l.map (plE fun q => ts.getD (l.idxOf q) 0)))) := (k14.trans k5).new' hsA
    have k46 : Kp [] H4 (upd H5 sA (.dK (l.map (plE fun q => ts.getD (l.idxOf q) 0)))) := k5.new' hsA
    have sp6 : Spots (upd H5 sA (.dK (l.map (plE fun q => ts.getD (l.idxOf q) 0)))) sA l (cor l ps) := by
      refine ⟨_, _, upd_same, fun q => plE_get l q, fun q hq => ?_⟩
      have il := List.idxOf_lt_length_iff.mpr hq
      have hp : ps[l.idxOf q]? = some (cor l ps q) := by
        unfold cor
        rw [List.getD_eq_getElem?_getD, List.getElem?_eq_getElem (show l.idxOf q < ps.length by omega)]
        rfl
      obtain ⟨t, ht, e⟩ := Paired.at2 oc hp
      have : ts.getD (l.idxOf q) 0 = t := by rw [List.getD_eq_getElem?_getD, ht]; rfl
      rw [this]
      exact ⟨k16.same _ _ e, sm _ (List.mem_of_getElem? hp)⟩
    generalize upd H5 sA (.dK (l.map (plE fun q => ts.getD (l.idxOf q) 0))) = H6 at k16 k46 sp6 ⊢
    have hi6 := k46.same _ _ hi4
    have hd6 := k16.same _ _ hd
    -- the rows and the sides
    obtain ⟨ia, ib, iab, ial, ibl⟩ : ∃ x y, x ≠ y ∧ x ∈ l ∧ y ∈ l := by
      cases t0 with
      | nil =>
        have e := cy0.lk.1
        exact absurd (congrArg Prod.fst e) (W.neq (cy0.st s0 (by simp)))
      | cons s1 t1 =>
        refine ⟨s0.1, s1.1, ?_, by rw [el]; simp, by rw [el]; simp⟩
        rw [el] at lnd
        simp only [List.map_cons, List.nodup_cons, List.mem_cons, not_or] at lnd
        exact lnd.1.1
    have m7 : (inn n l).length ≤ 7 := two_less hn ial ibl (ltl _ ial) (ltl _ ibl) iab
    have ind := inn_nd n l
    have imm : ∀ x, x ∈ inn n l ↔ x < n ∧ x ∉ l := fun x => inn_mem
    let cx : Nat → Int := fun q => (cor l ps q).1
    let cy : Nat → Int := fun q => (cor l ps q).2
    have rowsum : ∀ j, j < (inn n l).length → rowM kvs R ((inn n l).getD j 0) (inn n l) = rowL (inn n l).length (cM (wt kvs) R l cx cy (inn n l)) j := fun j hj => by
      unfold rowL rowM
      rw [← map_getD (inn n l) (rowP kvs (R ((inn n l).getD j 0)) ((inn n l).getD j 0))]
      refine List.map_congr_left fun jj hjj => ?_
      have h := List.mem_range.mp hjj
      show _ = if jj < (inn n l).length then _ else _
      rw [if_pos h]
      rfl
    refine ⟨_, rfl, iA, rfl, ⟨_, SqL.of hi6⟩, fun D hD => ?_⟩
    refine lc_list (K := K) (a := iA) (xs := nVs (inn n l)) (fun i G => ∃ g : Nat → Addr, G D = some (.lst ((List.range i).map fun i => V.ref (g i))) ∧ Kp [] H6 G ∧ ∀ j, j < i → FrT G (g j) (rowM kvs R ((inn n l).getD j 0) (inn n l)) ∧ g j ≠ D)
      ⟨fun _ => 0, upd_same, Kp.new hD, fun j hj => absurd hj (Nat.not_lt_zero _)⟩ (fun i G _ h => ?_) (fun i x G hx h => ?_) (fun H7 h => ?_)
    · obtain ⟨_, _, k, _⟩ := h
      exact SqL.of (k.same _ _ hi6)
    · obtain ⟨g, hD1, k7, hg⟩ := h
      rw [List.getElem?_map] at hx
      obtain ⟨y, hy, rfl⟩ := Option.map_eq_some_iff.mp hx
      have yi := List.mem_of_getElem? hy
      have ey : (inn n l).getD i 0 = y := by rw [List.getD_eq_getElem?_getD, hy]; rfl
      have il := (List.getElem?_eq_some_iff.mp hy).1
      refine ⟨rfl, _, rfl, _, rfl, _, rfl, _, rfl, a, iA, dA, n, R, l, inn n l, kvs, y, rfl, hw.kp (k16.trans k7), W, hn, k7.same _ _ hi6, ind, fun x hx => ((imm x).mp hx).1, k7.same _ _ hd6, wts, yi, fun G3 z us kz hz ob => ?_⟩
      refine fun_grow (Rel := fun G j z => FrT G z (rowM kvs R ((inn n l).getD j 0) (inn n l))) hD hD1 (by omega) kz k7 (fun G G' j z st _ h => h.st st) hg ⟨us, hz, by rw [ey]; exact ob⟩ ?_
      intro e
      subst e
      rw [kz.same _ _ hD1] at hz
      cases hz
    obtain ⟨g7, hD7, k7, hg7⟩ := h
    rw [List.length_map] at hD7 hg7
    refine ⟨D, _, rfl, hD7, fun rA hrA => ?_⟩
    have k67 : Kp [] H6 (upd H7 rA (.tup ((List.range (inn n l).length).map fun i => V.ref (g7 i)))) := k7.new' hrA
    have rows8 : RowsT (upd H7 rA (.tup ((List.range (inn n l).length).map fun i => V.ref (g7 i)))) rA (inn n l).length (rowL (inn n l).length (cM (wt kvs) R l cx cy (inn n l))) := ⟨g7, upd_same, fun i hi => by rw [← rowsum i hi]; exact (hg7 i hi).1.kp (Kp.new hrA)⟩
    generalize upd H7 rA (.tup ((List.range (inn n l).length).map fun i => V.ref (g7 i))) = H8 at k67 rows8 ⊢
    have hi8 := k67.same _ _ hi6
    have hd8 := k67.same _ _ hd6
    have sp8 := sp6.kp k67
    have k18 := k16.trans k67
    refine ⟨_, rfl, iA, rfl, ⟨_, SqL.of hi8⟩, fun D2 hD2 => ?_⟩
    refine lc_list (K := K) (a := iA) (xs := nVs (inn n l)) (fun i G => ∃ g : Nat → Addr, G D2 = some (.lst ((List.range i).map fun i => V.ref (g i))) ∧ Kp [] H8 G ∧ ∀ j, j < i → FrT G (g j) [cM (wt kvs) R l cx cy (inn n l) (inn n l).length j, cM (wt kvs) R l cx cy (inn n l) ((inn n l).length + 1) j] ∧ g j ≠ D2)
      ⟨fun _ => 0, upd_same, Kp.new hD2, fun j hj => absurd hj (Nat.not_lt_zero _)⟩ (fun i G _ h => ?_) (fun i x G hx h => ?_) (fun H9 h => ?_)
    · obtain ⟨_, _, k, _⟩ := h
      exact SqL.of (k.same _ _ hi8)
    · obtain ⟨g, hD1, k9, hg⟩ := h
      rw [List.getElem?_map] at hx
      obtain ⟨y, hy, rfl⟩ := Option.map_eq_some_iff.mp hx
      have yi := List.mem_of_getElem? hy
      have ey : (inn n l).getD i 0 = y := by rw [List.getD_eq_getElem?_getD, hy]; rfl
      have il := (List.getElem?_eq_some_iff.mp hy).1
      refine ⟨rfl, _, rfl, _, rfl, _, rfl, _, rfl, a, sA, dA, n, R, l, kvs, y, cor l ps, rfl, hw.kp (k18.trans k9), W, hn, sp8.kp k9, k9.same _ _ hd8, wts, ((imm y).mp yi).1, fun G3 z t1 t2 kz hz e1 e2 => ?_⟩
      refine fun_grow (Rel := fun G j z => FrT G z [cM (wt kvs) R l cx cy (inn n l) (inn n l).length j, cM (wt kvs) R l cx cy (inn n l) ((inn n l).length + 1) j]) hD2 hD1 (by omega) kz k9 (fun G G' j z st _ h => h.st st) hg ⟨[t1, t2], hz, .cons ?_ (.cons ?_ .nil)⟩ ?_
      · rw [e1]
        show some (oneO _) = some (oneO (if (inn n l).length < (inn n l).length then _ else if (inn n l).length = (inn n l).length then _ else _))
        rw [if_neg (Nat.lt_irrefl _), if_pos rfl, ey]
        rfl
      · rw [e2]
        show some (oneO _) = some (oneO (if (inn n l).length + 1 < (inn n l).length then _ else if (inn n l).length + 1 = (inn n l).length then _ else _))
        rw [if_neg (by omega), if_neg (by omega), ey]
        rfl
      · intro e
        subst e
        rw [kz.same _ _ hD1] at hz
        cases hz
    obtain ⟨g9, hD9, k9, hg9⟩ := h
    rw [List.length_map] at hD9 hg9
    refine ⟨D2, _, rfl, hD9, fun sdA hsdA => ?_⟩
    have k810 : Kp [] H8 (upd H9 sdA (.tup ((List.range (inn n l).length).map fun i => V.ref (g9 i)))) := k9.new' hsdA
    have sides10 : RowsT (upd H9 sdA (.tup ((List.range (inn n l).length).map fun i => V.ref (g9 i)))) sdA (inn n l).length (fun i => [cM (wt kvs) R l cx cy (inn n l) (inn n l).length i, cM (wt kvs) R l cx cy (inn n l) ((inn n l).length + 1) i]) := ⟨g9, upd_same, fun i hi => (hg9 i hi).1.kp (Kp.new hsdA)⟩
    generalize upd H9 sdA (.tup ((List.range (inn n l).length).map fun i => V.ref (g9 i))) = H10 at k810 sides10 ⊢
    have rows10 := rows8.kp k810
    have hi10 := k810.same _ _ hi8
    have sp10 := sp8.kp k810
    have k110 := k18.trans k810
    -- the elimination
    obtain ⟨z, hz0, pos⟩ := rest_pos (cx := cx) (cy := cy) (w := wt kvs) (l := l) W G.tied (by omega) ial (ltl _ ial) (fun p q _ => (wts.get p q).2.1) (B := 100000000) (by decide) (fun p hp => by
      have := ls_abs (l := R p) (f := wt kvs p) (b := 10000000) fun q _ => by have := (wts.get p q).2; omega
      have l9 := Nat.mul_le_mul_right 10000000 (row_le W hn p hp)
      omega)
    have corb : ∀ q, q ∈ l → (cx q).natAbs < 2 ^ 36 ∧ (cy q).natAbs < 2 ^ 36 := fun q hq => by
      have il := List.idxOf_lt_length_iff.mpr hq
      have hp : ps[l.idxOf q]? = some (cor l ps q) := by
        unfold cor
        rw [List.getD_eq_getElem?_getD, List.getElem?_eq_getElem (show l.idxOf q < ps.length by omega)]
        rfl
      obtain ⟨⟨a1, a2⟩, a3, a4⟩ := sm _ (List.mem_of_getElem? hp)
      show (cor l ps q).1.natAbs < 2 ^ 36 ∧ (cor l ps q).2.natAbs < 2 ^ 36
      constructor <;> omega
    have bigE : ∀ i j, (cM (wt kvs) R l cx cy (inn n l) j i).natAbs ≤ 2 ^ 63 := cM_big W hn (fun p q _ => (wts.get p q).2) (fun q hq => (corb q hq).1) (fun q hq => (corb q hq).2)
    have hz := pos
    let c0 := cM (wt kvs) R l cx cy (inn n l)
    let m0 := (inn n l).length
    have posM : Gj.Pos c0 m0 z m0 := pos m0 (Nat.le_refl _)
    refine ⟨_, rfl, _, rfl, _, rfl, rA, sdA, m0, c0, rfl, rows10, sides10, by omega, fun i j _ _ => Nat.lt_of_le_of_lt (bigE i j) (by decide), fun k hk => (pos k (Nat.le_of_lt hk)).pivot _ _ _ hk hz0, fun k hk => ⟨(pos k hk).cram, (pos k hk).dpos⟩, fun k hk i j hi hj => Nat.lt_of_le_of_lt (Gj.M_big c0 m0 z (w := m0 + 2) (fun i j _ _ => bigE i j) (by omega) pos k hk i j hi hj) (big_lt k (by omega)), fun H11 pA0 f k11 hp pts => ?_⟩
    let d := Gj.d c0 m0
    have dpos : 0 < d := posM.dpos
    have rX : Rest n R l (wt kvs) d cx fun q => if q ∈ l then d * cx q else Gj.M c0 m0 ((innr n l).idxOf q) m0 := rest_of W (fun i => by
      show (if (innr n l).length < (innr n l).length then _ else if (innr n l).length = (innr n l).length then _ else _) = _
      rw [if_neg (Nat.lt_irrefl _), if_pos rfl]) posM.cram
    have rY : Rest n R l (wt kvs) d cy fun q => if q ∈ l then d * cy q else Gj.M c0 m0 ((innr n l).idxOf q) (m0 + 1) := rest_of W (fun i => by
      show (if (innr n l).length + 1 < (innr n l).length then _ else if (innr n l).length + 1 = (innr n l).length then _ else _) = _
      rw [if_neg (by omega), if_neg (by omega)]) posM.cram
    generalize hX : (fun q => if q ∈ l then d * cx q else Gj.M c0 m0 ((innr n l).idxOf q) m0) = X at rX
    generalize hY : (fun q => if q ∈ l then d * cy q else Gj.M c0 m0 ((innr n l).idxOf q) (m0 + 1)) = Y at rY
    have k111 := k110.trans k11
    have hi11 := k11.same _ _ hi10
    have sp11 := sp10.kp k11
    refine ⟨iA, pA0, nVs (inn n l), _, rfl, .inl hi11, .inr (.inl hp), by simp [m0], fun H12 zA2 ts2 k12' nz2 hz2 lz2 zp2 => ?_⟩
    rw [List.length_map] at lz2
    refine ⟨zA2, ts2, _, rfl, SqL.of hz2, zip_pairs (us := (List.range m0).map f) _ ind (by simp [m0]) lz2 (fun j t ht => ?_), fun pA hpA => ?_⟩
    · obtain ⟨_, x, y, h1, h2, h3⟩ := zp2 j t ht
      exact ⟨x, y, h1, by rw [List.map_map]; exact h2, h3⟩
    rw [plE_merge ind]
    have k113 : Kp [] H (upd H12 pA (.dK ((inn n l).map (plE fun q => ((List.range m0).map f).getD ((inn n l).idxOf q) 0)))) := (k111.trans k12').new' hpA
    have k1113 : Kp [] H11 (upd H12 pA (.dK ((inn n l).map (plE fun q => ((List.range m0).map f).getD ((inn n l).idxOf q) 0)))) := k12'.new' hpA
    have nsp : sA ≠ pA := by
      obtain ⟨kS, cS, s1, _⟩ := (sp11.kp k12').ex
      exact ne_of_none s1 hpA
    have pHn : H pA = none := (k111.trans k12').free hpA
    have hp13 : upd H12 pA (.dK ((inn n l).map (plE fun q => ((List.range m0).map f).getD ((inn n l).idxOf q) 0))) pA = some (.dK ((inn n l).map (plE fun q => ((List.range m0).map f).getD ((inn n l).idxOf q) 0))) := upd_same
    generalize upd H12 pA (.dK ((inn n l).map (plE fun q => ((List.range m0).map f).getD ((inn n l).idxOf q) 0))) = H13 at k113 k1113 hp13 ⊢
    have hb13 := k113.same _ _ hb
    have sp13 := sp11.kp k1113
    have ha13 := k113.same _ _ ha
    refine ⟨_, rfl, b, rfl, ⟨_, SqT.of hb13⟩, ?_⟩
    refine for_tup (K := K) (xs := nVs l) (fun i σ G => ∃ ks v6, σ = [some (.ref a), some (.ref b), some (.ref cA), some (.ref dA), some (.ref iA), some (.ref sA), v6, some (.ref rA), some (.ref sdA), some (.ref pA)] ∧ Kp [] H G ∧ Spots G sA l (cor l ps) ∧ G pA = some (.dK ks) ∧ ks.length ≤ 9 + i ∧
      ∀ q, q < n → (q ∉ l ∨ q ∈ l.take i) → ∃ t, valV ks (iK q) = some (.ref t) ∧ PtR G t (lowF (X q) d) (lowF (Y q) d)) ⟨_, _, rfl, k113, sp13, hp13, by rw [List.length_map]; omega, fun q hq hor => ?_⟩ (fun i σ G _ h => ?_) (fun i x σ G hx h => ?_) (fun σ G h => ?_)
    · have ql : q ∉ l := by
        rcases hor with h | h
        · exact h
        · simp at h
      have qi : q ∈ inn n l := (imm q).mpr ⟨hq, ql⟩
      have il := List.idxOf_lt_length_iff.mpr qi
      refine ⟨_, by rw [plE_get, if_pos qi], ?_⟩
      have e1 : ((List.range m0).map f).getD ((inn n l).idxOf q) 0 = f ((inn n l).idxOf q) := by
        rw [List.getD_eq_getElem?_getD, List.getElem?_map, List.getElem?_range il]
        rfl
      rw [e1]
      have := (pts _ il).kp k1113
      rw [← hX, ← hY]
      simp only [ql, if_false]
      exact this
    · obtain ⟨_, _, _, k, _⟩ := h
      exact SqT.of (k.same _ _ hb)
    · obtain ⟨ks, v6, rfl, kG, spG, hpG, lks, all⟩ := h
      rw [List.getElem?_map] at hx
      obtain ⟨y, hy, rfl⟩ := Option.map_eq_some_iff.mp hx
      have yl := List.mem_of_getElem? hy
      obtain ⟨kS, cS, s1, s2, s3⟩ := spG.ex
      have s2y := s2 y
      rw [if_pos yl] at s2y
      obtain ⟨c1, _⟩ := s3 y yl
      have il := (List.getElem?_eq_some_iff.mp hy).1
      refine ⟨_, rfl, _, rfl, sA, _, rfl, s2y ▸ DGet.k (k := iK y) s1, cS y, _, 0, _, rfl, rfl, .inr (.inl c1), rfl, by show 2 ≤ sizeLine; decide, fun t1 ht1 => ?_⟩
      have kA : Kp [] G (upd G t1 (.tup [.int (cor l ps y).1, .int 1])) := Kp.new ht1
      refine ⟨_, rfl, _, rfl, sA, _, rfl, s2y ▸ DGet.k (k := iK y) (kA.same _ _ s1), cS y, _, 1, _, rfl, rfl, .inr (.inl (kA.same _ _ c1)), rfl, by show 2 ≤ sizeLine; decide, fun t2 ht2 => ?_⟩
      have t12 : t1 ≠ t2 := ne_of_none upd_same ht2
      have kB := kA.new' (o := .tup [.int (cor l ps y).2, .int 1]) ht2
      refine ⟨by show 2 ≤ sizeLine; decide, fun t3 ht3 => ?_⟩
      have kC := kB.new' (o := .tup [.ref t1, .ref t2]) ht3
      have q1 : upd (upd (upd G t1 (.tup [.int (cor l ps y).1, .int 1])) t2 (.tup [.int (cor l ps y).2, .int 1])) t3 (.tup [.ref t1, .ref t2]) t1 = some (ptO ((cor l ps y).1, 1)) := by
        have e : upd (upd G t1 (.tup [.int (cor l ps y).1, .int 1])) t2 (.tup [.int (cor l ps y).2, .int 1]) t1 = some (.tup [.int (cor l ps y).1, .int 1]) := by rw [upd_ne t12, upd_same]
        rw [upd_ne (ne_of_none e ht3)]
        exact e
      have q2 : upd (upd (upd G t1 (.tup [.int (cor l ps y).1, .int 1])) t2 (.tup [.int (cor l ps y).2, .int 1])) t3 (.tup [.ref t1, .ref t2]) t2 = some (ptO ((cor l ps y).2, 1)) := by
        rw [upd_ne (ne_of_none upd_same ht3), upd_same]
      have q3 : upd (upd (upd G t1 (.tup [.int (cor l ps y).1, .int 1])) t2 (.tup [.int (cor l ps y).2, .int 1])) t3 (.tup [.ref t1, .ref t2]) t3 = some (.tup [.ref t1, .ref t2]) := upd_same
      generalize upd (upd (upd G t1 (.tup [.int (cor l ps y).1, .int 1])) t2 (.tup [.int (cor l ps y).2, .int 1])) t3 (.tup [.ref t1, .ref t2]) = G2 at kC q1 q2 q3 ⊢
      have hp2 := kC.same _ _ hpG
      have ptY : PtR G2 t3 (lowF (X y) d) (lowF (Y y) d) := by
        rw [← hX, ← hY]
        simp only [yl, if_true]
        rw [low_one _ dpos, low_one _ dpos]
        exact ⟨t1, t2, q3, q1, q2⟩
      refine ⟨_, rfl, _, rfl, pA, _, rfl, DPut.k (k := iK y) hp2 (by rw [sizeLine_eq]; omega), ?_⟩
      refine ⟨_, _, rfl, (kG.trans kC).own pHn, ?_, upd_same, Nat.le_trans (putK_len _ _ _) (by omega), fun q hq hor => ?_⟩
      · have sp2 := spG.kp kC
        obtain ⟨kS, cS, s1, s2, s3⟩ := sp2.ex
        refine ⟨kS, cS, ?_, s2, fun q hq => ⟨?_, (s3 q hq).2⟩⟩
        · rw [upd_ne]
          · exact s1
          · exact nsp
        · rw [upd_ne]
          · exact (s3 q hq).1
          · intro e
            have := (s3 q hq).1
            rw [e, hp2] at this
            cases this
      · rw [valV_put]
        by_cases e : q = y
        · subst e
          exact ⟨t3, by rw [if_pos rfl], ptY.put hp2⟩
        · have ne : ¬ iK q = iK y := fun z => e (iKey_inj z)
          rw [if_neg ne]
          have hor2 : q ∉ l ∨ q ∈ l.take i := by
            rcases hor with h | h
            · exact .inl h
            · rw [take_snoc hy, List.mem_append, List.mem_singleton] at h
              exact .inr (h.resolve_right e)
          obtain ⟨t, e1, e2⟩ := all q hq hor2
          exact ⟨t, e1, (e2.kp kC).put hp2⟩
    · obtain ⟨ks, v6, rfl, kG, spG, hpG, lks, all⟩ := h
      rw [List.length_map, List.take_length] at all
      refine ⟨_, rfl, a, _, rfl, .inr (.inl (kG.same _ _ ha)), _, rfl, by omega, by omega, fun D3 hD3 => ?_⟩
      rw [show ((xs.length : Nat) : Int).toNat = n by omega]
      refine lc_range (lo := 0) (fun i F => ∃ g : Nat → Addr, F D3 = some (.lst ((List.range i).map fun i => V.ref (g i))) ∧ Kp [] G F ∧ ∀ j, j < i → PtR F (g j) (lowF (X j) d) (lowF (Y j) d) ∧ g j ≠ D3) ⟨fun _ => 0, upd_same, Kp.new hD3, fun j hj => absurd hj (Nat.not_lt_zero _)⟩ (fun i F hi h => ?_) (fun F h => ?_)
      · obtain ⟨g, hD4, kF, hg⟩ := h
        rw [show (0 : Int) + (i : Int) = (i : Int) by omega]
        obtain ⟨t, e1, e2⟩ := all i hi (by by_cases h : i ∈ l <;> simp [h])
        refine ⟨rfl, _, rfl, _, rfl, pA, _, rfl, e1 ▸ DGet.k (k := iK i) (kF.same _ _ hpG), ?_⟩
        refine fun_grow (Rel := fun F j z => PtR F z (lowF (X j) d) (lowF (Y j) d)) hD3 hD4 (by omega) Kp.refl kF (fun _ _ _ _ st _ h => h.st st) hg (e2.kp kF) ?_
        intro e
        obtain ⟨t1, t2, e3, _⟩ := e2
        subst e
        rw [hD3] at e3
        cases e3
      · obtain ⟨g, hD4, kF, hg⟩ := h
        refine ⟨D3, _, rfl, hD4, fun t ht => ?_⟩
        exact q _ t g d X Y ((kG.trans kF).new' ht) upd_same dpos rX rY fun p hp => (hg p hp).1.kp (Kp.new ht)
end
end Rd
set_option Elab.async false
set_option linter.all false
set_option maxRecDepth 100000
set_option maxHeartbeats 4000000
/-! The law's own small defs: pots, digits, rows that change. -/
namespace Rd
open PySem PySem.Spec PyProof.Rows L2 Gw
section
variable {P : Program} {w : World} {K : PySem.W.Frag} {mg : Str → Option Value} {base : Heap}
/-- a pot: two whole numbers, the second not too great -/
def PotL (H : Hp) (a : Addr) : Prop := ∃ x y : Int, H a = some (.lst [.int x, .int y]) ∧ 0 ≤ y ∧ y < 2 ^ 62
theorem PotL.kp {H H' : Hp} {a : Addr} {L : List Addr} (h : PotL H a) (k : Kp L H H') (n : a ∉ L) : PotL H' a := let ⟨x, y, e, b⟩ := h; ⟨x, y, k a _ e n, b⟩
theorem sc_l_pot : FnScope ["_law_script", "_law_k", "_law_cell"] ["_law_script", "_law_k"] (defScope s_l_pot) := ⟨rfl, rfl, rfl, by decide +kernel, rfl, by decide +kernel, by decide +kernel⟩
def sp_pot (K : PySem.W.Frag) : Sp := fun vs H Q _ => ∃ (a : Addr) (ns : List Int) (k : Nat), vs = [.ref a, nV k] ∧ SqL K H a (ns.map V.int) ∧ ns.length ≤ 1000 ∧ k < 100 ∧ ∀ H' p, Kp [] H H' → H p = none → PotL H' p → Q (.ref p) H'
theorem sqL_new {K : PySem.W.Frag} {H : Hp} {a p : Addr} {xs : List V} {o : HO} (h : SqL K H a xs) (e : H p = none) : SqL K (upd H p o) a xs := by
  rcases h with (h | ⟨u, h⟩) | h
  · exact .inl (.inl (by rw [upd_ne (ne_of_none h e)]; exact h))
  · exact .inl (.inr ⟨u, by rw [upd_ne (ne_of_none h e)]; exact h⟩)
  · exact .inr h
theorem ok_pot (T : Txt K mg) : Ok P w K mg base 1 "_law_pot" ["_law_script", "_law_k"] (sp_pot K) := by
  refine def_ok T 32 rfl rfl sc_l_pot (fun _ _ _ _ _ _ us hl => match us, hl with | [_, _], _ => rfl) (fun vs H Q E h => ?_) (fun cdv A outer s H vs Q E hr h => ?_)
  · obtain ⟨_, _, _, rfl, _⟩ := h
    rfl
  · obtain ⟨a, ns, k, rfl, ha, l1000, k100, q⟩ := h
    refine ⟨_, (pss_cons (ps_set (i := 2) sc_l_pot.nd rfl (by first | exact .inl rfl | exact .inr rfl) (pe_ix ixH (pe_op op_cat (pe_slice sl_list (pv 0) (po_some (pv 1)) (po_some (pe_op op_add (pv 1) pe_int))) (pe_lst (pa_cons pe_int pa_nil))) pe_int (fun _ _ => rfl)))
      (pss_one (ps_ret (pe_lst (pa_cons (pe_callB (call_max2 rfl) (by rfl) T.z_max (by decide +kernel) (pa_cons pe_int (pa_cons (pe_op op_sub (pv 2) (pe_op op_pow pe_int pe_int)) pa_nil))) (pa_cons (pe_op op_add (pe_op op_modN (pe_op op_add (pe_op op_add (pe_callB call_abs (by rfl) T.z_abs (by decide +kernel) (pa_cons (pv 2) pa_nil)) (pe_op op_mul pe_int (pv 1))) pe_int) pe_int) pe_int) pa_nil)))))), ?_⟩
    refine ⟨_, rfl, _, rfl, _, rfl, _, rfl, _, _, rfl, rfl, _, rfl, a, _, rfl, ha, fun p1 hp1 => ?_⟩
    refine ⟨by show 1 ≤ sizeLine; decide, fun p2 hp2 => ?_⟩
    have h12 : p1 ≠ p2 := ne_of_none upd_same hp2
    have lc := cutV_length (ns.map V.int) (some (k : Int)) (some ((k : Int) + 1))
    rw [List.length_map] at lc
    refine ⟨p1, p2, _, _, rfl, rfl, by rw [upd_ne h12, upd_same], upd_same, by rw [sizeLine_eq, List.length_singleton]; omega, fun p3 hp3 => ?_⟩
    have k3 : Kp [] H _ := ((Kp.new (o := .lst (cutV (ns.map V.int) (some (k : Int)) (some ((k : Int) + 1)))) hp1).new' (o := .lst [.int 0]) hp2).new' (o := .lst (cutV (ns.map V.int) (some (k : Int)) (some ((k : Int) + 1)) ++ [.int 0])) hp3
    obtain ⟨c, hc⟩ : ∃ c : Int, (cutV (ns.map V.int) (some (k : Int)) (some ((k : Int) + 1)) ++ [V.int 0])[0]? = some (.int c) := by
      unfold cutV
      rw [← List.map_drop, ← List.map_take]
      generalize List.take _ (List.drop _ ns) = ms
      cases ms with
      | nil => exact ⟨0, rfl⟩
      | cons x ms => exact ⟨x, rfl⟩
    refine ⟨p3, _, _, .int c, rfl, rfl, .inl upd_same, atI_nat (j := 0) hc, ?_⟩
    generalize upd (upd (upd H p1 (.lst (cutV (ns.map V.int) (some (k : Int)) (some ((k : Int) + 1))))) p2 (.lst [.int 0])) p3 (.lst (cutV (ns.map V.int) (some (k : Int)) (some ((k : Int) + 1)) ++ [.int 0])) = H3 at k3 ⊢
    refine ⟨_, rfl, _, _, rfl, rfl, ⟨by decide, by decide, by decide⟩, _, _, rfl, rfl, _, _, rfl, ?_⟩
    refine ⟨_, rfl, _, rfl, _, rfl, _, _, rfl, rfl, .inl ⟨by decide, by decide⟩, _, _, rfl, rfl, _, _, rfl, rfl, _, _, rfl, rfl, (by show (2147483629 : Int) ≠ 0; decide), _, _, rfl, rfl, ?_⟩
    refine ⟨by show 2 ≤ sizeLine; decide, fun p hp => ?_⟩
    refine q _ p (k3.new' hp) (k3.free hp) ⟨_, _, upd_same, ?_⟩
    rw [Int.fmod_eq_emod_of_nonneg _ (by decide)]
    have := Int.emod_nonneg ((if c < 0 then -c else c) + 7919 * (k : Int) + 3) (show (2147483629 : Int) ≠ 0 by decide)
    have := Int.emod_lt_of_pos ((if c < 0 then -c else c) + 7919 * (k : Int) + 3) (show (0 : Int) < 2147483629 by decide)
    constructor <;> omega
theorem sc_l_digit : FnScope ["_law_pot_here", "_law_many", "_law_digit_here"] ["_law_pot_here", "_law_many"] (defScope s_l_digit) := ⟨rfl, rfl, rfl, by decide +kernel, rfl, by decide +kernel, by decide +kernel⟩
def sp_digit : Sp := fun vs H Q _ => ∃ (a : Addr) (m : Int), vs = [.ref a, .int m] ∧ PotL H a ∧ 0 < m ∧ m < 2 ^ 29 ∧ ∀ H' (v : Nat), Kp [a] H H' → PotL H' a → (v : Int) < m → Q (nV v) H'
theorem ok_digit (T : Txt K mg) : Ok P w K mg base 1 "_law_digit" ["_law_pot_here", "_law_many"] sp_digit := by
  refine def_ok T 33 rfl rfl sc_l_digit (fun _ _ _ _ _ _ us hl => match us, hl with | [_, _], _ => rfl) (fun vs H Q E h => ?_) (fun cdv A outer s H vs Q E hr h => ?_)
  · obtain ⟨_, _, rfl, _⟩ := h
    rfl
  · obtain ⟨a, m, rfl, ⟨x, y, ha, y0, y62⟩, m0, m29, q⟩ := h
    refine ⟨_, (pss_cons (ps_if (pt_cmpR op_gt (pe_ix ixH (pv 0) pe_int (fun _ _ => rfl)) pe_int (nomark _)) (pss_cons (ps_asg (pe_callB call_divmodW (by rfl) T.z_divmod (by decide +kernel) (pa_cons (pe_ix ixH (pv 0) pe_int (fun _ _ => rfl)) (pa_cons (pv 1) pa_nil))) (pg_tup (by rfl) (pgs_cons (pg_sub (pv 0) pe_int set_list) (pgs_cons (pg_name (i := 2) sc_l_digit.nd rfl (by first | exact .inl rfl | exact .inr rfl)) pgs_nil))))
      (pss_one (ps_ret (pv 2)))) pss_nil)
      (pss_cons (ps_asg (pe_op op_modN (pe_op op_add (pe_op op_mul (pe_ix ixH (pv 0) pe_int (fun _ _ => rfl)) pe_int) pe_int) pe_int) (pg_sub (pv 0) pe_int set_list))
      (pss_one (ps_ret (pe_op op_modN (pe_op op_fdivN (pe_op op_modN (pe_op op_mul (pe_ix ixH (pv 0) pe_int (fun _ _ => rfl)) (pe_ix ixH (pv 0) pe_int (fun _ _ => rfl))) pe_int) pe_int) (pv 1)))))), ?_⟩
    have nat : ∀ i : Int, 0 ≤ i → V.int i = nV i.toNat := fun i hi => by
      show V.int i = V.int ((i.toNat : Nat) : Int)
      rw [Int.toNat_of_nonneg hi]
    refine ⟨_, rfl, a, _, 0, _, rfl, rfl, .inl ha, rfl, _, _, rfl, rfl, _, rfl, ?_⟩
    by_cases hx : (0 : Int) < x
    · rw [decide_eq_true hx]
      refine iteT ?_
      refine ⟨_, rfl, a, _, 0, _, rfl, rfl, .inl ha, rfl, _, rfl, _, _, rfl, ⟨m0, PyProof.noPylong_small (by omega)⟩, fun t ht => ?_⟩
      have ha2 : upd H t (.tup [.int (x / m), .int (x % m)]) a = some (.lst [.int x, .int y]) := by rw [upd_ne (ne_of_none ha ht)]; exact ha
      refine ⟨t, _, rfl, SqT.of upd_same, rfl, _, _, rfl, _, rfl, a, _, 0, 0, rfl, rfl, ha2, rfl, _, _, rfl, rfl, _, rfl, ?_⟩
      have h1 := Int.emod_nonneg x (show m ≠ 0 by omega)
      have h2 := Int.emod_lt_of_pos x m0
      rw [nat _ h1]
      refine q _ _ ?_ ⟨x / m, y, upd_same, y0, y62⟩ (by omega)
      exact (Kp.new ht).trans (Kp.put (by simp))
    · rw [decide_eq_false hx]
      refine iteF ?_
      refine ⟨_, rfl, a, _, 1, _, rfl, rfl, .inl ha, rfl, _, _, rfl, rfl, .inl ⟨by omega, by omega⟩, _, _, rfl, rfl, _, _, rfl, rfl, (by show (2147483647 : Int) ≠ 0; decide), ?_⟩
      have g1 := Int.emod_nonneg (y * 48271 + 39373) (show (2147483647 : Int) ≠ 0 by decide)
      have g2 := Int.emod_lt_of_pos (y * 48271 + 39373) (show (0 : Int) < 2147483647 by decide)
      have ge : (y * 48271 + 39373).fmod 2147483647 = (y * 48271 + 39373) % 2147483647 := Int.fmod_eq_emod_of_nonneg _ (by decide)
      generalize hz : (y * 48271 + 39373).fmod 2147483647 = z at ge
      refine ⟨_, rfl, a, _, 1, 1, rfl, rfl, ha, rfl, ?_⟩
      rw [show (fun i j : Int => V.int (i.fmod j)) ((fun i j : Int => i + j) ((fun i j : Int => i * j) y 48271) 39373) 2147483647 = V.int z from congrArg V.int hz]
      have k1 : Kp [a] H (upd H a (.lst ([V.int x, V.int y].set 1 (.int z)))) := Kp.put (by simp)
      have ha1 : upd H a (.lst ([V.int x, V.int y].set 1 (.int z))) a = some (.lst [.int x, .int z]) := upd_same
      refine ⟨_, rfl, a, _, 1, _, rfl, rfl, .inl ha1, rfl, _, rfl, a, _, 1, _, rfl, rfl, .inl ha1, rfl, _, _, rfl, rfl, .inl ⟨by omega, by omega⟩, _, _, rfl, rfl, (by show (2147483629 : Int) ≠ 0; decide), _, _, rfl, rfl, ⟨by decide, by decide⟩, _, rfl, _, _, rfl, rfl, by omega, ?_⟩
      have f1 : ∀ i : Int, i.fmod m = i % m := fun i => Int.fmod_eq_emod_of_nonneg _ (by omega)
      show Q (.int (Int.fmod _ m)) _
      rw [f1]
      have h1 := Int.emod_nonneg (((z * z).fmod 2147483629).fdiv 3) (show m ≠ 0 by omega)
      have h2 := Int.emod_lt_of_pos (((z * z).fmod 2147483629).fdiv 3) m0
      rw [nat _ h1]
      exact q _ _ k1 ⟨x, z, upd_same, by omega, by omega⟩ (by omega)
end
end Rd
set_option Elab.async false
set_option linter.all false
set_option maxRecDepth 100000
set_option maxHeartbeats 4000000
/-! Rows that change. -/
namespace Rd
open PySem PySem.Spec PyProof.Rows L2 Gw
section
variable {P : Program} {w : World} {K : PySem.W.Frag} {mg : Str → Option Value} {base : Heap}
/-- rows: a list of lists of places, each its own object -/
structure RowsF (H : Hp) (a : Addr) (n : Nat) (R : Rows) (f : Nat → Addr) : Prop where
  top : H a = some (.lst ((List.range n).map fun p => V.ref (f p)))
  row : ∀ p, p < n → H (f p) = some (.lst (nVs (R p)))
  off : ∀ p, p < n → f p ≠ a
  inj : ∀ p q, p < n → q < n → f p = f q → p = q
def own (a : Addr) (n : Nat) (f : Nat → Addr) : List Addr := a :: (List.range n).map f
theorem own_top {a : Addr} {n : Nat} {f : Nat → Addr} : a ∈ own a n f := List.mem_cons_self ..
theorem own_row {a : Addr} {n : Nat} {f : Nat → Addr} {p : Nat} (h : p < n) : f p ∈ own a n f := List.mem_cons_of_mem _ (List.mem_map.mpr ⟨p, List.mem_range.mpr h, rfl⟩)
theorem own_cases {a b : Addr} {n : Nat} {f : Nat → Addr} (h : b ∈ own a n f) : b = a ∨ ∃ p, p < n ∧ b = f p := by
  rcases List.mem_cons.mp h with e | e
  · exact .inl e
  · obtain ⟨p, hp, e⟩ := List.mem_map.mp e
    exact .inr ⟨p, List.mem_range.mp hp, e.symm⟩
section
variable {H H' : Hp} {a : Addr} {n : Nat} {R : Rows} {f : Nat → Addr}
theorem RowsF.kp (h : RowsF H a n R f) {L : List Addr} (k : Kp L H H') (d : ∀ b, b ∈ own a n f → b ∉ L) : RowsF H' a n R f :=
  ⟨k _ _ h.top (d _ own_top), fun p hp => k _ _ (h.row p hp) (d _ (own_row hp)), h.off, h.inj⟩
theorem RowsF.put (h : RowsF H a n R f) {p : Nat} (hp : p < n) (l : List Nat) : RowsF (upd H (f p) (.lst (nVs l))) a n (Gw.put R p l) f where
  top := by rw [upd_ne (h.off p hp).symm]; exact h.top
  row := fun q hq => by
    by_cases e : q = p
    · subst e; rw [upd_same, put_same]
    · rw [upd_ne (fun z => e (h.inj q p hq hp z)), put_ne e]
      exact h.row q hq
  off := h.off
  inj := h.inj
theorem RowsF.sq (h : RowsF H a n R f) : Sq H a ((List.range n).map fun p => V.ref (f p)) := .inl h.top
end
theorem zs_erase (l : List Nat) (q : Nat) : ((zs l).eraseIdx (l.idxOf q)) = zs (l.erase q) := by
  unfold zs
  induction l with
  | nil => rfl
  | cons x l ih =>
    rw [List.idxOf_cons]
    by_cases h : x = q
    · subst h; simp
    · have e : (x == q) = false := beq_eq_false_iff_ne.mpr h
      rw [e, List.erase_cons_tail (by simpa using h)]
      simp [ih]
theorem sc_l_ahead : FnScope ["_law_rows", "_law_p", "_law_q", "_law_row"] ["_law_rows", "_law_p", "_law_q"] (defScope s_l_ahead) := ⟨rfl, rfl, rfl, by decide +kernel, rfl, by decide +kernel, by decide +kernel⟩
def sp_ahead : Sp := fun vs H Q _ => ∃ (a : Addr) (n : Nat) (R : Rows) (f : Nat → Addr) (p q : Nat), vs = [.ref a, nV p, nV q] ∧ RowsF H a n R f ∧ q < n ∧ p ∈ R q ∧ Q (nV (nx R p q)) H
theorem ok_ahead (T : Txt K mg) : Ok P w K mg base 1 "_law_ahead" ["_law_rows", "_law_p", "_law_q"] sp_ahead := by
  refine def_ok T 34 rfl rfl sc_l_ahead (fun _ _ _ _ _ _ us hl => match us, hl with | [_, _, _], _ => rfl) (fun vs H Q E h => ?_) (fun cdv A outer s H vs Q E hr h => ?_)
  · obtain ⟨_, _, _, _, _, _, rfl, _⟩ := h
    rfl
  · obtain ⟨a, n, R, f, p, q', rfl, rf, hq, hp, q⟩ := h
    refine ⟨_, (pss_cons (ps_set (i := 3) sc_l_ahead.nd rfl (by first | exact .inl rfl | exact .inr rfl) (pe_ix ixH (pv 0) (pv 2) (fun _ _ => rfl)))
      (pss_one (ps_ret (pe_ix ixH (pv 3) (pe_op op_sub (pe_bm PySem.F.plainAttrs_list PySem.F.slot_list_index PySem.F.type_list_index mt_lidx (pv 3) (pa_cons (pv 1) pa_nil)) pe_int) (fun _ _ => rfl))))), ?_⟩
    have hrow := rf.row q' hq
    refine ⟨_, rfl, _, rfl, a, _, _, _, rfl, rfl, rf.sq, atI_range hq, ?_⟩
    refine ⟨_, rfl, _, rfl, .inl ⟨rfl, _, SqL.of hrow⟩, _, rfl, f q', zs (R q'), _, rfl, rfl, by rw [← nVs_zs]; exact hrow, zs_mem.mpr hp, ?_⟩
    rw [zs_idx]
    exact ⟨_, _, rfl, rfl, f q', _, _, _, rfl, rfl, .inl hrow, atI_prv hp, q⟩
theorem sc_l_behind : FnScope ["_law_rows", "_law_p", "_law_v", "_law_new", "_law_row"] ["_law_rows", "_law_p", "_law_v", "_law_new"] (defScope s_l_behind) := ⟨rfl, rfl, rfl, by decide +kernel, rfl, by decide +kernel, by decide +kernel⟩
def sp_lbehind : Sp := fun vs H Q _ => ∃ (a : Addr) (n : Nat) (R : Rows) (f : Nat → Addr) (p v x : Nat), vs = [.ref a, nV p, nV v, nV x] ∧ RowsF H a n R f ∧ p < n ∧ v ∈ R p ∧ (R p).length < 100 ∧
  ∀ H', Kp (own a n f) H H' → RowsF H' a n (Gw.put R p (ins (R p) v x)) f → Q .non H'
theorem ok_lbehind (T : Txt K mg) : Ok P w K mg base 1 "_law_behind" ["_law_rows", "_law_p", "_law_v", "_law_new"] sp_lbehind := by
  refine def_ok T 35 rfl rfl sc_l_behind (fun _ _ _ _ _ _ us hl => match us, hl with | [_, _, _, _], _ => rfl) (fun vs H Q E h => ?_) (fun cdv A outer s H vs Q E hr h => ?_)
  · obtain ⟨_, _, _, _, _, _, _, rfl, _⟩ := h
    rfl
  · obtain ⟨a, n, R, f, p, v, x, rfl, rf, hp, hv, l100, q⟩ := h
    refine ⟨_, (pss_cons (ps_set (i := 4) sc_l_behind.nd rfl (by first | exact .inl rfl | exact .inr rfl) (pe_ix ixH (pv 0) (pv 1) (fun _ _ => rfl)))
      (pss_one (ps_expr (pe_bm PySem.F.plainAttrs_list PySem.F.slot_list_insert PySem.F.type_list_insert mt_insert (pv 4) (pa_cons (pe_op op_add (pe_bm PySem.F.plainAttrs_list PySem.F.slot_list_index PySem.F.type_list_index mt_lidx (pv 4) (pa_cons (pv 2) pa_nil)) pe_int) (pa_cons (pv 3) pa_nil)))))), ?_⟩
    have hrow := rf.row p hp
    refine ⟨_, rfl, _, rfl, a, _, _, _, rfl, rfl, rf.sq, atI_range hp, ?_⟩
    refine ⟨_, rfl, .inl ⟨rfl, _, SqL.of hrow⟩, _, rfl, .inl ⟨rfl, _, SqL.of hrow⟩, _, rfl, f p, zs (R p), _, rfl, rfl, by rw [← nVs_zs]; exact hrow, zs_mem.mpr hv, ?_⟩
    rw [zs_idx]
    have iv := List.idxOf_lt_length_iff.mpr hv
    have ei : ((((R p).idxOf v : Nat) : Int) + 1).toNat = (R p).idxOf v + 1 := by omega
    refine ⟨_, _, rfl, rfl, _, rfl, f p, _, _, _, rfl, rfl, hrow, by rw [List.length_map, sizeLine_eq]; omega, by omega, by omega, ?_⟩
    have e : (nVs (R p)).take ((((R p).idxOf v : Nat) : Int) + 1).toNat ++ [nV x] ++ (nVs (R p)).drop ((((R p).idxOf v : Nat) : Int) + 1).toNat = nVs (ins (R p) v x) := by
      rw [ei, ← List.map_take, ← List.map_drop]
      simp [ins, nVs]
    refine q _ ?_ ?_
    · exact Kp.put (own_row hp)
    · show RowsF (upd H (f p) (.lst ((nVs (R p)).take ((((R p).idxOf v : Nat) : Int) + 1).toNat ++ [nV x] ++ (nVs (R p)).drop ((((R p).idxOf v : Nat) : Int) + 1).toNat))) a n _ f
      rw [e]
      exact rf.put hp _
theorem sc_l_add : FnScope ["_law_rows", "_law_p", "_law_q", "_law_r", "_law_new"] ["_law_rows", "_law_p", "_law_q"] (defScope s_l_add) := ⟨rfl, rfl, rfl, by decide +kernel, rfl, by decide +kernel, by decide +kernel⟩
def sp_add : Sp := fun vs H Q _ => ∃ (a : Addr) (n : Nat) (R : Rows) (f : Nat → Addr) (p q : Nat), vs = [.ref a, nV p, nV q] ∧ RowsF H a n R f ∧ Tri n R ∧ n ≤ 20 ∧ q ∈ R p ∧
  ∀ H' z, Kp (own a n f) H H' → H z = none → RowsF H' a (n + 1) (addR R n p q) (fun i => if i = n then z else f i) → Q .non H'
theorem ok_add (T : Txt K mg) : Ok P w K mg base 2 "_law_add" ["_law_rows", "_law_p", "_law_q"] sp_add := by
  have O_l_ahead : Ok P w K mg base 1 "_law_ahead" ["_law_rows", "_law_p", "_law_q"] sp_ahead := ok_ahead T
  have O_l_behind : Ok P w K mg base 1 "_law_behind" ["_law_rows", "_law_p", "_law_v", "_law_new"] sp_lbehind := ok_lbehind T
  refine def_ok T 36 rfl rfl sc_l_add (fun _ _ _ _ _ _ us hl => match us, hl with | [_, _, _], _ => rfl) (fun vs H Q E h => ?_) (fun cdv A outer s H vs Q E hr h => ?_)
  · obtain ⟨_, _, _, _, _, _, rfl, _⟩ := h
    rfl
  · obtain ⟨a, n, R, f, p, q', rfl, rf, tri, n20, hq, q⟩ := h
    refine ⟨_, (pss_cons (ps_set (i := 3) sc_l_add.nd rfl (by first | exact .inl rfl | exact .inr rfl) (pe_f O_l_ahead hr (by rfl) (pa_cons (pv 0) (pa_cons (pv 1) (pa_cons (pv 2) pa_nil)))))
      (pss_cons (ps_set (i := 4) sc_l_add.nd rfl (by first | exact .inl rfl | exact .inr rfl) (pe_callB call_lenH (by rfl) T.z_len (by decide +kernel) (pa_cons (pv 0) pa_nil)))
      (pss_cons (ps_expr (pe_f O_l_behind hr (by rfl) (pa_cons (pv 0) (pa_cons (pv 1) (pa_cons (pv 2) (pa_cons (pv 4) pa_nil))))))
      (pss_cons (ps_expr (pe_f O_l_behind hr (by rfl) (pa_cons (pv 0) (pa_cons (pv 2) (pa_cons (pv 3) (pa_cons (pv 4) pa_nil))))))
      (pss_cons (ps_expr (pe_f O_l_behind hr (by rfl) (pa_cons (pv 0) (pa_cons (pv 3) (pa_cons (pv 1) (pa_cons (pv 4) pa_nil))))))
      (pss_one (ps_expr (pe_bm PySem.F.plainAttrs_list PySem.F.slot_list_append PySem.F.type_list_append mt_append (pv 0) (pa_cons (pe_lst (pa_cons (pv 1) (pa_cons (pv 2) (pa_cons (pv 3) pa_nil)))) pa_nil))))))))), ?_⟩
    have W := tri.toWeb
    have pn := W.lt _ _ hq
    have qn := W.lt2 hq
    have hp : p ∈ R q' := W.sym _ _ hq
    have hr1 : nx R p q' ∈ R q' := W.nx_mem hq
    have hr2 : nx R p q' ∈ R p := tri.adj hq
    have rn := W.lt2 hr1
    have pq : q' ≠ p := W.neq hq
    have rp : nx R p q' ≠ p := W.neq hr2
    have rq : nx R p q' ≠ q' := W.neq hr1
    have len : ∀ x, (R x).length ≤ 20 := fun x => Nat.le_trans (nd_le (W.nd x) fun y hy => W.lt2 hy) n20
    have len' : ∀ x v y, v ∈ R x → (ins (R x) v y).length ≤ 21 := fun x v y hv => by
      have := len x
      simp only [ins, List.length_append, List.length_take, List.length_cons, List.length_drop]
      omega
    refine ⟨_, rfl, _, rfl, _, rfl, a, n, R, f, p, q', rfl, rf, qn, hp, ?_⟩
    generalize hrr : nx R p q' = r at hr1 hr2 rn rp rq
    refine ⟨_, rfl, a, _, rfl, rf.sq, ?_⟩
    have ln : (((List.range n).map fun p => V.ref (f p)).length : Int) = (n : Int) := by rw [List.length_map, List.length_range]
    rw [ln]
    refine ⟨_, rfl, _, rfl, _, rfl, _, rfl, a, n, R, f, p, q', n, rfl, rf, pn, hq, by have := len p; omega, fun H1 k1 rf1 => ?_⟩
    have e1 : Gw.put R p (ins (R p) q' n) q' = R q' := put_ne pq
    refine ⟨_, rfl, _, rfl, _, rfl, _, rfl, a, n, _, f, q', r, n, rfl, rf1, qn, by rw [e1]; exact hr1, by rw [e1]; have := len q'; omega, fun H2 k2 rf2 => ?_⟩
    rw [e1] at rf2
    have e2 : Gw.put (Gw.put R p (ins (R p) q' n)) q' (ins (R q') r n) r = R r := by rw [put_ne rq, put_ne rp]
    refine ⟨_, rfl, _, rfl, _, rfl, _, rfl, a, n, _, f, r, p, n, rfl, rf2, rn, by rw [e2]; exact W.sym _ _ hr2, by rw [e2]; have := len r; omega, fun H3 k3 rf3 => ?_⟩
    rw [e2] at rf3
    have k123 := (k1.trans k2).trans k3
    refine ⟨_, rfl, .inl ⟨rfl, _, SqL.of rf3.top⟩, _, rfl, _, rfl, _, rfl, by show 3 ≤ sizeLine; decide, fun z hz => ?_⟩
    have az : a ≠ z := ne_of_none rf3.top hz
    have top2 : upd H3 z (.lst [nV p, nV q', nV r]) a = some (.lst ((List.range n).map fun p => V.ref (f p))) := by rw [upd_ne az]; exact rf3.top
    refine ⟨a, _, _, rfl, rfl, top2, by rw [List.length_map, List.length_range, sizeLine_eq]; omega, ?_⟩
    have hz0 : H z = none := by
      cases e : H z with
      | none => rfl
      | some o =>
        exfalso
        by_cases m : z ∈ own a n f
        · rcases own_cases m with e' | ⟨i, hi, e'⟩
          · exact az e'.symm
          · rw [e', rf3.row i hi] at hz
            cases hz
        · rw [k123 z o e m] at hz
          cases hz
    refine q _ z ((k123.trans (Kp.new hz)).trans (Kp.put own_top)) hz0 ⟨?_, fun i hi => ?_, fun i hi => ?_, fun i j hi hj e => ?_⟩
    · rw [upd_same, List.range_succ, List.map_append]
      have e3 : (List.range n).map (fun i => V.ref ((fun i => if i = n then z else f i) i)) = (List.range n).map fun i => V.ref (f i) := by
        refine List.map_congr_left fun i hi => ?_
        have : i ≠ n := by have := List.mem_range.mp hi; omega
        simp [this]
      have e4 : [n].map (fun i => V.ref ((fun i => if i = n then z else f i) i)) = [.ref z] := by simp
      rw [e3, e4]
    · by_cases h : i = n
      · subst h
        simp only [if_true]
        rw [upd_ne az.symm, upd_same]
        unfold addR
        rw [put_same, hrr]
        rfl
      · simp only [h, if_false]
        have hin : i < n := by omega
        rw [upd_ne (rf3.off i hin), upd_ne (ne_of_none (rf3.row i hin) hz), rf3.row i hin]
        unfold addR
        rw [put_ne h, hrr]
    · by_cases h : i = n
      · simp only [h, if_true]; exact az.symm
      · simp only [h, if_false]; exact rf3.off i (by omega)
    · by_cases h1 : i = n
      · by_cases h2 : j = n
        · omega
        · simp only [h1, h2, if_true, if_false] at e
          have := rf3.row j (by omega)
          rw [← e, hz] at this
          cases this
      · by_cases h2 : j = n
        · simp only [h1, h2, if_true, if_false] at e
          have := rf3.row i (by omega)
          rw [e, hz] at this
          cases this
        · simp only [h1, h2, if_false] at e
          exact rf3.inj i j (by omega) (by omega) e
end
end Rd
set_option Elab.async false
set_option linter.all false
set_option maxRecDepth 100000
set_option maxHeartbeats 4000000
/-! Flips, steps, cornered webs. -/
namespace Rd
open PySem PySem.Spec PyProof.Rows L2 Gw
section
variable {P : Program} {w : World} {K : PySem.W.Frag} {mg : Str → Option Value} {base : Heap}
theorem zs_first {l : List Nat} {q : Nat} (h : q ∈ l) : (zs l)[l.idxOf q]? = some (q : Int) ∧ ∀ m, m < l.idxOf q → (zs l)[m]? ≠ some (q : Int) := by
  have il := List.idxOf_lt_length_iff.mpr h
  constructor
  · unfold zs
    rw [List.getElem?_map, List.getElem?_eq_getElem il, List.getElem_idxOf il]
    rfl
  · intro m hm e
    obtain ⟨a, b, el, ha⟩ := split_at h
    have hi : l.idxOf q = a.length := by
      rw [el, List.idxOf_append, if_neg ha, List.idxOf_cons]
      simp
    unfold zs at e
    rw [List.getElem?_map, el, List.getElem?_append_left (by omega)] at e
    obtain ⟨x, hx, e2⟩ := Option.map_eq_some_iff.mp e
    have : x = q := by omega
    subst this
    exact ha (List.mem_of_getElem? hx)
theorem sc_l_flip : FnScope ["_law_rows", "_law_p", "_law_q", "_law_r", "_law_s"] ["_law_rows", "_law_p", "_law_q"] (defScope s_l_flip) := ⟨rfl, rfl, rfl, by decide +kernel, rfl, by decide +kernel, by decide +kernel⟩
def sp_flip : Sp := fun vs H Q _ => ∃ (a : Addr) (n : Nat) (R : Rows) (f : Nat → Addr) (p q : Nat), vs = [.ref a, nV p, nV q] ∧ RowsF H a n R f ∧ Cor n R ∧ n ≤ 20 ∧ q ∈ R p ∧
  ∀ H' R', Kp (own a n f) H H' → RowsF H' a n R' f → Cor n R' → Q .non H'
theorem ok_flip (T : Txt K mg) : Ok P w K mg base 2 "_law_flip" ["_law_rows", "_law_p", "_law_q"] sp_flip := by
  have O_l_ahead : Ok P w K mg base 1 "_law_ahead" ["_law_rows", "_law_p", "_law_q"] sp_ahead := ok_ahead T
  have O_l_behind : Ok P w K mg base 1 "_law_behind" ["_law_rows", "_law_p", "_law_v", "_law_new"] sp_lbehind := ok_lbehind T
  refine def_ok T 37 rfl rfl sc_l_flip (fun _ _ _ _ _ _ us hl => match us, hl with | [_, _, _], _ => rfl) (fun vs H Q E h => ?_) (fun cdv A outer s H vs Q E hr h => ?_)
  · obtain ⟨_, _, _, _, _, _, rfl, _⟩ := h
    rfl
  · obtain ⟨a, n, R, f, p, q', rfl, rf, C, n20, hq, q⟩ := h
    refine ⟨_, (pss_cons (ps_set (i := 3) sc_l_flip.nd rfl (by first | exact .inl rfl | exact .inr rfl) (pe_f O_l_ahead hr (by rfl) (pa_cons (pv 0) (pa_cons (pv 1) (pa_cons (pv 2) pa_nil)))))
      (pss_cons (ps_set (i := 4) sc_l_flip.nd rfl (by first | exact .inl rfl | exact .inr rfl) (pe_f O_l_ahead hr (by rfl) (pa_cons (pv 0) (pa_cons (pv 2) (pa_cons (pv 1) pa_nil)))))
      (pss_one (ps_if (PW.pt (pw_and (pt_cmpR op_ne (pv 3) (pv 4) (nomark _)) (pw_and1 (pt_cmpR op_ninH (pv 4) (pe_ix ixH (pv 0) (pv 3) (fun _ _ => rfl)) (by rfl))))) (pss_cons (ps_expr (pe_bm PySem.F.plainAttrs_list PySem.F.slot_list_remove PySem.F.type_list_remove mt_remove (pe_ix ixH (pv 0) (pv 1) (fun _ _ => rfl)) (pa_cons (pv 2) pa_nil)))
      (pss_cons (ps_expr (pe_bm PySem.F.plainAttrs_list PySem.F.slot_list_remove PySem.F.type_list_remove mt_remove (pe_ix ixH (pv 0) (pv 2) (fun _ _ => rfl)) (pa_cons (pv 1) pa_nil)))
      (pss_cons (ps_expr (pe_f O_l_behind hr (by rfl) (pa_cons (pv 0) (pa_cons (pv 3) (pa_cons (pv 1) (pa_cons (pv 4) pa_nil))))))
      (pss_one (ps_expr (pe_f O_l_behind hr (by rfl) (pa_cons (pv 0) (pa_cons (pv 4) (pa_cons (pv 2) (pa_cons (pv 3) pa_nil)))))))))) pss_nil)))), ?_⟩
    have tri := C.toTri
    have W := tri.toWeb
    have pn := W.lt _ _ hq
    have qn := W.lt2 hq
    have hp : p ∈ R q' := W.sym _ _ hq
    have len : ∀ x, (R x).length ≤ 20 := fun x => Nat.le_trans (nd_le (W.nd x) fun y hy => W.lt2 hy) n20
    have qp : q' ≠ p := W.neq hq
    refine ⟨_, rfl, _, rfl, _, rfl, a, n, R, f, p, q', rfl, rf, qn, hp, ?_⟩
    refine ⟨_, rfl, _, rfl, _, rfl, a, n, R, f, q', p, rfl, rf, pn, hq, ?_⟩
    have r1 : nx R p q' ∈ R q' := W.nx_mem hq
    have r2 : nx R p q' ∈ R p := tri.adj hq
    have s1 : nx R q' p ∈ R p := W.nx_mem hp
    have s2 : nx R q' p ∈ R q' := tri.adj hp
    have fl := C.flip hq rfl rfl
    generalize nx R p q' = r at r1 r2 fl ⊢
    generalize nx R q' p = s' at s1 s2 fl ⊢
    have rn := W.lt2 r1
    have sn := W.lt2 s1
    have rp : r ≠ p := W.neq r2
    have rq : r ≠ q' := W.neq r1
    have sp : s' ≠ p := W.neq s1
    have sq : s' ≠ q' := W.neq s2
    refine ⟨_, rfl, _, rfl, rfl, _, rfl, ?_⟩
    by_cases hrs : r = s'
    · rw [decide_eq_true (show V.int (r : Int) = V.int (s' : Int) by rw [hrs])]
      refine iteF ?_
      refine iteF ?_
      exact q H R (Kp.refl) rf C
    · rw [decide_eq_false (show ¬ V.int (r : Int) = V.int (s' : Int) from fun e => hrs (nV_inj e))]
      refine iteT ?_
      refine ⟨nV s', rfl, _, rfl, _, rfl, a, _, _, _, rfl, rfl, rf.sq, atI_range rn, f r, nVs (R r), rfl, .inl (rf.row r rn), rfl, flat_nVs _, _, rfl, ?_⟩
      rw [inV_nVs]
      by_cases hno : s' ∈ R r
      · rw [decide_eq_true hno]
        refine iteF ?_
        exact q H R Kp.refl rf C
      · rw [decide_eq_false hno]
        refine iteT ?_
        have z1 := zs_first hq
        have row1 := rf.row p pn
        refine ⟨_, rfl, _, rfl, a, _, _, _, rfl, rfl, rf.sq, atI_range pn, .inl ⟨rfl, _, SqL.of row1⟩, _, rfl, f p, zs (R p), (q' : Int), (R p).idxOf q', rfl, rfl, by rw [← nVs_zs]; exact row1, z1.1, z1.2, ?_⟩
        rw [zs_erase, ← nVs_zs]
        have rf1 := rf.put pn ((R p).erase q')
        have k1 : Kp (own a n f) H (upd H (f p) (.lst (nVs ((R p).erase q')))) := Kp.put (own_row pn)
        generalize upd H (f p) (.lst (nVs ((R p).erase q'))) = H1 at rf1 k1 ⊢
        have e1 : Gw.put R p ((R p).erase q') q' = R q' := put_ne qp
        have row2 := rf1.row q' qn
        rw [e1] at row2
        have z2 := zs_first hp
        refine ⟨_, rfl, _, rfl, a, _, _, _, rfl, rfl, rf1.sq, atI_range qn, .inl ⟨rfl, _, SqL.of row2⟩, _, rfl, f q', zs (R q'), (p : Int), (R q').idxOf p, rfl, rfl, by rw [← nVs_zs]; exact row2, z2.1, z2.2, ?_⟩
        rw [zs_erase, ← nVs_zs]
        have rf2 := rf1.put qn ((R q').erase p)
        have k2 : Kp (own a n f) H1 (upd H1 (f q') (.lst (nVs ((R q').erase p)))) := Kp.put (own_row qn)
        generalize upd H1 (f q') (.lst (nVs ((R q').erase p))) = H2 at rf2 k2 ⊢
        have e2 : Gw.put (Gw.put R p ((R p).erase q')) q' ((R q').erase p) r = R r := by rw [put_ne rq, put_ne rp]
        refine ⟨_, rfl, _, rfl, _, rfl, _, rfl, a, n, _, f, r, p, s', rfl, rf2, rn, by rw [e2]; exact W.sym _ _ r2, by rw [e2]; have := len r; omega, fun H3 k3 rf3 => ?_⟩
        rw [e2] at rf3
        have sr : s' ≠ r := fun e => hrs e.symm
        have e3 : Gw.put (Gw.put (Gw.put R p ((R p).erase q')) q' ((R q').erase p)) r (ins (R r) p s') s' = R s' := by rw [put_ne sr, put_ne sq, put_ne sp]
        refine ⟨_, rfl, _, rfl, _, rfl, _, rfl, a, n, _, f, s', q', r, rfl, rf3, sn, by rw [e3]; exact W.sym _ _ s2, by rw [e3]; have := len s'; omega, fun H4 k4 rf4 => ?_⟩
        rw [e3] at rf4
        exact q H4 _ (((k1.trans k2).trans k3).trans k4) rf4 (fl hrs hno)
theorem sc_l_step : FnScope ["_law_pot_here", "_law_rows", "_law_p"] ["_law_pot_here", "_law_rows"] (defScope s_l_step) := ⟨rfl, rfl, rfl, by decide +kernel, rfl, by decide +kernel, by decide +kernel⟩
def sp_step : Sp := fun vs H Q _ => ∃ (pA a : Addr) (n : Nat) (R : Rows) (f : Nat → Addr), vs = [.ref pA, .ref a] ∧ PotL H pA ∧ RowsF H a n R f ∧ pA ∉ own a n f ∧ 0 < n ∧ n ≤ 20 ∧ (∀ p, p < n → R p ≠ [] ∧ (R p).length ≤ 20) ∧
  ∀ H' t p q, Kp [pA] H H' → PotL H' pA → p < n → q ∈ R p → H' t = some (stO (p, q)) → Q (.ref t) H'
theorem own_off {pA a : Addr} {n : Nat} {f : Nat → Addr} (h : pA ∉ own a n f) : ∀ b, b ∈ own a n f → b ∉ [pA] := fun b hb e => h (by rw [← List.mem_singleton.mp e]; exact hb)
theorem ok_step (T : Txt K mg) : Ok P w K mg base 2 "_law_step" ["_law_pot_here", "_law_rows"] sp_step := by
  have O_l_digit : Ok P w K mg base 1 "_law_digit" ["_law_pot_here", "_law_many"] sp_digit := ok_digit T
  refine def_ok T 38 rfl rfl sc_l_step (fun _ _ _ _ _ _ us hl => match us, hl with | [_, _], _ => rfl) (fun vs H Q E h => ?_) (fun cdv A outer s H vs Q E hr h => ?_)
  · obtain ⟨_, _, _, _, _, rfl, _⟩ := h
    rfl
  · obtain ⟨pA, a, n, R, f, rfl, pot, rf, off, n0, n20, full, q⟩ := h
    refine ⟨_, (pss_cons (ps_set (i := 2) sc_l_step.nd rfl (by first | exact .inl rfl | exact .inr rfl) (pe_f O_l_digit hr (by rfl) (pa_cons (pv 0) (pa_cons (pe_callB call_lenH (by rfl) T.z_len (by decide +kernel) (pa_cons (pv 1) pa_nil)) pa_nil))))
      (pss_one (ps_ret (pe_tup (pa_cons (pv 2) (pa_cons (pe_ix ixH (pe_ix ixH (pv 1) (pv 2) (fun _ _ => rfl)) (pe_f O_l_digit hr (by rfl) (pa_cons (pv 0) (pa_cons (pe_callB call_lenH (by rfl) T.z_len (by decide +kernel) (pa_cons (pe_ix ixH (pv 1) (pv 2) (fun _ _ => rfl)) pa_nil)) pa_nil))) (fun _ _ => rfl)) pa_nil)))))), ?_⟩
    have ln : (((List.range n).map fun p => V.ref (f p)).length : Int) = (n : Int) := by rw [List.length_map, List.length_range]
    refine ⟨_, rfl, _, rfl, a, _, rfl, rf.sq, pA, _, rfl, pot, by omega, by omega, fun H1 p k1 pot1 hp => ?_⟩
    have pn : p < n := by omega
    have rf1 := rf.kp k1 (own_off off)
    obtain ⟨ne, l20⟩ := full p pn
    have row1 := rf1.row p pn
    have lp : 0 < (R p).length := List.length_pos_iff.mpr ne
    have ln1 : ((nVs (R p)).length : Int) = ((R p).length : Int) := by rw [List.length_map]
    refine ⟨_, rfl, _, rfl, _, rfl, a, _, _, _, rfl, rfl, rf1.sq, atI_range pn, _, rfl, _, rfl, _, rfl, a, _, _, _, rfl, rfl, rf1.sq, atI_range pn, f p, _, rfl, .inl row1, pA, _, rfl, pot1, by omega, by omega, fun H2 v k2 pot2 hv => ?_⟩
    have rf2 := rf1.kp k2 (own_off off)
    have vl : v < (R p).length := by omega
    refine ⟨f p, _, _, _, rfl, rfl, .inl (rf2.row p pn), atI_nVs (List.getElem?_eq_getElem vl), by show 2 ≤ sizeLine; decide, fun t ht => ?_⟩
    exact q _ t p _ ((k1.trans k2).trans (Kp.new ht)) (pot2.kp (Kp.new ht : Kp [] _ _) (by simp)) pn (List.getElem_mem vl) upd_same
end
end Rd
set_option Elab.async false
set_option linter.all false
set_option maxRecDepth 100000
set_option maxHeartbeats 4000000
/-! Cornered webs, names. -/
namespace Rd
open PySem PySem.Spec PyProof.Rows L2 Gw
section
variable {P : Program} {w : World} {K : PySem.W.Frag} {mg : Str → Option Value} {base : Heap}
theorem Kp.onto {L L2 : List Addr} {H0 H H' : Hp} (k : Kp L H0 H) (k2 : Kp L2 H H') (d : ∀ b, b ∈ L2 → H0 b = none ∨ b ∈ L) : Kp L H0 H' := fun b o e n => by
  refine k2 b o (k b o e n) fun m => ?_
  rcases d b m with z | z
  · rw [z] at e; cases e
  · exact n z
/-- new rows, made since H0 -/
structure NewR (H0 H : Hp) (a : Addr) (n : Nat) (R : Rows) (f : Nat → Addr) : Prop where
  rf : RowsF H a n R f
  na : H0 a = none
  nf : ∀ p, p < n → H0 (f p) = none
theorem NewR.off {H0 H : Hp} {a : Addr} {n : Nat} {R : Rows} {f : Nat → Addr} (h : NewR H0 H a n R f) : ∀ b, b ∈ own a n f → H0 b = none := fun b hb => by
  rcases own_cases hb with e | ⟨p, hp, e⟩
  · rw [e]; exact h.na
  · rw [e]; exact h.nf p hp
theorem NewR.pot {H0 H : Hp} {a pA : Addr} {n : Nat} {R : Rows} {f : Nat → Addr} (h : NewR H0 H a n R f) (p : PotL H0 pA) : pA ∉ own a n f := fun hb => by
  obtain ⟨x, y, e, _⟩ := p
  rw [h.off _ hb] at e
  cases e
theorem NewR.kp {H0 H H' : Hp} {a pA : Addr} {n : Nat} {R : Rows} {f : Nat → Addr} (h : NewR H0 H a n R f) (k : Kp [pA] H H') (p : PotL H0 pA) : NewR H0 H' a n R f := ⟨h.rf.kp k (own_off (h.pot p)), h.na, h.nf⟩
theorem Cor.len {n : Nat} {R : Rows} (C : Cor n R) (h : n ≤ 20) : ∀ p, p < n → R p ≠ [] ∧ (R p).length ≤ 20 := fun p hp => ⟨C.full p hp, Nat.le_trans (nd_le (C.nd p) fun y hy => C.toWeb.lt2 hy) h⟩
theorem sc_l_cornered : FnScope ["_law_pot_here", "_law_n", "_law_rows", "_law_k", "_law_p", "_law_q"] ["_law_pot_here", "_law_n"] (defScope s_l_cornered) := ⟨rfl, rfl, rfl, by decide +kernel, rfl, by decide +kernel, by decide +kernel⟩
def sp_cornered : Sp := fun vs H Q _ => ∃ (pA : Addr) (n : Nat), vs = [.ref pA, nV n] ∧ PotL H pA ∧ 3 ≤ n ∧ n ≤ 9 ∧ ∀ H' a R f, Kp [pA] H H' → PotL H' pA → NewR H H' a n R f → Cor n R → Q (.ref a) H'
theorem ok_cornered (T : Txt K mg) : Ok P w K mg base 3 "_law_cornered" ["_law_pot_here", "_law_n"] sp_cornered := by
  have O_l_step : Ok P w K mg base 2 "_law_step" ["_law_pot_here", "_law_rows"] sp_step := ok_step T
  have O_l_add : Ok P w K mg base 2 "_law_add" ["_law_rows", "_law_p", "_law_q"] sp_add := ok_add T
  have O_l_digit : Ok P w K mg base 2 "_law_digit" ["_law_pot_here", "_law_many"] sp_digit := (ok_digit T).mono (by decide)
  have O_l_flip : Ok P w K mg base 2 "_law_flip" ["_law_rows", "_law_p", "_law_q"] sp_flip := ok_flip T
  refine def_ok T 39 rfl rfl sc_l_cornered (fun _ _ _ _ _ _ us hl => match us, hl with | [_, _], _ => rfl) (fun vs H Q E h => ?_) (fun cdv A outer s H vs Q E hr h => ?_)
  · obtain ⟨_, _, rfl, _⟩ := h
    rfl
  · obtain ⟨pA, n, rfl, pot, n3, n9, q⟩ := h
    refine ⟨_, (pss_cons (ps_set (i := 2) sc_l_cornered.nd rfl (by first | exact .inl rfl | exact .inr rfl) (pe_lst (pa_cons (pe_lst (pa_cons pe_int (pa_cons pe_int pa_nil))) (pa_cons (pe_lst (pa_cons pe_int (pa_cons pe_int pa_nil))) (pa_cons (pe_lst (pa_cons pe_int (pa_cons pe_int pa_nil))) pa_nil)))))
      (pss_cons (ps_for PassesOwn.never rfl (pi_range1 (by rfl) T.z_range (pa_cons (pe_op op_sub (pv 1) pe_int) pa_nil)) (pg_name (i := 3) sc_l_cornered.nd rfl (by first | exact .inl rfl | exact .inr rfl)) (pss_cons (ps_asg (pe_f O_l_step hr (by rfl) (pa_cons (pv 0) (pa_cons (pv 2) pa_nil))) (pg_tup (by rfl) (pgs_cons (pg_name (i := 4) sc_l_cornered.nd rfl (by first | exact .inl rfl | exact .inr rfl)) (pgs_cons (pg_name (i := 5) sc_l_cornered.nd rfl (by first | exact .inl rfl | exact .inr rfl)) pgs_nil))))
      (pss_one (ps_expr (pe_f O_l_add hr (by rfl) (pa_cons (pv 2) (pa_cons (pv 4) (pa_cons (pv 5) pa_nil))))))))
      (pss_cons (ps_for PassesOwn.never rfl (pi_range1 (by rfl) T.z_range (pa_cons (pe_f O_l_digit hr (by rfl) (pa_cons (pv 0) (pa_cons (pe_op op_mul pe_int (pv 1)) pa_nil))) pa_nil)) (pg_name (i := 3) sc_l_cornered.nd rfl (by first | exact .inl rfl | exact .inr rfl)) (pss_cons (ps_asg (pe_f O_l_step hr (by rfl) (pa_cons (pv 0) (pa_cons (pv 2) pa_nil))) (pg_tup (by rfl) (pgs_cons (pg_name (i := 4) sc_l_cornered.nd rfl (by first | exact .inl rfl | exact .inr rfl)) (pgs_cons (pg_name (i := 5) sc_l_cornered.nd rfl (by first | exact .inl rfl | exact .inr rfl)) pgs_nil))))
      (pss_one (ps_expr (pe_f O_l_flip hr (by rfl) (pa_cons (pv 2) (pa_cons (pv 4) (pa_cons (pv 5) pa_nil))))))))
      (pss_one (ps_ret (pv 2)))))), ?_⟩
    refine ⟨by show 2 ≤ sizeLine; decide, fun a0 h0 => ?_⟩
    refine ⟨by show 2 ≤ sizeLine; decide, fun a1 h1 => ?_⟩
    refine ⟨by show 2 ≤ sizeLine; decide, fun a2 h2 => ?_⟩
    refine ⟨by show 3 ≤ sizeLine; decide, fun a h3 => ?_⟩
    have k0 : Kp [pA] H (upd H a0 (.lst [nV 1, nV 2])) := Kp.new h0
    have k1 := k0.new' (o := .lst [nV 2, nV 0]) h1
    have k2 := k1.new' (o := .lst [nV 0, nV 1]) h2
    have k3 := k2.new' (o := .lst [.ref a0, .ref a1, .ref a2]) h3
    have pn0 : pA ∉ [pA] → False := fun h => h (by simp)
    have fr : ∀ {G : Hp} {b : Addr}, Kp [pA] H G → G b = none → PotL G pA → H b = none := fun {G b} k e p => k.fresh e (fun m => by
      obtain ⟨x, y, e2, _⟩ := p
      rw [List.mem_singleton.mp m, e2] at e
      cases e)
    have p1 : PotL (upd H a0 (.lst [nV 1, nV 2])) pA := pot.kp (Kp.new h0 : Kp [] _ _) (by simp)
    have p2 := p1.kp (Kp.new (o := .lst [nV 2, nV 0]) h1 : Kp [] _ _) (by simp)
    have p3 := p2.kp (Kp.new (o := .lst [nV 0, nV 1]) h2 : Kp [] _ _) (by simp)
    have p4 := p3.kp (Kp.new (o := .lst [.ref a0, .ref a1, .ref a2]) h3 : Kp [] _ _) (by simp)
    have n1 := fr k0 h1 p1
    have n2 := fr k1 h2 p2
    have n3' := fr k2 h3 p3
    have a01 : a0 ≠ a1 := ne_of_none upd_same h1
    have g0 : upd (upd H a0 (.lst [nV 1, nV 2])) a1 (.lst [nV 2, nV 0]) a0 = some (.lst [nV 1, nV 2]) := by rw [upd_ne a01, upd_same]
    have a02 : a0 ≠ a2 := ne_of_none g0 h2
    have a12 : a1 ≠ a2 := ne_of_none upd_same h2
    have g0' := (Kp.new (o := .lst [nV 0, nV 1]) h2 : Kp [] _ _).same _ _ g0
    have g1' := (Kp.new (o := .lst [nV 0, nV 1]) h2 : Kp [] _ _).same _ _ (show _ = _ from upd_same)
    have a03 : a0 ≠ a := ne_of_none g0' h3
    have a13 : a1 ≠ a := ne_of_none g1' h3
    have a23 : a2 ≠ a := ne_of_none upd_same h3
    have st : NewR H (upd (upd (upd (upd H a0 (.lst [nV 1, nV 2])) a1 (.lst [nV 2, nV 0])) a2 (.lst [nV 0, nV 1])) a (.lst [.ref a0, .ref a1, .ref a2])) a 3 R3 (fun i => if i = 0 then a0 else if i = 1 then a1 else a2) := by
      refine ⟨⟨upd_same, fun p hp => ?_, fun p hp => ?_, fun p q' hp hq e => ?_⟩, n3', fun p hp => ?_⟩
      · rcases lt3 hp with rfl | rfl | rfl
        · show upd _ _ _ a0 = _
          rw [upd_ne a03, upd_ne a02, upd_ne a01, upd_same]; rfl
        · show upd _ _ _ a1 = _
          rw [upd_ne a13, upd_ne a12, upd_same]; rfl
        · show upd _ _ _ a2 = _
          rw [upd_ne a23, upd_same]; rfl
      · rcases lt3 hp with rfl | rfl | rfl
        · exact a03
        · exact a13
        · exact a23
      · rcases lt3 hp with rfl | rfl | rfl <;> rcases lt3 hq with rfl | rfl | rfl <;> first | rfl | exact absurd e a01 | exact absurd e a02 | exact absurd e a12 | exact absurd e a01.symm | exact absurd e a02.symm | exact absurd e a12.symm
      · rcases lt3 hp with rfl | rfl | rfl
        · exact h0
        · exact n1
        · exact n2
    generalize upd (upd (upd (upd H a0 (.lst [nV 1, nV 2])) a1 (.lst [nV 2, nV 0])) a2 (.lst [nV 0, nV 1])) a (.lst [.ref a0, .ref a1, .ref a2]) = G0 at k3 p4 st ⊢
    refine ⟨_, rfl, _, _, rfl, rfl, _, rfl, by omega, by omega, ?_⟩
    rw [show ((n : Int) - 3).toNat = n - 3 by omega]
    refine for_range (lo := 0) (n := n - 3) (fun i σ G => ∃ R f v3 v4 v5, σ = [some (.ref pA), some (nV n), some (.ref a), v3, v4, v5] ∧ Kp [pA] H G ∧ PotL G pA ∧ NewR H G a (3 + i) R f ∧ Cor (3 + i) R) ⟨R3, _, _, _, _, rfl, k3, p4, st, cor3⟩ (fun i σ G hi h => ?_) (fun σ G h => ?_)
    · obtain ⟨R, f, v3, v4, v5, rfl, kG, pG, nr, C⟩ := h
      refine ⟨_, rfl, _, rfl, pA, a, 3 + i, R, f, rfl, pG, nr.rf, nr.pot pot, by omega, by omega, Cor.len C (by omega), fun G1 t p q' kS pS pn hq ht => ?_⟩
      have nr1 := nr.kp kS pot
      refine ⟨t, _, rfl, SqT.of ht, rfl, _, _, rfl, _, _, rfl, rfl, ?_⟩
      refine ⟨_, rfl, _, rfl, _, rfl, a, 3 + i, R, f, p, q', rfl, nr1.rf, C.toTri, by omega, hq, fun G2 z kA hz rf2 => ?_⟩
      have k13 := kG.trans kS
      have hz0 : H z = none := fr k13 hz pS
      have k14 : Kp [pA] H G2 := k13.onto kA fun b hb => .inl (nr1.off b hb)
      have pG2 : PotL G2 pA := pS.kp kA (nr1.pot pot)
      refine ⟨addR R (3 + i) p q', _, _, _, _, rfl, k14, pG2, ⟨rf2, nr1.na, fun j hj => ?_⟩, C.add hq⟩
      by_cases e : j = 3 + i
      · simp only [e, if_true]; exact hz0
      · simp only [e, if_false]; exact nr1.nf j (by omega)
    · obtain ⟨R, f, v3, v4, v5, rfl, kG, pG, nr, C⟩ := h
      have en : 3 + (n - 3) = n := by omega
      rw [en] at nr C
      refine ⟨_, rfl, _, rfl, _, _, rfl, rfl, .inl ⟨by decide, by decide⟩, pA, _, rfl, pG, by omega, by omega, fun G1 v kD pD hv => ?_⟩
      refine ⟨_, rfl, by omega, by omega, ?_⟩
      have nr1 := nr.kp kD pot
      refine for_range (lo := 0) (fun i σ G => ∃ R v3 v4 v5, σ = [some (.ref pA), some (nV n), some (.ref a), v3, v4, v5] ∧ Kp [pA] H G ∧ PotL G pA ∧ NewR H G a n R f ∧ Cor n R) ⟨R, _, _, _, rfl, kG.trans kD, pD, nr1, C⟩ (fun i σ G hi h => ?_) (fun σ G h => ?_)
      · obtain ⟨R, v3, v4, v5, rfl, kG, pG, nr, C⟩ := h
        refine ⟨_, rfl, _, rfl, pA, a, n, R, f, rfl, pG, nr.rf, nr.pot pot, by omega, by omega, Cor.len C (by omega), fun G1 t p q' kS pS pn hq ht => ?_⟩
        have nr1 := nr.kp kS pot
        refine ⟨t, _, rfl, SqT.of ht, rfl, _, _, rfl, _, _, rfl, rfl, ?_⟩
        refine ⟨_, rfl, _, rfl, _, rfl, a, n, R, f, p, q', rfl, nr1.rf, C, by omega, hq, fun G2 R' kA rf2 C2 => ?_⟩
        exact ⟨R', _, _, _, rfl, (kG.trans kS).onto kA fun b hb => .inl (nr1.off b hb), pS.kp kA (nr1.pot pot), ⟨rf2, nr1.na, nr1.nf⟩, C2⟩
      · obtain ⟨R, v3, v4, v5, rfl, kG, pG, nr, C⟩ := h
        exact ⟨_, rfl, q G a R f kG pG nr C⟩
end
end Rd
set_option Elab.async false
set_option linter.all false
set_option maxRecDepth 100000
set_option maxHeartbeats 4000000
/-! Names, webs by other names. -/
namespace Rd
open PySem PySem.Spec PyProof.Rows L2 Gw
section
variable {P : Program} {w : World} {K : PySem.W.Frag} {mg : Str → Option Value} {base : Heap}
theorem sc_l_names : FnScope ["_law_pot_here", "_law_n", "_law_found", "_law_k"] ["_law_pot_here", "_law_n"] (defScope s_l_names) := ⟨rfl, rfl, rfl, by decide +kernel, rfl, by decide +kernel, by decide +kernel⟩
def sp_names : Sp := fun vs H Q _ => ∃ (pA : Addr) (n : Nat), vs = [.ref pA, nV n] ∧ PotL H pA ∧ n ≤ 100 ∧ ∀ H' p l, Kp [pA] H H' → PotL H' pA → H p = none → H' p = some (.lst (nVs l)) → l.Perm (List.range n) → Q (.ref p) H'
theorem ok_names (T : Txt K mg) : Ok P w K mg base 2 "_law_names" ["_law_pot_here", "_law_n"] sp_names := by
  have O_l_digit : Ok P w K mg base 1 "_law_digit" ["_law_pot_here", "_law_many"] sp_digit := ok_digit T
  refine def_ok T 40 rfl rfl sc_l_names (fun _ _ _ _ _ _ us hl => match us, hl with | [_, _], _ => rfl) (fun vs H Q E h => ?_) (fun cdv A outer s H vs Q E hr h => ?_)
  · obtain ⟨_, _, rfl, _⟩ := h
    rfl
  · obtain ⟨pA, n, rfl, pot, n100, q⟩ := h
    refine ⟨_, (pss_cons (ps_set (i := 2) sc_l_names.nd rfl (by first | exact .inl rfl | exact .inr rfl) (pe_lst pa_nil))
      (pss_cons (ps_for PassesOwn.never rfl (pi_range1 (by rfl) T.z_range (pa_cons (pv 1) pa_nil)) (pg_name (i := 3) sc_l_names.nd rfl (by first | exact .inl rfl | exact .inr rfl)) (pss_one (ps_expr (pe_bm PySem.F.plainAttrs_list PySem.F.slot_list_insert PySem.F.type_list_insert mt_insert (pv 2) (pa_cons (pe_f O_l_digit hr (by rfl) (pa_cons (pv 0) (pa_cons (pe_op op_add (pv 3) pe_int) pa_nil))) (pa_cons (pv 3) pa_nil))))))
      (pss_one (ps_ret (pv 2))))), ?_⟩
    refine ⟨by show 0 ≤ sizeLine; decide, fun f hf => ?_⟩
    have pf : f ≠ pA := by
      obtain ⟨x, y, e, _⟩ := pot
      exact (ne_of_none e hf).symm
    refine ⟨_, rfl, n, rfl, by omega, by omega, ?_⟩
    rw [show ((n : Nat) : Int).toNat = n by omega]
    refine for_range (lo := 0) (n := n) (fun i σ G => ∃ l v3, σ = [some (.ref pA), some (nV n), some (.ref f), v3] ∧ Kp [pA] H G ∧ PotL G pA ∧ G f = some (.lst (nVs l)) ∧ l.Perm (List.range i)) ⟨[], _, rfl, Kp.new hf, pot.kp (Kp.new hf : Kp [] _ _) (by simp), upd_same, by simp⟩ (fun i σ G hi h => ?_) (fun σ G h => ?_)
    · obtain ⟨l, v3, rfl, kG, pG, hl, pm⟩ := h
      rw [show (0 : Int) + (i : Int) = (i : Int) by omega]
      have ll : l.length = i := by rw [pm.length_eq, List.length_range]
      refine ⟨_, rfl, .inl ⟨rfl, _, SqL.of hl⟩, _, rfl, _, rfl, _, _, rfl, rfl, pA, _, rfl, pG, by omega, by omega, fun G1 v kD pD hv => ?_⟩
      have hl1 := kD f _ hl (by simpa using pf)
      refine ⟨nV i, rfl, f, _, _, _, rfl, rfl, hl1, by rw [List.length_map, sizeLine_eq]; omega, by omega, by omega, ?_⟩
      rw [show ((v : Nat) : Int).toNat = v by omega]
      refine ⟨l.take v ++ i :: l.drop v, _, rfl, (kG.trans kD).own hf, ?_, ?_, ?_⟩
      · obtain ⟨x, y, e, b⟩ := pD
        exact ⟨x, y, by rw [upd_ne pf.symm]; exact e, b⟩
      · rw [upd_same, ← List.map_take, ← List.map_drop]
        simp [nVs]
      · rw [List.range_succ]
        refine List.Perm.trans List.perm_middle ?_
        rw [List.take_append_drop]
        refine List.Perm.trans (pm.cons i) ?_
        exact (List.perm_append_singleton i (List.range i)).symm
    · obtain ⟨l, v3, rfl, kG, pG, hl, pm⟩ := h
      exact ⟨_, rfl, q G f l kG pG hf hl pm⟩
theorem sc_l_web : FnScope ["_law_rows", "_law_names_here", "_law_found", "_law_p", "_law_row", "_law_q", "_law_called", "_law_k"] ["_law_rows", "_law_names_here"] (defScope s_l_web) := ⟨rfl, rfl, rfl, by decide +kernel, rfl, by decide +kernel, by decide +kernel⟩
def nm (l : List Nat) (p : Nat) : Nat := l.getD p 0
def sp_web : Sp := fun vs H Q _ => ∃ (a b : Addr) (n : Nat) (R : Rows) (f : Nat → Addr) (l : List Nat), vs = [.ref a, .ref b] ∧ RowsF H a n R f ∧ H b = some (.lst (nVs l)) ∧ l.Perm (List.range n) ∧ n ≤ 9 ∧ (∀ p, p < n → R p ≠ [] ∧ (R p).length ≤ 20 ∧ ∀ q, q ∈ R p → q < n) ∧
  ∀ (H' : Hp) (t : Addr) (R2 : Rows), Kp [] H H' → WebT H' t n R2 → (∀ p, p < n → ∃ l1 l2, (R p).map (nm l) = l1 ++ l2 ∧ R2 (nm l p) = l2 ++ l1) → (∀ y, n ≤ y → R2 y = []) → Q (.ref t) H'
theorem nm_get {l : List Nat} {p : Nat} (h : p < l.length) : l[p]? = some (nm l p) := by
  unfold nm
  rw [List.getD_eq_getElem?_getD, List.getElem?_eq_getElem h]
  rfl
theorem ok_web (T : Txt K mg) : Ok P w K mg base 1 "_law_web" ["_law_rows", "_law_names_here"] sp_web := by
  refine def_ok T 41 rfl rfl sc_l_web (fun _ _ _ _ _ _ us hl => match us, hl with | [_, _], _ => rfl) (fun vs H Q E h => ?_) (fun cdv A outer s H vs Q E hr h => ?_)
  · obtain ⟨_, _, _, _, _, _, rfl, _⟩ := h
    rfl
  · obtain ⟨a, b, n, R, f, l, rfl, rf, hb, pm, n9, full, q⟩ := h
    refine ⟨_, (pss_cons (ps_set (i := 2) sc_l_web.nd rfl (by first | exact .inl rfl | exact .inr rfl) (pe_op op_rep (pe_lst (pa_cons (pe_tup pa_nil) pa_nil)) (pe_callB call_lenH (by rfl) T.z_len (by decide +kernel) (pa_cons (pv 0) pa_nil))))
      (pss_cons (ps_for PassesOwn.never rfl (pi_enum (by rfl) T.z_enumerate (pa_cons (pv 0) pa_nil)) (pg_tup (by rfl) (pgs_cons (pg_name (i := 3) sc_l_web.nd rfl (by first | exact .inl rfl | exact .inr rfl)) (pgs_cons (pg_name (i := 4) sc_l_web.nd rfl (by first | exact .inl rfl | exact .inr rfl)) pgs_nil))) (pss_cons (ps_setLc (i := 6) (own := [("_law_q", 5)]) (g := (gName 5)) (by rfl) sc_l_web.nd rfl rfl (sw_true rfl rfl rfl (by decide +kernel)) (pi_list (pv 4)) (blkOk_by (own := [("_law_q", 5)]) (N := ["_law_rows", "_law_names_here", "_law_found", "_law_p", "_law_row", "_law_q", "_law_called", "_law_k"]) (sc := defScope s_l_web) (by decide +kernel)) (fun _ _ _ _ _ => (pg_name (i := 5) sc_l_web.nd rfl (by first | exact .inl rfl | exact .inr rfl))) (fun _ _ _ _ _ => pts_nil) (fun _ _ _ _ _ => (pe_ix ixH (pv 1) (pv 5) (fun _ _ => rfl))))
      (pss_cons (ps_set (i := 7) sc_l_web.nd rfl (by first | exact .inl rfl | exact .inr rfl) (pe_bm PySem.F.plainAttrs_list PySem.F.slot_list_index PySem.F.type_list_index mt_lidx (pv 6) (pa_cons (pe_callB (cr_min rfl) (by rfl) T.z_min (by decide +kernel) (pa_cons (pv 6) pa_nil)) pa_nil)))
      (pss_one (ps_asg (pe_callTy call_tupF (by rfl) T.z_tuple (by decide +kernel) (pa_cons (pe_op op_cat (pe_slice sl_list (pv 6) (po_some (pv 7)) po_none) (pe_slice sl_list (pv 6) po_none (po_some (pv 7)))) pa_nil)) (pg_sub (pv 2) (pe_ix ixH (pv 1) (pv 3) (fun _ _ => rfl)) set_list))))))
      (pss_one (ps_ret (pe_callTy call_tupH (by rfl) T.z_tuple (by decide +kernel) (pa_cons (pv 2) pa_nil)))))), ?_⟩
    have ll : l.length = n := by rw [pm.length_eq, List.length_range]
    have lnd : l.Nodup := pm.nodup_iff.mpr List.nodup_range
    have llt : ∀ p, p < n → nm l p < n := fun p hp => by
      have := pm.mem_iff.mp (List.mem_of_getElem? (nm_get (l := l) (p := p) (by omega)))
      exact List.mem_range.mp this
    have linj : ∀ p p', p < n → p' < n → nm l p = nm l p' → p = p' := fun p p' hp hp' e => by
      refine (List.getElem?_inj (by omega) lnd).mp ?_
      rw [nm_get (by omega), nm_get (by omega), e]
    have ln : ((List.range n).map fun p => V.ref (f p)).length = n := by rw [List.length_map, List.length_range]
    refine ⟨by show 0 ≤ sizeLine; decide, fun e0 he0 => ?_⟩
    refine ⟨by show 1 ≤ sizeLine; decide, fun l0 hl0 => ?_⟩
    have k1 : Kp [] H (upd (upd H e0 (.tup [])) l0 (.lst [.ref e0])) := (Kp.new he0).new' hl0
    have hl1 : upd (upd H e0 (.tup [])) l0 (.lst [.ref e0]) l0 = some (.lst [.ref e0]) := upd_same
    generalize upd (upd H e0 (.tup [])) l0 (.lst [.ref e0]) = G0 at k1 hl1 ⊢
    refine ⟨_, rfl, a, _, rfl, .inl (k1.same _ _ rf.top), l0, _, _, rfl, rfl, hl1, by omega, by omega, by rw [ln, List.length_singleton, sizeLine_eq]; omega, fun fd hfd => ?_⟩
    have ef : (List.replicate (((List.range n).map fun p => V.ref (f p)).length : Int).toNat [V.ref e0]).flatten = (List.range n).map fun _ => V.ref e0 := by
      rw [ln, show ((n : Nat) : Int).toNat = n by omega]
      have : ∀ m : Nat, (List.replicate m [V.ref e0]).flatten = (List.range m).map fun _ => V.ref e0 := by
        intro m
        induction m with
        | zero => rfl
        | succ m ih => rw [List.replicate_succ', List.flatten_append, ih, List.range_succ, List.map_append]; rfl
      exact this n
    rw [ef]
    have k2 : Kp [] H (upd G0 fd (.lst ((List.range n).map fun _ => V.ref e0))) := k1.new' hfd
    have fdH : H fd = none := k1.free hfd
    have hf2 : upd G0 fd (.lst ((List.range n).map fun _ => V.ref e0)) fd = some (.lst ((List.range n).map fun _ => V.ref e0)) := upd_same
    generalize upd G0 fd (.lst ((List.range n).map fun _ => V.ref e0)) = G2 at k2 hf2 ⊢
    have rf2 := rf.kp k2 (by simp)
    refine ⟨_, rfl, a, _, rfl, SqL.of rf2.top, ?_⟩
    refine for_it (walk_enum (K := K) (a := a) (xs := (List.range n).map fun p => V.ref (f p))) (fun i σ G => ∃ (R2 : Rows) (g : Nat → Addr) (v3 v4 v6 v7 : Option V), σ = [some (.ref a), some (.ref b), some (.ref fd), v3, v4, none, v6, v7] ∧ Kp [] H G ∧ G fd = some (.lst ((List.range n).map fun y => V.ref (g y))) ∧ (∀ y, (∀ p, p < i → nm l p ≠ y) → R2 y = []) ∧
      ∀ p, p < i → FzT G (g (nm l p)) (nVs (R2 (nm l p))) ∧ ∃ l1 l2, (R p).map (nm l) = l1 ++ l2 ∧ R2 (nm l p) = l2 ++ l1) ⟨fun _ => [], fun _ => e0, _, _, _, _, rfl, k2, hf2, fun _ _ => rfl, fun p hp => absurd hp (Nat.not_lt_zero _)⟩ (fun i σ G _ h => ?_) (fun i x σ G0 G hi h y => ?_) (fun σ G h => ?_)
    · obtain ⟨_, _, _, _, _, _, _, k, _⟩ := h
      exact SqL.of (k.same _ _ rf.top)
    · obtain ⟨R2, g, v3, v4, v6, v7, rfl, kG, hfd3, emp, dn⟩ := h
      obtain ⟨t, x, y, rfl, ht, rfl, hx, hy⟩ := y
      obtain rfl := Option.some.inj hx
      have hin : i < n := by rwa [ln] at hi
      replace hy : ((List.range n).map fun p => V.ref (f p))[i]? = some y := hy
      rw [range_at hin] at hy
      obtain rfl := Option.some.inj hy
      have kG2 : Kp [] H (upd G0 t (.tup [.int (i : Nat), .ref (f i)])) := kG.new' ht
      have hfd4 : upd G0 t (.tup [.int (i : Nat), .ref (f i)]) fd = some (.lst ((List.range n).map fun y => V.ref (g y))) := by rw [upd_ne (ne_of_none hfd3 ht)]; exact hfd3
      have dn4 : ∀ p, p < i → FzT (upd G0 t (.tup [.int (i : Nat), .ref (f i)])) (g (nm l p)) (nVs (R2 (nm l p))) := fun p hp => (dn p hp).1.kp (Kp.new ht : Kp [] _ _) (by simp)
      refine ⟨t, _, rfl, SqT.of upd_same, rfl, _, _, rfl, _, _, rfl, rfl, ?_⟩
      generalize upd G0 t (.tup [.int (i : Nat), .ref (f i)]) = G3 at kG2 hfd4 dn4 ⊢
      have row3 := kG2.same _ _ (rf.row i hin)
      have hb3 := kG2.same _ _ hb
      obtain ⟨rne, r20, rlt⟩ := full i hin
      refine ⟨_, rfl, f i, rfl, ⟨_, SqL.of row3⟩, fun D hD => ?_⟩
      refine lc_list (K := K) (a := f i) (xs := nVs (R i)) (fun j F => F = upd G3 D (.lst (nVs (((R i).take j).map (nm l))))) rfl (fun j F _ h => ?_) (fun j x F hx h => ?_) (fun F h => ?_)
      · subst h
        exact SqL.of (by rw [upd_ne (ne_of_none row3 hD)]; exact row3)
      · subst h
        rw [List.getElem?_map] at hx
        obtain ⟨z, hz, rfl⟩ := Option.map_eq_some_iff.mp hx
        have zn := rlt z (List.mem_of_getElem? hz)
        have jl := (List.getElem?_eq_some_iff.mp hz).1
        refine ⟨rfl, _, rfl, _, rfl, b, _, _, _, rfl, rfl, .inl (by rw [upd_ne (ne_of_none hb3 hD)]; exact hb3), atI_nVs (nm_get (l := l) (p := z) (by omega)), _, upd_same, ?_, ?_⟩
        · simp only [List.length_map, List.length_take, sizeLine_eq]; omega
        · rw [upd_upd, take_snoc hz]
          simp [nVs]
      · rw [List.length_map, List.take_length] at h
        subst h
        have kD : Kp [] H (upd G3 D (.lst (nVs ((R i).map (nm l))))) := kG2.new' hD
        have hD1 : upd G3 D (.lst (nVs ((R i).map (nm l)))) D = some (.lst (nVs ((R i).map (nm l)))) := upd_same
        have hfd5 : upd G3 D (.lst (nVs ((R i).map (nm l)))) fd = some (.lst ((List.range n).map fun y => V.ref (g y))) := by rw [upd_ne (ne_of_none hfd4 hD)]; exact hfd4
        have dn5 : ∀ p, p < i → FzT (upd G3 D (.lst (nVs ((R i).map (nm l))))) (g (nm l p)) (nVs (R2 (nm l p))) := fun p hp => (dn4 p hp).kp (Kp.new hD : Kp [] _ _) (by simp)
        generalize upd G3 D (.lst (nVs ((R i).map (nm l)))) = G4 at kD hD1 hfd5 dn5 ⊢
        have hDz : G4 D = some (.lst ((zs ((R i).map (nm l))).map V.int)) := by rw [← nVs_zs]; exact hD1
        have cl : 0 < ((R i).map (nm l)).length := by rw [List.length_map]; exact List.length_pos_iff.mpr rne
        have cl20 : ((R i).map (nm l)).length ≤ 20 := by rw [List.length_map]; exact r20
        generalize hc : (R i).map (nm l) = c at *
        refine ⟨_, rfl, .inl ⟨rfl, _, SqL.of hD1⟩, _, rfl, D, zs c, rfl, SqL.of hDz, by unfold zs; rw [List.length_map]; exact cl, fun m hm _ => ?_⟩
        obtain ⟨m', hm', rfl⟩ := List.mem_map.mp hm
        refine ⟨D, zs c, _, rfl, rfl, hDz, hm, ?_⟩
        rw [zs_idx]
        have kl := List.idxOf_lt_length_iff.mpr hm'
        generalize c.idxOf m' = k at kl ⊢
        have lcn : (nVs c).length = c.length := List.length_map _
        refine ⟨_, rfl, _, rfl, _, rfl, D, _, rfl, SqL.of hD1, fun p1 hp1 => ?_⟩
        have hD2 : upd G4 p1 (.lst (cutV (nVs c) (some (k : Int)) none)) D = some (.lst (nVs c)) := by rw [upd_ne (ne_of_none hD1 hp1)]; exact hD1
        refine ⟨_, rfl, _, rfl, _, rfl, D, _, rfl, SqL.of hD2, fun p2 hp2 => ?_⟩
        have h12 : p1 ≠ p2 := ne_of_none upd_same hp2
        rw [cut_drop _ (by rw [lcn]; omega), cut_take _ (by rw [lcn]; omega)] at *
        refine ⟨p1, p2, _, _, rfl, rfl, by rw [upd_ne h12, upd_same], upd_same, by simp only [List.length_drop, List.length_take, lcn, sizeLine_eq]; omega, fun p3 hp3 => ?_⟩
        have kk : Kp [] G4 (upd (upd (upd G4 p1 (.lst ((nVs c).drop k))) p2 (.lst ((nVs c).take k))) p3 (.lst ((nVs c).drop k ++ (nVs c).take k))) := ((Kp.new hp1).new' hp2).new' hp3
        have h3 : upd (upd (upd G4 p1 (.lst ((nVs c).drop k))) p2 (.lst ((nVs c).take k))) p3 (.lst ((nVs c).drop k ++ (nVs c).take k)) p3 = some (.lst (nVs (c.drop k ++ c.take k))) := by
          rw [upd_same, ← List.map_drop, ← List.map_take, ← List.map_append]
        generalize upd (upd (upd G4 p1 (.lst ((nVs c).drop k))) p2 (.lst ((nVs c).take k))) p3 (.lst ((nVs c).drop k ++ (nVs c).take k)) = G5 at kk h3 ⊢
        refine ⟨p3, _, rfl, h3, fun z u hz hfz nol => ?_⟩
        have kk2 : Kp [] G4 (upd G5 z u) := kk.new' hz
        have hfd6 := kk2.same _ _ hfd5
        have hb6 := (kD.trans kk2).same _ _ hb
        have hz6 := hfz (upd G5 z u) upd_same
        refine ⟨_, rfl, _, rfl, _, rfl, b, _, _, _, rfl, rfl, .inl hb6, atI_nVs (nm_get (l := l) (p := i) (by omega)), fd, _, _, nm l i, rfl, rfl, hfd6, ixN_nat' (by rw [List.length_map, List.length_range]; exact llt i hin), ?_⟩
        have es : ((List.range n).map fun y => V.ref (g y)).set (nm l i) (.ref z) = (List.range n).map fun y => V.ref (if y = nm l i then z else g y) := by
          apply List.ext_getElem?
          intro j
          rw [List.getElem?_set]
          by_cases hj : j < n
          · rw [range_at (f := fun y => if y = nm l i then z else g y) hj]
            by_cases e : nm l i = j
            · rw [if_pos e, if_pos (by rw [List.length_map, List.length_range]; omega)]
              simp [e]
            · have e' : ¬ j = nm l i := fun z => e z.symm
              rw [if_neg e, range_at hj]
              simp [e']
          · have e : ¬ nm l i = j := by have := llt i hin; omega
            rw [if_neg e, List.getElem?_eq_none (by simp; omega), List.getElem?_eq_none (by simp; omega)]
        have fzk : ∀ {y xs}, FzT (upd G5 z u) y xs → FzT (upd (upd G5 z u) fd (.lst (((List.range n).map fun y => V.ref (g y)).set (nm l i) (.ref z)))) y xs := fun {y xs} h => by
          obtain ⟨o, d, e⟩ := h
          refine ⟨o, d, ?_⟩
          rw [upd_ne]
          · exact e
          · intro z'
            subst z'
            rw [hfd6] at e
            cases e
        refine ⟨Gw.put R2 (nm l i) (c.drop k ++ c.take k), fun y => if y = nm l i then z else g y, _, _, _, _, rfl, (kD.trans kk2).own fdH, by rw [upd_same, es], fun y hy => ?_, fun p hp => ?_⟩
        · rw [put_ne (fun e => hy i (by omega) e.symm)]
          exact emp y fun p hp => hy p (by omega)
        · by_cases e : p = i
          · subst e
            simp only [if_true, put_same]
            refine ⟨fzk hz6, c.take k, c.drop k, ?_, rfl⟩
            rw [hc, List.take_append_drop]
          · have ne : nm l p ≠ nm l i := fun z => e (linj p i (by omega) hin z)
            simp only [ne, if_false, put_ne ne]
            obtain ⟨d1, d2⟩ := dn p (by omega)
            exact ⟨fzk ((dn5 p (by omega)).kp kk2 (by simp)), d2⟩
    · obtain ⟨R2, g, v3, v4, v6, v7, rfl, kG, hfd3, emp, dn⟩ := h
      rw [ln] at emp dn
      refine ⟨_, rfl, fd, _, rfl, hfd3, fun t ht => ?_⟩
      refine q _ t R2 (kG.new' ht) ⟨g, upd_same, fun y hy => ?_⟩ (fun p hp => (dn p hp).2) fun y hy => emp y fun p hp e => by have := llt p hp; omega
      have ym : y ∈ l := pm.mem_iff.mpr (List.mem_range.mpr hy)
      have il := List.idxOf_lt_length_iff.mpr ym
      have e : nm l (l.idxOf y) = y := by
        have := nm_get il
        rw [List.getElem?_eq_getElem il, List.getElem_idxOf il] at this
        exact (Option.some.inj this).symm
      have := (dn (l.idxOf y) (by omega)).1
      rw [e] at this
      exact this.kp (Kp.new ht : Kp [] _ _) (by simp)
end
end Rd
set_option Elab.async false
set_option linter.all false
set_option maxRecDepth 100000
set_option maxHeartbeats 4000000
/-! What hangs together, ties taken out, three tied. -/
namespace Rd
open PySem PySem.Spec PyProof.Rows L2 Gw
section
variable {P : Program} {w : World} {K : PySem.W.Frag} {mg : Str → Option Value} {base : Heap}
theorem sc_l_hangs : FnScope ["_law_rows", "_law_gone", "_law_p", "_law_left", "_law_come", "_law_k", "_law_q"] ["_law_rows", "_law_gone"] (defScope s_l_hangs) := ⟨rfl, rfl, rfl, by decide +kernel, rfl, by decide +kernel, by decide +kernel⟩
def sp_lhangs : Sp := fun vs H Q _ => ∃ (a g : Addr) (n : Nat) (R : Rows) (f : Nat → Addr) (G : List Nat), vs = [.ref a, .ref g] ∧ RowsF H a n R f ∧ H g = some (.tup (nVs G)) ∧ Web n R ∧ n ≤ 9 ∧ G.length ≤ 9 ∧ ∀ H' b, Kp [] H H' → (b = true → Conn n R fun x => x ∈ G) → Q (.bl b) H'
theorem ok_lhangs (T : Txt K mg) : Ok P w K mg base 1 "_law_hangs" ["_law_rows", "_law_gone"] sp_lhangs := by
  refine def_ok T 42 rfl rfl sc_l_hangs (fun _ _ _ _ _ _ us hl => match us, hl with | [_, _], _ => rfl) (fun vs H Q E h => ?_) (fun cdv A outer s H vs Q E hr h => ?_)
  · obtain ⟨_, _, _, _, _, _, rfl, _⟩ := h
    rfl
  · obtain ⟨a, g, n, R, f, G, rfl, rf, hg, W, hn, hG, q⟩ := h
    refine ⟨_, (pss_cons (ps_setLc (i := 3) (own := [("_law_p", 2)]) (g := (gName 2)) (by rfl) sc_l_hangs.nd rfl rfl (sw_true rfl rfl rfl (by decide +kernel)) (pi_range1 (by rfl) T.z_range (pa_cons (pe_callB call_lenH (by rfl) T.z_len (by decide +kernel) (pa_cons (pv 0) pa_nil)) pa_nil)) (blkOk_by (own := [("_law_p", 2)]) (N := ["_law_rows", "_law_gone", "_law_p", "_law_left", "_law_come", "_law_k", "_law_q"]) (sc := defScope s_l_hangs) (by decide +kernel)) (fun _ _ _ _ _ => (pg_name (i := 2) sc_l_hangs.nd rfl (by first | exact .inl rfl | exact .inr rfl))) (fun _ _ _ _ _ => (pts_one (pt_cmpR op_ninH (pv 2) (pv 1) (by rfl)))) (fun _ _ _ _ _ => (pv 2)))
      (pss_cons (ps_set (i := 4) sc_l_hangs.nd rfl (by first | exact .inl rfl | exact .inr rfl) (pe_slice sl_list (pv 3) po_none (po_some pe_int)))
      (pss_cons (ps_for PassesOwn.never rfl (pi_range1 (by rfl) T.z_range (pa_cons (pe_callB call_lenH (by rfl) T.z_len (by decide +kernel) (pa_cons (pv 3) pa_nil)) pa_nil)) (pg_name (i := 5) sc_l_hangs.nd rfl (by first | exact .inl rfl | exact .inr rfl)) (pss_one (ps_if (pt_cmpR op_lt (pv 5) (pe_callB call_lenH (by rfl) T.z_len (by decide +kernel) (pa_cons (pv 4) pa_nil)) (nomark _)) (pss_one (ps_expr (pe_bm PySem.F.plainAttrs_list PySem.F.slot_list_extend PySem.F.type_list_extend mt_extend (pv 4) (pa_cons (pe_lc (own := [("_law_q", 6)]) (g := (gName 6)) rfl sc_l_hangs.nd (pi_list (pe_ix ixH (pv 0) (pe_ix ixH (pv 4) (pv 5) (fun _ _ => rfl)) (fun _ _ => rfl))) (blkOk_by (own := [("_law_q", 6)]) (N := ["_law_rows", "_law_gone", "_law_p", "_law_left", "_law_come", "_law_k", "_law_q"]) (sc := defScope s_l_hangs) (by decide +kernel)) (fun _ _ _ _ _ => (pg_name (i := 6) sc_l_hangs.nd rfl (by first | exact .inl rfl | exact .inr rfl))) (fun _ _ _ _ _ => (pts_one (PW.pt (pw_and (pt_cmpR op_ninH (pv 6) (pv 4) (by rfl)) (pw_and1 (pt_cmpR op_ninH (pv 6) (pv 1) (by rfl))))))) (fun _ _ _ _ _ => (pv 6))) pa_nil)))) pss_nil)))
      (pss_one (ps_ret (pe_cmpR op_eq (pe_callB call_lenH (by rfl) T.z_len (by decide +kernel) (pa_cons (pv 4) pa_nil)) (pe_callB call_lenH (by rfl) T.z_len (by decide +kernel) (pa_cons (pv 3) pa_nil)) (nomark _))))))), ?_⟩
    have ln : ((List.range n).map fun p => V.ref (f p)).length = n := by rw [List.length_map, List.length_range]
    refine ⟨_, rfl, a, _, rfl, rf.sq, _, rfl, by omega, by omega, fun D hD => ?_⟩
    rw [ln, show ((n : Nat) : Int).toNat = n by omega]
    refine lc_range (lo := 0) (fun i H' => H' = upd H D (.lst (nVs ((List.range i).filter fun x => decide (x ∉ G))))) rfl (fun i H' hi hH => ?_) (fun H' hH => ?_)
    · subst hH
      refine ⟨rfl, ?_⟩
      have e0 : (0 : Int) + (i : Int) = (i : Int) := by omega
      rw [e0]
      refine ⟨nV i, rfl, _, rfl, g, nVs G, rfl, .inr (.inl ?_), rfl, flat_nVs G, _, rfl, ?_⟩
      · rw [upd_ne (ne_of_none hg hD)]
        exact hg
      rw [inV_nVs]
      by_cases hr' : i ∈ G
      · simp only [hr', decide_true, Bool.not_true, if_true]
        refine iteF ?_
        rw [range_filter_succ]
        simp [hr']
      · simp only [hr', decide_false, Bool.not_false, if_true]
        refine ⟨_, rfl, nVs ((List.range i).filter fun x => decide (x ∉ G)), upd_same, ?_, ?_⟩
        · rw [List.length_map]
          have := List.length_filter_le (fun x => decide (x ∉ G)) (List.range i)
          rw [List.length_range] at this
          rw [sizeLine_eq]; omega
        · rw [range_filter_succ]
          simp only [hr', not_false_eq_true, decide_true, if_true, upd_upd]
          congr 2
          simp [nVs]
    · subst hH
      rw [show (List.range n).filter (fun x => decide (x ∉ G)) = inn n G from rfl]
      have k1 : Kp [] H (upd H D (.lst (nVs (inn n G)))) := Kp.new hD
      have hD1 : upd H D (.lst (nVs (inn n G))) D = some (.lst (nVs (inn n G))) := upd_same
      generalize upd H D (.lst (nVs (inn n G))) = H1 at k1 hD1 ⊢
      have nd := inn_nd n G
      have mm : ∀ x, x ∈ inn n G ↔ x < n ∧ x ∉ G := fun x => inn_mem
      have l9 := inn_le n G
      generalize inn n G = left at hD1 nd mm l9 ⊢
      refine ⟨_, rfl, _, rfl, D, _, rfl, SqL.of hD1, fun cA hcA => ?_⟩
      have ec : cutV (nVs left) none (some 1) = nVs (left.take 1) := by
        by_cases h : 1 ≤ left.length
        · show cutV (nVs left) none (some ((1 : Nat) : Int)) = _
          rw [cut_take _ (by rw [List.length_map]; exact h), ← List.map_take]
        · have : left = [] := List.length_eq_zero_iff.mp (by omega)
          subst this
          rfl
      rw [ec]
      have k2 : Kp [] H (upd H1 cA (.lst (nVs (left.take 1)))) := k1.new' hcA
      have hc2 : upd H1 cA (.lst (nVs (left.take 1))) cA = some (.lst (nVs (left.take 1))) := upd_same
      have hD2 : upd H1 cA (.lst (nVs (left.take 1))) D = some (.lst (nVs left)) := by rw [upd_ne (ne_of_none hD1 hcA)]; exact hD1
      have cH : H cA = none := k1.free hcA
      have Dc : D ≠ cA := ne_of_none hD1 hcA
      generalize upd H1 cA (.lst (nVs (left.take 1))) = H2 at k2 hc2 hD2 ⊢
      refine ⟨_, rfl, D, _, rfl, .inl hD2, _, rfl, by rw [List.length_map]; omega, by rw [List.length_map]; omega, ?_⟩
      refine for_range (lo := 0) (fun i σ F => ∃ come v5, σ = [some (.ref a), some (.ref g), none, some (.ref D), some (.ref cA), v5, none] ∧ Kp [] H F ∧ F D = some (.lst (nVs left)) ∧ F cA = some (.lst (nVs come)) ∧ come.Nodup ∧ ∀ x, x ∈ come → x ∈ left ∧ ∀ x0, left.head? = some x0 → Way R (fun y => y ∈ G) x0 x) ⟨left.take 1, _, rfl, k2, hD2, hc2, nd.sublist (List.take_sublist 1 left), fun x hx => ?_⟩ (fun i σ F hi h => ?_) (fun σ F h => ?_)
      · cases left with
        | nil => simp at hx
        | cons y left =>
          have : x = y := by simpa using hx
          subst this
          exact ⟨by simp, fun x0 h0 => by
            have : x = x0 := by simpa using h0
            subst this
            exact .here⟩
      · obtain ⟨come, v5, rfl, kF, hDF, hcF, ndc, okc⟩ := h
        rw [show (0 : Int) + (i : Int) = (i : Int) by omega]
        have lcome := nodup_len ndc fun x hx => (okc x hx).1
        refine ⟨_, rfl, _, rfl, cA, _, rfl, .inl hcF, _, _, rfl, rfl, _, rfl, ?_⟩
        rw [List.length_map]
        by_cases hic : i < come.length
        · rw [decide_eq_true (show (i : Int) < (come.length : Int) by omega)]
          refine iteT ?_
          have hx : come[i]? = some come[i] := List.getElem?_eq_getElem hic
          generalize come[i] = x at hx
          obtain ⟨xl, xw⟩ := okc x (List.mem_of_getElem? hx)
          have xn := ((mm x).mp xl).1
          have row := kF.same _ _ (rf.row x xn)
          refine ⟨_, rfl, .inl ⟨rfl, _, SqL.of hcF⟩, _, rfl, _, rfl, _, rfl, cA, _, _, _, rfl, rfl, .inl hcF, atI_nVs hx, a, _, _, _, rfl, rfl, .inl (kF.same _ _ rf.top), atI_range xn, f x, rfl, ⟨_, SqL.of row⟩, fun E1 hE1 => ?_⟩
          refine lc_list (K := K) (a := f x) (xs := nVs (R x)) (fun j F2 => F2 = upd F E1 (.lst (nVs (((R x).take j).filter fun y => decide (y ∉ come ∧ y ∉ G))))) rfl (fun j F2 _ h => ?_) (fun j v F2 hv h => ?_) (fun F2 h => ?_)
          · subst h
            exact SqL.of (by rw [upd_ne (ne_of_none row hE1)]; exact row)
          · subst h
            rw [List.getElem?_map] at hv
            obtain ⟨y, hy, rfl⟩ := Option.map_eq_some_iff.mp hv
            have jl := (List.getElem?_eq_some_iff.mp hy).1
            have l20 : (R x).length ≤ 9 := row_le W hn x xn
            refine ⟨rfl, nV y, rfl, _, rfl, cA, nVs come, rfl, .inl (by rw [upd_ne (ne_of_none hcF hE1)]; exact hcF), rfl, flat_nVs _, _, rfl, ?_⟩
            rw [inV_nVs]
            by_cases c1 : y ∈ come
            · rw [decide_eq_true c1]
              refine iteF ?_
              refine iteF ?_
              rw [take_snoc hy, List.filter_append]
              simp [c1]
            · rw [decide_eq_false c1]
              refine iteT ?_
              refine ⟨nV y, rfl, _, rfl, g, nVs G, rfl, .inr (.inl (by rw [upd_ne (ne_of_none (kF.same _ _ hg) hE1)]; exact kF.same _ _ hg)), rfl, flat_nVs _, _, rfl, ?_⟩
              rw [inV_nVs]
              by_cases c2 : y ∈ G
              · rw [decide_eq_true c2]
                refine iteF ?_
                rw [take_snoc hy, List.filter_append]
                simp [c2]
              · rw [decide_eq_false c2]
                refine iteT ?_
                refine ⟨_, rfl, _, upd_same, ?_, ?_⟩
                · rw [List.length_map]
                  have h1 := List.length_filter_le (fun y => decide (y ∉ come ∧ y ∉ G)) ((R x).take j)
                  have h2 := List.length_take_le' j (R x)
                  rw [sizeLine_eq]; omega
                · rw [upd_upd, take_snoc hy, List.filter_append]
                  simp [c1, c2, nVs]
          · rw [List.length_map, List.take_length] at h
            subst h
            have kE : Kp [] F (upd F E1 (.lst (nVs ((R x).filter fun y => decide (y ∉ come ∧ y ∉ G))))) := Kp.new hE1
            have l20 : (R x).length ≤ 9 := row_le W hn x xn
            have l21 := List.length_filter_le (fun y => decide (y ∉ come ∧ y ∉ G)) (R x)
            have hc3 := kE.same _ _ hcF
            refine ⟨cA, E1, _, _, rfl, rfl, hc3, upd_same, by rw [List.length_map, List.length_map, sizeLine_eq]; omega, ?_⟩
            refine ⟨come ++ (R x).filter fun y => decide (y ∉ come ∧ y ∉ G), _, rfl, (kF.trans kE).own cH, ?_, by rw [upd_same]; simp [nVs], ?_, fun y hy => ?_⟩
            · rw [upd_ne Dc]
              exact kE.same _ _ hDF
            · refine List.nodup_append.mpr ⟨ndc, (W.nd x).filter _, fun y hy z hz e => ?_⟩
              have := (List.mem_filter.mp hz).2
              have := of_decide_eq_true this
              exact this.1 (e ▸ hy)
            · rcases List.mem_append.mp hy with h | h
              · exact okc y h
              · obtain ⟨h1, h2⟩ := List.mem_filter.mp h
                have h3 := of_decide_eq_true h2
                exact ⟨(mm y).mpr ⟨W.lt2 h1, h3.2⟩, fun x0 h0 => (xw x0 h0).on h1 h3.2⟩
        · rw [decide_eq_false (show ¬ (i : Int) < (come.length : Int) by omega)]
          refine iteF ?_
          exact ⟨come, _, rfl, kF, hDF, hcF, ndc, okc⟩
      · obtain ⟨come, v5, rfl, kF, hDF, hcF, ndc, okc⟩ := h
        refine ⟨_, rfl, cA, _, rfl, .inl hcF, _, rfl, D, _, rfl, .inl hDF, rfl, ?_⟩
        refine q F _ kF fun hb => ?_
        have hb' := of_decide_eq_true hb
        have el : come.length = left.length := by
          have : (((nVs come).length : Nat) : Int) = ((nVs left).length : Nat) := by injection hb'
          rw [List.length_map, List.length_map] at this
          omega
        intro x y xn yn xG yG
        have xl := (mm x).mpr ⟨xn, xG⟩
        have yl := (mm y).mpr ⟨yn, yG⟩
        have all : ∀ z, z ∈ left → z ∈ come := fun z hz => Classical.byContradiction fun hzc => by
          have := nodup_len (l := z :: come) (m := left) (by rw [List.nodup_cons]; exact ⟨hzc, ndc⟩) fun u hu => by
            rcases List.mem_cons.mp hu with e | e
            · rw [e]; exact hz
            · exact (okc u e).1
          rw [List.length_cons] at this
          omega
        cases left with
        | nil => simp at xl
        | cons x0 left =>
          have x0l := (mm x0).mp (by simp)
          have w1 := (okc x (all x xl)).2 x0 rfl
          have w2 := (okc y (all y yl)).2 x0 rfl
          exact (w1.back W x0l.2).trans w2
end
end Rd
set_option Elab.async false
set_option linter.all false
set_option maxRecDepth 100000
set_option maxHeartbeats 4000000
/-! Ties taken out, three tied webs. -/
namespace Rd
open PySem PySem.Spec PyProof.Rows L2 Gw
section
variable {P : Program} {w : World} {K : PySem.W.Frag} {mg : Str → Option Value} {base : Heap}
theorem sc_l_without : FnScope ["_law_rows", "_law_p", "_law_q", "_law_row", "_law_found"] ["_law_rows", "_law_p", "_law_q"] (defScope s_l_without) := ⟨rfl, rfl, rfl, by decide +kernel, rfl, by decide +kernel, by decide +kernel⟩
def sp_without : Sp := fun vs H Q _ => ∃ (a : Addr) (n : Nat) (R : Rows) (f : Nat → Addr) (p q : Nat), vs = [.ref a, nV p, nV q] ∧ RowsF H a n R f ∧ Web n R ∧ n ≤ 9 ∧ q ∈ R p ∧ ∀ H' a' f', Kp [] H H' → NewR H H' a' n (cutR R p q) f' → Q (.ref a') H'
theorem ok_without (T : Txt K mg) : Ok P w K mg base 1 "_law_without" ["_law_rows", "_law_p", "_law_q"] sp_without := by
  refine def_ok T 43 rfl rfl sc_l_without (fun _ _ _ _ _ _ us hl => match us, hl with | [_, _, _], _ => rfl) (fun vs H Q E h => ?_) (fun cdv A outer s H vs Q E hr h => ?_)
  · obtain ⟨_, _, _, _, _, _, rfl, _⟩ := h
    rfl
  · obtain ⟨a, n, R, f, p, q', rfl, rf, W, n9, hq, q⟩ := h
    refine ⟨_, (pss_cons (ps_setLc (i := 4) (own := [("_law_row", 3)]) (g := (gName 3)) (by rfl) sc_l_without.nd rfl rfl (sw_true rfl rfl rfl (by decide +kernel)) (pi_list (pv 0)) (blkOk_by (own := [("_law_row", 3)]) (N := ["_law_rows", "_law_p", "_law_q", "_law_row", "_law_found"]) (sc := defScope s_l_without) (by decide +kernel)) (fun _ _ _ _ _ => (pg_name (i := 3) sc_l_without.nd rfl (by first | exact .inl rfl | exact .inr rfl))) (fun _ _ _ _ _ => pts_nil) (fun _ _ _ _ _ => (pe_callTy call_listH (by rfl) T.z_list (by decide +kernel) (pa_cons (pv 3) pa_nil))))
      (pss_cons (ps_expr (pe_bm PySem.F.plainAttrs_list PySem.F.slot_list_remove PySem.F.type_list_remove mt_remove (pe_ix ixH (pv 4) (pv 1) (fun _ _ => rfl)) (pa_cons (pv 2) pa_nil)))
      (pss_cons (ps_expr (pe_bm PySem.F.plainAttrs_list PySem.F.slot_list_remove PySem.F.type_list_remove mt_remove (pe_ix ixH (pv 4) (pv 2) (fun _ _ => rfl)) (pa_cons (pv 1) pa_nil)))
      (pss_one (ps_ret (pv 4)))))), ?_⟩
    have ln : ((List.range n).map fun p => V.ref (f p)).length = n := by rw [List.length_map, List.length_range]
    have pn := W.lt _ _ hq
    have qn := W.lt2 hq
    have hp := W.sym _ _ hq
    have qp : q' ≠ p := W.neq hq
    refine ⟨_, rfl, a, rfl, ⟨_, SqL.of rf.top⟩, fun D hD => ?_⟩
    refine lc_list (K := K) (a := a) (xs := (List.range n).map fun p => V.ref (f p)) (fun i G => ∃ g : Nat → Addr, G D = some (.lst ((List.range i).map fun j => V.ref (g j))) ∧ Kp [] H G ∧ (∀ j, j < i → G (g j) = some (.lst (nVs (R j))) ∧ g j ≠ D ∧ H (g j) = none) ∧ ∀ j k, j < i → k < i → g j = g k → j = k)
      ⟨fun _ => 0, upd_same, Kp.new hD, fun j hj => absurd hj (Nat.not_lt_zero _), fun j k hj => absurd hj (Nat.not_lt_zero _)⟩ (fun i G _ h => ?_) (fun i x G hx h => ?_) (fun G h => ?_)
    · obtain ⟨_, _, k, _⟩ := h
      exact SqL.of (k.same _ _ rf.top)
    · obtain ⟨g, hD1, kG, hg, inj⟩ := h
      have hin : i < n := by
        have := (List.getElem?_eq_some_iff.mp hx).1
        rwa [ln] at this
      rw [range_at hin] at hx
      obtain rfl := Option.some.inj hx
      have row := kG.same _ _ (rf.row i hin)
      refine ⟨rfl, _, rfl, f i, _, rfl, .inl row, fun z hz => ?_⟩
      have zD : D ≠ z := ne_of_none hD1 hz
      have hzn := kG.free hz
      have gz : ∀ j, j < i → g j ≠ z := fun j hj => ne_of_none (hg j hj).1 hz
      refine ⟨_, by rw [upd_ne zD]; exact hD1, by rw [List.length_map, List.length_range, sizeLine_eq]; omega, fun j => if j = i then z else g j, ?_, (kG.new' hz).own hD, fun j hj => ?_, fun j k hj hk e => ?_⟩
      · rw [upd_same, List.range_succ, List.map_append]
        have e1 : (List.range i).map (fun i_1 => V.ref ((fun j => if j = i then z else g j) i_1)) = (List.range i).map fun j => V.ref (g j) := by
          refine List.map_congr_left fun j hj => ?_
          have : j ≠ i := by have := List.mem_range.mp hj; omega
          simp [this]
        have e2 : [i].map (fun i_1 => V.ref ((fun j => if j = i then z else g j) i_1)) = [.ref z] := by simp
        rw [e1, e2]
      · by_cases e : j = i
        · subst e
          simp only [if_true]
          exact ⟨by rw [upd_ne zD.symm, upd_same], zD.symm, hzn⟩
        · simp only [e, if_false]
          obtain ⟨h1, h2, h3⟩ := hg j (by omega)
          exact ⟨by rw [upd_ne h2, upd_ne (gz j (by omega))]; exact h1, h2, h3⟩
      · by_cases e1 : j = i
        · by_cases e2 : k = i
          · omega
          · simp only [e1, e2, if_true, if_false] at e
            exact absurd e.symm (gz k (by omega))
        · by_cases e2 : k = i
          · simp only [e1, e2, if_true, if_false] at e
            exact absurd e (gz j (by omega))
          · simp only [e1, e2, if_false] at e
            exact inj j k (by omega) (by omega) e
    · obtain ⟨g, hD1, kG, hg, inj⟩ := h
      rw [ln] at hD1 hg inj
      have rg : RowsF G D n R g := ⟨hD1, fun j hj => (hg j hj).1, fun j hj => (hg j hj).2.1, inj⟩
      have row1 := rg.row p pn
      have z1 := zs_first hq
      refine ⟨_, rfl, _, rfl, D, _, _, _, rfl, rfl, rg.sq, atI_range pn, .inl ⟨rfl, _, SqL.of row1⟩, _, rfl, g p, zs (R p), (q' : Int), (R p).idxOf q', rfl, rfl, by rw [← nVs_zs]; exact row1, z1.1, z1.2, ?_⟩
      rw [zs_erase, ← nVs_zs]
      have rf1 := rg.put pn ((R p).erase q')
      have k1 : Kp [] H (upd G (g p) (.lst (nVs ((R p).erase q')))) := kG.own (hg p pn).2.2
      generalize upd G (g p) (.lst (nVs ((R p).erase q'))) = H1 at rf1 k1 ⊢
      have e1 : Gw.put R p ((R p).erase q') q' = R q' := put_ne qp
      have row2 := rf1.row q' qn
      rw [e1] at row2
      have z2 := zs_first hp
      refine ⟨_, rfl, _, rfl, D, _, _, _, rfl, rfl, rf1.sq, atI_range qn, .inl ⟨rfl, _, SqL.of row2⟩, _, rfl, g q', zs (R q'), (p : Int), (R q').idxOf p, rfl, rfl, by rw [← nVs_zs]; exact row2, z2.1, z2.2, ?_⟩
      rw [zs_erase, ← nVs_zs]
      have rf2 := rf1.put qn ((R q').erase p)
      have k2 : Kp [] H (upd H1 (g q') (.lst (nVs ((R q').erase p)))) := k1.own (hg q' qn).2.2
      exact ⟨_, rfl, q _ D g k2 ⟨rf2, hD, fun j hj => (hg j hj).2.2⟩⟩
theorem sc_l_three_tied : FnScope ["_law_rows", "_law_q", "_law_p"] ["_law_rows"] (defScope s_l_three_tied) := ⟨rfl, rfl, rfl, by decide +kernel, rfl, by decide +kernel, by decide +kernel⟩
def sp_ltt : Sp := fun vs H Q _ => ∃ (a : Addr) (n : Nat) (R : Rows) (f : Nat → Addr), vs = [.ref a] ∧ RowsF H a n R f ∧ Web n R ∧ 3 ≤ n ∧ n ≤ 9 ∧ ∀ H' b, Kp [] H H' → (b = true → Tied n R) → Q (.bl b) H'
theorem way_lt {n : Nat} {R : Rows} (W : Web n R) {G G' : Nat → Prop} (h : ∀ z, z < n → G' z → G z) {x y : Nat} (wy : Way R G x y) : Way R G' x y := by
  induction wy with
  | here => exact .here
  | @on y z _ hz hg ih => exact ih.on hz fun e => hg (h z (W.lt2 hz) e)
theorem tied_of {n : Nat} {R : Rows} (W : Web n R) (h3 : 3 ≤ n) (h : ∀ q p, q < n → p ≤ q → Conn n R fun x => x ∈ [p, q]) : Tied n R := by
  intro a b x y hx hy gx gy
  by_cases ha : a < n
  · by_cases hb : b < n
    · by_cases hab : a ≤ b
      · exact way_lt W (fun z _ e => by rcases e with e | e <;> simp [e]) (h b a hb hab x y hx hy (fun e => gx (by simpa using e)) (fun e => gy (by simpa using e)))
      · exact way_lt W (fun z _ e => by rcases e with e | e <;> simp [e]) (h a b ha (by omega) x y hx hy (fun e => gx (by simp at e; exact e.symm)) (fun e => gy (by simp at e; exact e.symm)))
    · exact way_lt W (fun z hz e => by
        rcases e with e | e
        · simp [e]
        · omega) (h a a ha (Nat.le_refl _) x y hx hy (fun e => gx (by simp at e; exact .inl e)) (fun e => gy (by simp at e; exact .inl e)))
  · by_cases hb : b < n
    · exact way_lt W (fun z hz e => by
        rcases e with e | e
        · omega
        · simp [e]) (h b b hb (Nat.le_refl _) x y hx hy (fun e => gx (by simp at e; exact .inr e)) (fun e => gy (by simp at e; exact .inr e)))
    · obtain ⟨c, c3, cx, cy⟩ := third x y
      exact way_lt W (fun z hz e => by
        rcases e with e | e <;> omega) (h c c (by omega) (Nat.le_refl _) x y hx hy (fun e => cx (by simp at e; exact e.symm)) (fun e => cy (by simp at e; exact e.symm)))
theorem ok_ltt (T : Txt K mg) : Ok P w K mg base 2 "_law_three_tied" ["_law_rows"] sp_ltt := by
  have O_l_hangs : Ok P w K mg base 1 "_law_hangs" ["_law_rows", "_law_gone"] sp_lhangs := ok_lhangs T
  refine def_ok T 44 rfl rfl sc_l_three_tied (fun _ _ _ _ _ _ us hl => match us, hl with | [_], _ => rfl) (fun vs H Q E h => ?_) (fun cdv A outer s H vs Q E hr h => ?_)
  · obtain ⟨_, _, _, _, rfl, _⟩ := h
    rfl
  · obtain ⟨a, n, R, f, rfl, rf, W, n3, n9, q⟩ := h
    refine ⟨_, (pss_cons (ps_for PassesOwn.never rfl (pi_range1 (by rfl) T.z_range (pa_cons (pe_callB call_lenH (by rfl) T.z_len (by decide +kernel) (pa_cons (pv 0) pa_nil)) pa_nil)) (pg_name (i := 1) sc_l_three_tied.nd rfl (by first | exact .inl rfl | exact .inr rfl)) (pss_one (ps_for PassesOwn.never rfl (pi_range1 (by rfl) T.z_range (pa_cons (pe_op op_add (pv 1) pe_int) pa_nil)) (pg_name (i := 2) sc_l_three_tied.nd rfl (by first | exact .inl rfl | exact .inr rfl)) (pss_one (ps_if (pt_not (pt_val (pe_f O_l_hangs hr (by rfl) (pa_cons (pv 0) (pa_cons (pe_tup (pa_cons (pv 2) (pa_cons (pv 1) pa_nil))) pa_nil))))) (pss_one (ps_ret pe_bl)) pss_nil)))))
      (pss_one (ps_ret pe_bl))), ?_⟩
    have ln : ((List.range n).map fun p => V.ref (f p)).length = n := by rw [List.length_map, List.length_range]
    refine ⟨_, rfl, a, _, rfl, rf.sq, _, rfl, by omega, by omega, ?_⟩
    rw [ln, show ((n : Nat) : Int).toNat = n by omega]
    refine for_range (lo := 0) (n := n) (fun i σ G => ∃ v1 v2, σ = [some (.ref a), v1, v2] ∧ Kp [] H G ∧ ∀ q p, q < i → p ≤ q → Conn n R fun x => x ∈ [p, q]) ⟨_, _, rfl, Kp.refl, fun q p hq => absurd hq (Nat.not_lt_zero _)⟩ (fun i σ G hi h => ?_) (fun σ G h => ?_)
    · obtain ⟨v1, v2, rfl, kG, ok⟩ := h
      rw [show (0 : Int) + (i : Int) = (i : Int) by omega]
      refine ⟨_, rfl, _, _, rfl, rfl, _, rfl, by omega, by omega, ?_⟩
      rw [show ((i : Int) + 1).toNat = i + 1 by omega]
      refine for_range (lo := 0) (n := i + 1) (fun j σ G => ∃ v2, σ = [some (.ref a), some (nV i), v2] ∧ Kp [] H G ∧ ∀ p, p < j → Conn n R fun x => x ∈ [p, i]) ⟨_, rfl, kG, fun p hp => absurd hp (Nat.not_lt_zero _)⟩ (fun j σ G hj h => ?_) (fun σ G h => ?_)
      · obtain ⟨v2, rfl, kG, ok2⟩ := h
        rw [show (0 : Int) + (j : Int) = (j : Int) by omega]
        refine ⟨_, rfl, nV j, rfl, _, rfl, by show 2 ≤ sizeLine; decide, fun t ht => ?_⟩
        have kt : Kp [] H (upd G t (.tup [nV j, nV i])) := kG.new' ht
        refine ⟨a, t, n, R, f, [j, i], rfl, rf.kp kt (by simp), upd_same, W, n9, by simp, fun G2 b k2 hb => ?_⟩
        refine ⟨b, rfl, ?_⟩
        cases b with
        | false =>
          refine iteT ?_
          refine q _ false (kt.trans k2) (fun e => by cases e)
        | true =>
          refine iteF ?_
          refine ⟨_, rfl, kt.trans k2, fun p hp => ?_⟩
          by_cases e : p = j
          · subst e; exact hb rfl
          · exact ok2 p (by omega)
      · obtain ⟨v2, rfl, kG, ok2⟩ := h
        refine ⟨_, _, rfl, kG, fun q p hq hp => ?_⟩
        by_cases e : q = i
        · subst e; exact ok2 p (by omega)
        · exact ok q p (by omega) hp
    · obtain ⟨v1, v2, rfl, kG, ok⟩ := h
      exact q G true kG fun _ => tied_of W n3 ok
end
end Rd
set_option Elab.async false
set_option linter.all false
set_option maxRecDepth 100000
set_option maxHeartbeats 4000000
/-! The law's webs. -/
namespace Rd
open PySem PySem.Spec PyProof.Rows L2 Gw
section
variable {P : Program} {w : World} {K : PySem.W.Frag} {mg : Str → Option Value} {base : Heap}
theorem NewR.of {H0 H G : Hp} {L : List Addr} {a : Addr} {n : Nat} {R : Rows} {f : Nat → Addr} (h : NewR H G a n R f) (k : Kp L H0 H) (d : ∀ b, b ∈ own a n f → b ∉ L) : NewR H0 G a n R f :=
  ⟨h.rf, k.fresh h.na (d a own_top), fun p hp => k.fresh (h.nf p hp) (d _ (own_row hp))⟩
theorem sc_l_tied : FnScope ["_law_pot_here", "_law_n", "_law_rows", "_law_k", "_law_p", "_law_q"] ["_law_pot_here", "_law_n"] (defScope s_l_tied) := ⟨rfl, rfl, rfl, by decide +kernel, rfl, by decide +kernel, by decide +kernel⟩
def sp_tied : Sp := fun vs H Q _ => ∃ (pA : Addr) (n : Nat), vs = [.ref pA, nV n] ∧ PotL H pA ∧ 4 ≤ n ∧ n ≤ 9 ∧ ∀ H' t R2, Kp [pA] H H' → PotL H' pA → WebT H' t n R2 → Good n R2 → Plain R2 → Q (.ref t) H'
theorem ok_tied (T : Txt K mg) : Ok P w K mg base 4 "_law_tied" ["_law_pot_here", "_law_n"] sp_tied := by
  have O_l_cornered : Ok P w K mg base 3 "_law_cornered" ["_law_pot_here", "_law_n"] sp_cornered := ok_cornered T
  have O_l_digit : Ok P w K mg base 3 "_law_digit" ["_law_pot_here", "_law_many"] sp_digit := (ok_digit T).mono (by decide)
  have O_l_step : Ok P w K mg base 3 "_law_step" ["_law_pot_here", "_law_rows"] sp_step := (ok_step T).mono (by decide)
  have O_l_three_tied : Ok P w K mg base 3 "_law_three_tied" ["_law_rows"] sp_ltt := (ok_ltt T).mono (by decide)
  have O_l_without : Ok P w K mg base 3 "_law_without" ["_law_rows", "_law_p", "_law_q"] sp_without := (ok_without T).mono (by decide)
  have O_l_web : Ok P w K mg base 3 "_law_web" ["_law_rows", "_law_names_here"] sp_web := (ok_web T).mono (by decide)
  have O_l_names : Ok P w K mg base 3 "_law_names" ["_law_pot_here", "_law_n"] sp_names := (ok_names T).mono (by decide)
  refine def_ok T 45 rfl rfl sc_l_tied (fun _ _ _ _ _ _ us hl => match us, hl with | [_, _], _ => rfl) (fun vs H Q E h => ?_) (fun cdv A outer s H vs Q E hr h => ?_)
  · obtain ⟨_, _, rfl, _⟩ := h
    rfl
  · obtain ⟨pA, n, rfl, pot, n4, n9, q⟩ := h
    refine ⟨_, (pss_cons (ps_set (i := 2) sc_l_tied.nd rfl (by first | exact .inl rfl | exact .inr rfl) (pe_f O_l_cornered hr (by rfl) (pa_cons (pv 0) (pa_cons (pv 1) pa_nil))))
      (pss_cons (ps_for PassesOwn.never rfl (pi_range1 (by rfl) T.z_range (pa_cons (pe_f O_l_digit hr (by rfl) (pa_cons (pv 0) (pa_cons (pv 1) pa_nil))) pa_nil)) (pg_name (i := 3) sc_l_tied.nd rfl (by first | exact .inl rfl | exact .inr rfl)) (pss_cons (ps_asg (pe_f O_l_step hr (by rfl) (pa_cons (pv 0) (pa_cons (pv 2) pa_nil))) (pg_tup (by rfl) (pgs_cons (pg_name (i := 4) sc_l_tied.nd rfl (by first | exact .inl rfl | exact .inr rfl)) (pgs_cons (pg_name (i := 5) sc_l_tied.nd rfl (by first | exact .inl rfl | exact .inr rfl)) pgs_nil))))
      (pss_one (ps_if (PW.pt (pw_and (pt_cmpR op_gt (pe_callB call_lenH (by rfl) T.z_len (by decide +kernel) (pa_cons (pe_ix ixH (pv 2) (pv 4) (fun _ _ => rfl)) pa_nil)) pe_int (nomark _)) (pw_and (pt_cmpR op_gt (pe_callB call_lenH (by rfl) T.z_len (by decide +kernel) (pa_cons (pe_ix ixH (pv 2) (pv 5) (fun _ _ => rfl)) pa_nil)) pe_int (nomark _)) (pw_and1 (pt_val (pe_f O_l_three_tied hr (by rfl) (pa_cons (pe_f O_l_without hr (by rfl) (pa_cons (pv 2) (pa_cons (pv 4) (pa_cons (pv 5) pa_nil)))) pa_nil))))))) (pss_one (ps_set (i := 2) sc_l_tied.nd rfl (by first | exact .inl rfl | exact .inr rfl) (pe_f O_l_without hr (by rfl) (pa_cons (pv 2) (pa_cons (pv 4) (pa_cons (pv 5) pa_nil)))))) pss_nil))))
      (pss_one (ps_ret (pe_f O_l_web hr (by rfl) (pa_cons (pv 2) (pa_cons (pe_f O_l_names hr (by rfl) (pa_cons (pv 0) (pa_cons (pv 1) pa_nil))) pa_nil))))))), ?_⟩
    refine ⟨_, rfl, _, rfl, pA, n, rfl, pot, by omega, n9, fun H1 a R f k1 p1 nr C => ?_⟩
    refine ⟨_, rfl, _, rfl, pA, _, rfl, p1, by omega, by omega, fun H2 v k2 p2 hv => ?_⟩
    have k12 := k1.trans k2
    refine ⟨_, rfl, by omega, by omega, ?_⟩
    refine for_range (lo := 0) (fun i σ G => ∃ a R f v3 v4 v5, σ = [some (.ref pA), some (nV n), some (.ref a), v3, v4, v5] ∧ Kp [pA] H G ∧ PotL G pA ∧ NewR H G a n R f ∧ Net n R) ⟨a, R, f, _, _, _, rfl, k12, p2, nr.kp k2 pot, C.net⟩ (fun i σ G hi h => ?_) (fun σ G h => ?_)
    · obtain ⟨a, R, f, v3, v4, v5, rfl, kG, pG, nr, N⟩ := h
      have W := N.toWeb
      refine ⟨_, rfl, _, rfl, pA, a, n, R, f, rfl, pG, nr.rf, nr.pot pot, by omega, by omega, fun p hp => ⟨N.full p hp, by have := row_le W n9 p hp; omega⟩, fun G1 t p q' kS pS pn hq ht => ?_⟩
      have nr1 := nr.kp kS pot
      have kG1 := kG.trans kS
      have qn := W.lt2 hq
      refine ⟨t, _, rfl, SqT.of ht, rfl, _, _, rfl, _, _, rfl, rfl, ?_⟩
      refine ⟨_, rfl, _, rfl, a, _, _, _, rfl, rfl, nr1.rf.sq, atI_range pn, f p, _, rfl, .inl (nr1.rf.row p pn), _, _, rfl, rfl, _, rfl, ?_⟩
      rw [List.length_map]
      by_cases g1 : 3 < (R p).length
      · rw [decide_eq_true (show (3 : Int) < ((R p).length : Int) by omega)]
        refine iteT ?_
        refine ⟨_, rfl, _, rfl, a, _, _, _, rfl, rfl, nr1.rf.sq, atI_range qn, f q', _, rfl, .inl (nr1.rf.row q' qn), _, _, rfl, rfl, _, rfl, ?_⟩
        rw [List.length_map]
        by_cases g2 : 3 < (R q').length
        · rw [decide_eq_true (show (3 : Int) < ((R q').length : Int) by omega)]
          refine iteT ?_
          refine ⟨_, rfl, _, rfl, _, rfl, a, n, R, f, p, q', rfl, nr1.rf, W, n9, hq, fun G2 a2 f2 kW nw => ?_⟩
          refine ⟨a2, n, _, f2, rfl, nw.rf, cut_web W hq, by omega, n9, fun G3 b kT hb => ?_⟩
          refine ⟨b, rfl, ?_⟩
          have kWT := kW.trans kT
          have nr3 : NewR H G3 a n R f := ⟨nr1.rf.kp kWT (by simp), nr1.na, nr1.nf⟩
          have p3 := pS.kp kWT (by simp)
          have k3 : Kp [pA] H G3 := kG1.trans kWT.nil
          cases b with
          | false =>
            refine iteF ?_
            exact ⟨a, R, f, _, _, _, rfl, k3, p3, nr3, N⟩
          | true =>
            refine iteT ?_
            have ti := hb rfl
            refine ⟨_, rfl, _, rfl, _, rfl, a, n, R, f, p, q', rfl, nr3.rf, W, n9, hq, fun G4 a4 f4 kW4 nw4 => ?_⟩
            refine ⟨a4, _, f4, _, _, _, rfl, k3.trans kW4.nil, p3.kp kW4 (by simp), nw4.of k3 fun b hb e => ?_, N.cut hq g1 g2 ti⟩
            obtain ⟨x, y, e2, _⟩ := p3
            rw [← List.mem_singleton.mp e, nw4.off b hb] at e2
            cases e2
        · rw [decide_eq_false (show ¬ (3 : Int) < ((R q').length : Int) by omega)]
          refine iteF ?_
          refine iteF ?_
          exact ⟨a, R, f, _, _, _, rfl, kG1, pS, nr1, N⟩
      · rw [decide_eq_false (show ¬ (3 : Int) < ((R p).length : Int) by omega)]
        refine iteF ?_
        refine iteF ?_
        exact ⟨a, R, f, _, _, _, rfl, kG1, pS, nr1, N⟩
    · obtain ⟨a, R, f, v3, v4, v5, rfl, kG, pG, nr, N⟩ := h
      have W := N.toWeb
      refine ⟨_, rfl, _, rfl, _, rfl, pA, n, rfl, pG, by omega, fun G1 p l kN pN hp0 hp pm => ?_⟩
      have nr1 := nr.kp kN pot
      refine ⟨a, p, n, R, f, l, rfl, nr1.rf, hp, pm, n9, fun x hx => ⟨N.full x hx, by have := row_le W n9 x hx; omega, fun y hy => W.lt2 hy⟩, fun G2 t R2 kW wt rows out => ?_⟩
      have ll : l.length = n := by rw [pm.length_eq, List.length_range]
      have lnd : l.Nodup := pm.nodup_iff.mpr List.nodup_range
      have ren : Ren n R R2 (nm l) false := {
        lt := fun x hx => List.mem_range.mp (pm.mem_iff.mp (List.mem_of_getElem? (nm_get (l := l) (p := x) (by omega))))
        inj := fun x y hx hy e => by
          refine (List.getElem?_inj (by omega) lnd).mp ?_
          rw [nm_get (by omega), nm_get (by omega), e]
        sur := fun y hy => by
          have ym : y ∈ l := pm.mem_iff.mpr (List.mem_range.mpr hy)
          have il := List.idxOf_lt_length_iff.mpr ym
          refine ⟨l.idxOf y, by omega, ?_⟩
          have := nm_get il
          rw [List.getElem?_eq_getElem il, List.getElem_idxOf il] at this
          exact (Option.some.inj this).symm
        row := rows
        out := out }
      exact q G2 t R2 ((kG.trans kN).trans kW.nil) (pN.kp kW (by simp)) wt (ren.good N.good) (ren.plain W N.plain)
end
end Rd
set_option Elab.async false
set_option linter.all false
set_option maxRecDepth 100000
set_option maxHeartbeats 4000000
/-! The law's faces. -/
namespace Rd
open PySem PySem.Spec PyProof.Rows L2 Gw
section
variable {P : Program} {w : World} {K : PySem.W.Frag} {mg : Str → Option Value} {base : Heap}
theorem sc_l_face : FnScope ["_law_web_here", "_law_step_here", "_law_p", "_law_q", "_law_found"] ["_law_web_here", "_law_step_here"] (defScope s_l_face) := ⟨rfl, rfl, rfl, by decide +kernel, rfl, by decide +kernel, by decide +kernel⟩
def sp_face : Sp := fun vs H Q _ => ∃ (a b : Addr) (n : Nat) (R : Rows) (s : S), vs = [.ref a, .ref b] ∧ WebT H a n R ∧ H b = some (stO s) ∧ Web n R ∧ n ≤ 9 ∧ stp R s ∧ ∀ H' p t, Kp [] H H' → H' p = some (tuO ((s :: t).map (·.1))) → Cyc R (s :: t) → Q (.ref p) H'
theorem eqv_nil (l : List Nat) : PyData.eqv (.list ((zs l).map .int)) (.list []) = decide (l = []) := by
  cases l <;> rfl
theorem ok_face (T : Txt K mg) : Ok P w K mg base 1 "_law_face" ["_law_web_here", "_law_step_here"] sp_face := by
  refine def_ok T 46 rfl rfl sc_l_face (fun _ _ _ _ _ _ us hl => match us, hl with | [_, _], _ => rfl) (fun vs H Q E h => ?_) (fun cdv A outer s H vs Q E hr h => ?_)
  · obtain ⟨_, _, _, _, _, rfl, _⟩ := h
    rfl
  · obtain ⟨a, b, n, R, st, rfl, hw, hb, W, hn, hst, q⟩ := h
    have hu64 : (A.deeper (envOfC "_law_face" (defScope s_l_face) s.heap.objs.size (He.ga K "_law_face") cdv)).units + 64 < cLine := Nat.lt_of_le_of_lt (Nat.add_le_add_left (by decide) _) (units200 hr)
    refine ⟨_, (pss_cons (ps_asg (pv 1) (pg_tup (by rfl) (pgs_cons (pg_name (i := 2) sc_l_face.nd rfl (by first | exact .inl rfl | exact .inr rfl)) (pgs_cons (pg_name (i := 3) sc_l_face.nd rfl (by first | exact .inl rfl | exact .inr rfl)) pgs_nil))))
      (pss_cons (ps_set (i := 4) sc_l_face.nd rfl (by first | exact .inl rfl | exact .inr rfl) (pe_lst pa_nil))
      (pss_cons (ps_while PassesOwn.never (PW.pt (pw_or (pt_cmpR (op_neH hu64) (pe_tup (pa_cons (pv 2) (pa_cons (pv 3) pa_nil))) (pv 1) (nomark _)) (pw_or1 (pt_cmpR (op_eqH hu64) (pv 4) (pe_lst pa_nil) (nomark _))))) (pss_cons (ps_expr (pe_bm PySem.F.plainAttrs_list PySem.F.slot_list_append PySem.F.type_list_append mt_append (pv 4) (pa_cons (pv 2) pa_nil)))
      (pss_one (ps_par (i := 2) (j := 3) (by rfl) sc_l_face.nd rfl rfl (by decide) rfl rfl (pa_cons (pv 3) (pa_cons (pe_ix ixH (pe_ix ixH (pv 0) (pv 3) (fun _ _ => rfl)) (pe_op op_sub (pe_tix (pe_ix ixH (pv 0) (pv 3) (fun _ _ => rfl)) (pa_cons (pv 2) pa_nil)) pe_int) (fun _ _ => rfl)) pa_nil)) (by rfl)))))
      (pss_one (ps_ret (pe_callTy call_tupH (by rfl) T.z_tuple (by decide +kernel) (pa_cons (pv 4) pa_nil))))))), ?_⟩
    obtain ⟨fr, hw1, hw2⟩ := id hw
    refine ⟨_, rfl, b, _, rfl, SqT.of hb, rfl, _, _, rfl, _, _, rfl, rfl, ?_⟩
    refine ⟨by show 0 ≤ sizeLine; decide, fun f hf => ?_⟩
    refine while_by (fun σ G => ∃ (ls : List S) (h : S), σ = [some (.ref a), some (.ref b), some (nV h.1), some (nV h.2), some (.ref f)] ∧ Kp [] H G ∧ G f = some (.lst (nVs (ls.map (·.1)))) ∧ stp R h ∧ ((ls = [] ∧ h = st) ∨ ∃ t, ls = st :: t ∧ lnk (phi R) (st :: t) h ∧ (st :: t).Nodup ∧ ∀ x, x ∈ st :: t → stp R x))
      (fun σ G => total n R + 1 - (match G f with | some (.lst xs) => xs.length | _ => 0)) ⟨[], st, rfl, Kp.new hf, upd_same, hst, .inl ⟨rfl, rfl⟩⟩ ?_ (fun σ H Q Q' k h => ?_)
    · rintro σ G ⟨ls, h, rfl, kG, hfG, hsh, cs⟩
      have tl := total_le W hn
      have lls : ls.length ≤ 81 := by
        rcases cs with ⟨e, _⟩ | ⟨t, e, _, nd, sts⟩
        · subst e; simp
        · subst e
          have := path_le W nd sts
          omega
      refine ⟨_, rfl, _, rfl, by show 2 ≤ sizeLine; decide, fun t1 ht1 => ?_⟩
      have k1 : Kp [] H (upd G t1 (stO h)) := kG.new' ht1
      have hf1 : upd G t1 (stO h) f = some (.lst (nVs (ls.map (·.1)))) := by rw [upd_ne (ne_of_none hfG ht1)]; exact hfG
      refine ⟨_, rfl, stD h, stD st, dd_st (t := t1) (upd_same (H := G) (o := stO h)), dd_st (k1.same _ _ hb), _, rfl, ?_⟩
      rw [stD_eqv]
      by_cases e : h = st
      · subst e
        rw [decide_eq_true rfl]
        refine iteF ?_
        refine ⟨_, rfl, by show 0 ≤ sizeLine; decide, fun t2 ht2 => ?_⟩
        have k2 := k1.new' (o := .lst []) ht2
        have hf2 : upd (upd G t1 (stO h)) t2 (.lst []) f = some (.lst (nVs (ls.map (·.1)))) := by rw [upd_ne (ne_of_none hf1 ht2)]; exact hf1
        refine ⟨_, _, dd_nVs hf2 (by rw [List.length_map]; omega), dd_lnil upd_same, _, rfl, ?_⟩
        rw [eqv_nil]
        rcases cs with ⟨el, _⟩ | ⟨t, el, lk, nd, sts⟩
        · subst el
          rw [decide_eq_true (show ([] : List S).map (·.1) = [] from rfl)]
          refine iteT ?_
          generalize upd (upd G t1 (stO h)) t2 (.lst []) = G2 at k2 hf2 ⊢
          refine ⟨_, rfl, .inl ⟨rfl, _, SqL.of hf2⟩, _, rfl, f, _, _, rfl, rfl, hf2, by show 0 < sizeLine; decide, ?_⟩
          have k3 := k2.own (o := .lst (nVs (([] : List S).map (·.1)) ++ [nV h.1])) hf
          have qn := W.lt2 hst
          have hp := W.sym _ _ hst
          have hrow : FzT (upd G2 f (.lst (nVs (([] : List S).map (·.1)) ++ [nV h.1]))) (fr h.2) ((zs (R h.2)).map V.int) := by
            rw [← nVs_zs]
            exact (hw2 h.2 qn).kp k3 (by simp)
          refine ⟨_, rfl, _, rfl, _, rfl, a, _, _, _, rfl, rfl, .inr (.inl (k3.same _ _ hw1)), atI_range qn, _, rfl, _, rfl, a, _, _, _, rfl, rfl, .inr (.inl (k3.same _ _ hw1)), atI_range qn, fr h.2, zs (R h.2), rfl, hrow, _, rfl, _, rfl, hrow, zs_mem.mpr hp, ?_⟩
          rw [zs_idx]
          refine ⟨_, _, rfl, rfl, fr h.2, _, _, _, rfl, rfl, ((hw2 h.2 qn).kp k3 (by simp)).sq, atI_prv hp, _, _, rfl, ?_⟩
          refine ⟨⟨[h], phi R h, rfl, k3, by rw [upd_same]; rfl, W.phi_stp hst, .inr ⟨[], rfl, ⟨rfl, trivial⟩, by simp, fun x hx => by rw [List.mem_singleton.mp hx]; exact hst⟩⟩, ?_⟩
          show total n R + 1 - (match upd G2 f _ f with | some (.lst xs) => xs.length | _ => 0) < total n R + 1 - (match G f with | some (.lst xs) => xs.length | _ => 0)
          rw [upd_same, hfG]
          have : 0 < total n R := by
            rw [← len_stepsOf]
            exact List.length_pos_iff.mpr (List.ne_nil_of_mem ((mem_stepsOf W h).mpr hst))
          show total n R + 1 - 1 < total n R + 1 - 0
          omega
        · subst el
          rw [decide_eq_false (show ¬ (h :: t).map (·.1) = [] by simp)]
          refine iteF ?_
          refine ⟨_, rfl, f, _, rfl, hf2, fun p hp => ?_⟩
          exact q _ p t (k2.new' hp) upd_same ⟨by simp, nd, sts, lk⟩
      · rw [decide_eq_false e]
        refine iteT ?_
        rcases cs with ⟨_, e2⟩ | ⟨t, el, lk, nd, sts⟩
        · exact absurd e2 e
        · subst el
          obtain ⟨g1, g2, g3⟩ := W.grow lk nd sts e
          have nd' : (st :: (t ++ [h])).Nodup := by
            rw [← List.cons_append]
            refine List.nodup_append.mpr ⟨nd, by simp, fun x hx y hy e => ?_⟩
            rw [List.mem_singleton.mp hy] at e
            exact g1 (e ▸ hx)
          have st' : ∀ x, x ∈ st :: (t ++ [h]) → stp R x := fun x hx => by
            rw [← List.cons_append] at hx
            rcases List.mem_append.mp hx with z | z
            · exact sts x z
            · rw [List.mem_singleton.mp z]; exact g2
          have le := path_le W nd' st'
          have l2 : (st :: (t ++ [h])).length = (st :: t).length + 1 := by simp
          generalize upd G t1 (stO h) = G2 at k1 hf1 ⊢
          refine ⟨_, rfl, .inl ⟨rfl, _, SqL.of hf1⟩, _, rfl, f, _, _, rfl, rfl, hf1, by rw [List.length_map, List.length_map, sizeLine_eq]; omega, ?_⟩
          have k3 := k1.own (o := .lst (nVs ((st :: t).map (·.1)) ++ [nV h.1])) hf
          have qn := W.lt2 g2
          have hp := W.sym _ _ g2
          have hrow : FzT (upd G2 f (.lst (nVs ((st :: t).map (·.1)) ++ [nV h.1]))) (fr h.2) ((zs (R h.2)).map V.int) := by
            rw [← nVs_zs]
            exact (hw2 h.2 qn).kp k3 (by simp)
          refine ⟨_, rfl, _, rfl, _, rfl, a, _, _, _, rfl, rfl, .inr (.inl (k3.same _ _ hw1)), atI_range qn, _, rfl, _, rfl, a, _, _, _, rfl, rfl, .inr (.inl (k3.same _ _ hw1)), atI_range qn, fr h.2, zs (R h.2), rfl, hrow, _, rfl, _, rfl, hrow, zs_mem.mpr hp, ?_⟩
          rw [zs_idx]
          refine ⟨_, _, rfl, rfl, fr h.2, _, _, _, rfl, rfl, ((hw2 h.2 qn).kp k3 (by simp)).sq, atI_prv hp, _, _, rfl, ?_⟩
          refine ⟨⟨st :: (t ++ [h]), phi R h, rfl, k3, by rw [upd_same]; simp [nVs], W.phi_stp g2, .inr ⟨t ++ [h], rfl, g3, nd', st'⟩⟩, ?_⟩
          show total n R + 1 - (match upd G2 f _ f with | some (.lst xs) => xs.length | _ => 0) < total n R + 1 - (match G f with | some (.lst xs) => xs.length | _ => 0)
          rw [upd_same, hfG]
          simp only [List.length_append, List.length_map, List.length_singleton]
          omega
    · obtain ⟨v, e1, v2, e2, le, h⟩ := h
      refine ⟨v, e1, v2, e2, le, fun t ht => ?_⟩
      obtain ⟨v3, e3, d, e, h1, h2, b, eb, h⟩ := h t ht
      refine ⟨v3, e3, d, e, h1, h2, b, eb, ?_⟩
      cases b with
      | true => exact k _ _ h
      | false =>
        obtain ⟨v4, e4, le2, h⟩ := (show ∃ v4, _ ∧ _ from h)
        refine (show ∃ v4, _ ∧ _ from ⟨v4, e4, le2, fun t2 ht2 => ?_⟩)
        obtain ⟨d2, e5, h3, h4, b2, eb2, h⟩ := h t2 ht2
        exact ⟨d2, e5, h3, h4, b2, eb2, k _ _ h⟩
/-! ### all faces -/
def pv' (l : List Nat) (m : Nat) : Nat := l.getD (if m = 0 then l.length - 1 else m - 1) 0
theorem prs_mem {l : List Nat} {s : S} : s ∈ prs l ↔ ∃ m, m < l.length ∧ s = (pv' l m, l.getD m 0) := by
  have get : ∀ i, i < l.length → (prs l)[i]? = some (l.getD i 0, l.getD (if i + 1 < l.length then i + 1 else 0) 0) := by
    intro i hi
    unfold prs
    rw [List.getElem?_zip_eq_some]
    constructor
    · rw [List.getD_eq_getElem?_getD, List.getElem?_eq_getElem hi]; rfl
    · by_cases h : i + 1 < l.length
      · rw [if_pos h, List.getElem?_append_left (by rw [List.length_drop]; omega), List.getElem?_drop, show 1 + i = i + 1 by omega, List.getElem?_eq_getElem h]
        show _ = some (l.getD (i + 1) 0)
        rw [List.getD_eq_getElem?_getD, List.getElem?_eq_getElem h]
        rfl
      · rw [if_neg h, List.getElem?_append_right (by rw [List.length_drop]; omega), List.length_drop, List.getElem?_take, if_pos (by omega), show i - (l.length - 1) = 0 by omega, List.getElem?_eq_getElem (by omega)]
        show _ = some (l.getD 0 0)
        rw [List.getD_eq_getElem?_getD, List.getElem?_eq_getElem (by omega)]
        rfl
  have len : (prs l).length = l.length := by
    unfold prs
    rw [List.length_zip, List.length_append, List.length_drop, List.length_take]
    omega
  constructor
  · intro h
    obtain ⟨i, hi⟩ := List.mem_iff_getElem?.mp h
    have il := (List.getElem?_eq_some_iff.mp hi).1
    rw [len] at il
    rw [get i il] at hi
    obtain rfl := Option.some.inj hi
    by_cases h : i + 1 < l.length
    · refine ⟨i + 1, h, ?_⟩
      rw [if_pos h]
      unfold pv'
      rw [if_neg (by omega), show i + 1 - 1 = i by omega]
    · refine ⟨0, by omega, ?_⟩
      rw [if_neg h]
      unfold pv'
      rw [if_pos rfl, show l.length - 1 = i by omega]
  · rintro ⟨m, hm, rfl⟩
    refine List.mem_iff_getElem?.mpr ?_
    by_cases h : m = 0
    · subst h
      refine ⟨l.length - 1, ?_⟩
      rw [get _ (by omega), if_neg (by omega)]
      unfold pv'
      rw [if_pos rfl]
    · refine ⟨m - 1, ?_⟩
      rw [get _ (by omega), if_pos (by omega), show m - 1 + 1 = m by omega]
      unfold pv'
      rw [if_neg h]
theorem atI_pv {l : List Nat} {m : Nat} (h : m < l.length) : atI (nVs l) ((m : Int) - 1) = some (nV (pv' l m)) := by
  rw [atI_prev h]
  congr 2
  unfold pv'
  by_cases h0 : m = 0
  · subst h0
    simp only [if_true]
    rw [List.getD_eq_getElem?_getD, List.getElem?_eq_getElem (by omega)]
    rfl
  · simp only [h0, if_false]
    rw [List.getD_eq_getElem?_getD, List.getElem?_eq_getElem (by omega)]
    rfl
theorem zs_perm {ns : List Int} {l : List Nat} (h : ns.Perm (zs l)) : ∃ qs : List Nat, qs.Perm l ∧ ns = zs qs := by
  refine ⟨ns.map Int.toNat, ?_, ?_⟩
  · have := h.map Int.toNat
    have e : (zs l).map Int.toNat = l := by
      unfold zs
      rw [List.map_map]
      have : (Int.toNat ∘ fun (q : Nat) => (q : Int)) = id := by funext q; simp
      rw [this, List.map_id]
    rwa [e] at this
  · unfold zs
    rw [List.map_map]
    conv => lhs; rw [← List.map_id ns]
    refine List.map_congr_left fun x hx => ?_
    obtain ⟨q, _, e⟩ := List.mem_map.mp (h.mem_iff.mp hx)
    show x = ((x.toNat : Nat) : Int)
    omega
/-- what the law's walk over the steps has done -/
structure FD (R : Rows) (G : Hp) (d f : Addr) (cs : List (List S)) (ls : List (List Nat)) (ts : List Addr) (kvs : List (List Key × V)) : Prop where
  fl : G f = some (.lst (ts.map V.ref))
  sd : G d = some (.dT kvs)
  ob : Objs G tuO ts ls
  cyc : Cycs R cs
  tld : Paired (fun c l => Cyc R c ∧ Told R c l) cs ls
  len : kvs.length ≤ cs.flatten.length
  key : ∀ s : S, (valV kvs (stK s.1 s.2)).isSome = true ↔ s ∈ cs.flatten
theorem FD.kp {R : Rows} {G G' : Hp} {d f : Addr} {cs : List (List S)} {ls : List (List Nat)} {ts : List Addr} {kvs : List (List Key × V)} (h : FD R G d f cs ls ts kvs) (k : Kp [] G G') : FD R G' d f cs ls ts kvs :=
  ⟨k.same _ _ h.fl, k.same _ _ h.sd, h.ob.kp k, h.cyc, h.tld, h.len, h.key⟩
theorem sc_l_faces : FnScope ["_law_web_here", "_law_seen", "_law_found", "_law_p", "_law_row", "_law_q", "_law_face_here", "_law_k"] ["_law_web_here"] (defScope s_l_faces) := ⟨rfl, rfl, rfl, by decide +kernel, rfl, by decide +kernel, by decide +kernel⟩
def sp_faces2 : Sp := fun vs H Q _ => ∃ (a : Addr) (n : Nat) (R : Rows), vs = [.ref a] ∧ WebT H a n R ∧ Web n R ∧ 0 < n ∧ n ≤ 9 ∧ R 0 ≠ [] ∧ ∀ H' p ts ls, Kp [] H H' → H' p = some (.lst (ts.map V.ref)) → Objs H' tuO ts ls → ls ≠ [] → ls.length ≤ 81 → (∀ l, l ∈ ls → ∃ c, Cyc R c ∧ Told R c l) → Q (.ref p) H'
theorem ok_faces2 (T : Txt K mg) : Ok P w K mg base 2 "_law_faces" ["_law_web_here"] sp_faces2 := by
  have O_l_face : Ok P w K mg base 1 "_law_face" ["_law_web_here", "_law_step_here"] sp_face := ok_face T
  refine def_ok T 47 rfl rfl sc_l_faces (fun _ _ _ _ _ _ us hl => match us, hl with | [_], _ => rfl) (fun vs H Q E h => ?_) (fun cdv A outer s H vs Q E hr h => ?_)
  · obtain ⟨_, _, _, rfl, _⟩ := h
    rfl
  · obtain ⟨a, n, R, rfl, hw, W, n0, hn, ne0, q⟩ := h
    have hu : (A.deeper (envOfC "_law_faces" (defScope s_l_faces) s.heap.objs.size (He.ga K "_law_faces") cdv)).units + 1 < cLine := Nat.lt_of_le_of_lt (Nat.add_le_add_left (by decide) _) (units200 hr)
    refine ⟨_, (pss_cons (ps_set (i := 1) sc_l_faces.nd rfl (by first | exact .inl rfl | exact .inr rfl) pe_dnewT)
      (pss_cons (ps_set (i := 2) sc_l_faces.nd rfl (by first | exact .inl rfl | exact .inr rfl) (pe_lst pa_nil))
      (pss_cons (ps_for PassesOwn.never rfl (pi_enumT (by rfl) T.z_enumerate (pa_cons (pv 0) pa_nil)) (pg_tup (by rfl) (pgs_cons (pg_name (i := 3) sc_l_faces.nd rfl (by first | exact .inl rfl | exact .inr rfl)) (pgs_cons (pg_name (i := 4) sc_l_faces.nd rfl (by first | exact .inl rfl | exact .inr rfl)) pgs_nil))) (pss_one (ps_for PassesOwn.never rfl (pi_list (pe_callB cr_sortedTI (by rfl) T.z_sorted (by decide +kernel) (pa_cons (pv 4) pa_nil))) (pg_name (i := 5) sc_l_faces.nd rfl (by first | exact .inl rfl | exact .inr rfl)) (pss_one (ps_if (pt_cmp (pc_dnotin hu (pe_tup (pa_cons (pv 3) (pa_cons (pv 5) pa_nil))) (pv 1))) (pss_cons (ps_set (i := 6) sc_l_faces.nd rfl (by first | exact .inl rfl | exact .inr rfl) (pe_f O_l_face hr (by rfl) (pa_cons (pv 0) (pa_cons (pe_tup (pa_cons (pv 3) (pa_cons (pv 5) pa_nil))) pa_nil))))
      (pss_cons (ps_for PassesOwn.never rfl (pi_range1 (by rfl) T.z_range (pa_cons (pe_callB call_lenH (by rfl) T.z_len (by decide +kernel) (pa_cons (pv 6) pa_nil)) pa_nil)) (pg_name (i := 7) sc_l_faces.nd rfl (by first | exact .inl rfl | exact .inr rfl)) (pss_one (ps_dput hu (pv 1) (pe_tup (pa_cons (pe_ix ixH (pv 6) (pe_op op_sub (pv 7) pe_int) (fun _ _ => rfl)) (pa_cons (pe_ix ixH (pv 6) (pv 7) (fun _ _ => rfl)) pa_nil))) pe_bl rfl)))
      (pss_one (ps_expr (pe_bm PySem.F.plainAttrs_list PySem.F.slot_list_append PySem.F.type_list_append mt_append (pv 2) (pa_cons (pv 6) pa_nil)))))) pss_nil)))))
      (pss_one (ps_ret (pv 2)))))), ?_⟩
    obtain ⟨fr, hw1, hw2⟩ := id hw
    refine fun d hd => ?_
    refine ⟨by show 0 ≤ sizeLine; decide, fun f hf => ?_⟩
    have hfd : d ≠ f := ne_of_none upd_same hf
    have k0 : Kp [] H (upd (upd H d (.dT [])) f (.lst [])) := (Kp.new hd).new' hf
    have hfH : H f = none := (Kp.new hd).free hf
    refine ⟨_, rfl, a, _, rfl, k0.same _ _ hw1, ?_⟩
    refine for_enumT (a := a) (xs := (List.range n).map fun p => V.ref (fr p)) (fun i σ G => ∃ cs ls ts kvs v3 v4 v5 v6 v7, σ = [some (.ref a), some (.ref d), some (.ref f), v3, v4, v5, v6, v7] ∧ Kp [] H G ∧ FD R G d f cs ls ts kvs ∧ ∀ s : S, stp R s → s.1 < i → s ∈ cs.flatten)
      ⟨[], [], [], [], _, _, _, _, _, rfl, k0, ⟨upd_same, by rw [upd_ne hfd, upd_same], .nil, ⟨fun c hc => by simp at hc, by simp⟩, .nil, by simp, fun s => by simp [valV]⟩, fun s _ hs => absurd hs (Nat.not_lt_zero _)⟩ (fun i σ G h => ?_) (fun i x T' σ G hx h hT => ?_) (fun σ G h => ?_)
    · obtain ⟨_, _, _, _, _, _, _, _, _, _, k, _⟩ := h
      exact k.same _ _ hw1
    · obtain ⟨cs, ls, ts, kvs, v3, v4, v5, v6, v7, rfl, kG, fd, dn⟩ := h
      have hin : i < n := by
        have := (List.getElem?_eq_some_iff.mp hx).1
        rwa [List.length_map, List.length_range] at this
      rw [range_at hin] at hx
      obtain rfl := Option.some.inj hx
      refine ⟨T', _, rfl, SqT.of upd_same, rfl, _, _, rfl, _, _, rfl, rfl, ?_⟩
      have kG1 : Kp [] H (upd G T' (.tup [.int (i : Nat), .ref (fr i)])) := kG.new' hT
      have fd1 := fd.kp (Kp.new hT (o := .tup [.int (i : Nat), .ref (fr i)]))
      generalize upd G T' (.tup [.int (i : Nat), .ref (fr i)]) = G1 at kG1 fd1 ⊢
      have row1 : FzT G1 (fr i) ((zs (R i)).map V.int) := by
        rw [← nVs_zs]
        exact (hw2 i hin).kp kG1 (by simp)
      refine ⟨_, rfl, fr i, zs (R i), rfl, row1.rd, fun ns sA pm srt hsA => ?_⟩
      obtain ⟨qs, pm2, rfl⟩ := zs_perm pm
      rw [← nVs_zs]
      have kG2 : Kp [] H (upd G1 sA (.lst (nVs qs))) := kG1.new' hsA
      have fd2 := fd1.kp (Kp.new hsA (o := .lst (nVs qs)))
      have hs2 : upd G1 sA (.lst (nVs qs)) sA = some (.lst (nVs qs)) := upd_same
      have fsA : f ≠ sA := ne_of_none fd1.fl hsA
      generalize upd G1 sA (.lst (nVs qs)) = G2 at kG2 fd2 hs2 ⊢
      refine ⟨sA, rfl, ⟨_, SqL.of hs2⟩, ?_⟩
      refine for_list (K := K) (xs := nVs qs) (fun j σ G => ∃ cs ls ts kvs v5 v6 v7, σ = [some (.ref a), some (.ref d), some (.ref f), some (nV i), some (.ref (fr i)), v5, v6, v7] ∧ Kp [] H G ∧ G sA = some (.lst (nVs qs)) ∧ FD R G d f cs ls ts kvs ∧ (∀ s : S, stp R s → s.1 < i → s ∈ cs.flatten) ∧ ∀ m q, m < j → qs[m]? = some q → (i, q) ∈ cs.flatten)
        ⟨cs, ls, ts, kvs, _, _, _, rfl, kG2, hs2, fd2, dn, fun m q hm => absurd hm (Nat.not_lt_zero _)⟩ (fun j σ G _ h => ?_) (fun j x σ G hx h => ?_) (fun σ G h => ?_)
      · obtain ⟨_, _, _, _, _, _, _, _, _, h, _⟩ := h
        exact SqL.of h
      · obtain ⟨cs, ls, ts, kvs, v5, v6, v7, rfl, kG, hsG, fd, dn, dq⟩ := h
        rw [List.getElem?_map] at hx
        obtain ⟨q0, hq0, rfl⟩ := Option.map_eq_some_iff.mp hx
        have hqR : q0 ∈ R i := pm2.mem_iff.mp (List.mem_of_getElem? hq0)
        refine ⟨_, rfl, nV q0, rfl, by show 2 ≤ sizeLine; decide, fun t1 ht1 => ?_⟩
        have k1 : Kp [] H (upd G t1 (stO (i, q0))) := kG.new' ht1
        have fd1 := fd.kp (Kp.new ht1 (o := stO (i, q0)))
        have hs1 : upd G t1 (stO (i, q0)) sA = some (.lst (nVs qs)) := by rw [upd_ne (ne_of_none hsG ht1)]; exact hsG
        have t1o : upd G t1 (stO (i, q0)) t1 = some (stO (i, q0)) := upd_same
        refine ⟨_, rfl, d, _, rfl, DGet.t (k := stK i q0) fd1.sd t1o, _, rfl, ?_⟩
        by_cases hin2 : (i, q0) ∈ cs.flatten
        · have e := (fd1.key (i, q0)).mpr hin2
          rw [e]
          refine iteF ?_
          refine ⟨cs, ls, ts, kvs, _, _, _, rfl, k1, hs1, fd1, dn, fun m q hm hq => ?_⟩
          by_cases em : m = j
          · subst em
            rw [hq0] at hq
            obtain rfl := Option.some.inj hq
            exact hin2
          · exact dq m q (by omega) hq
        · have e : (valV kvs (stK i q0)).isSome = false := by
            rw [Bool.eq_false_iff]
            exact fun z => hin2 ((fd1.key (i, q0)).mp z)
          rw [e]
          refine iteT ?_
          generalize upd G t1 (stO (i, q0)) = G3 at k1 fd1 hs1 t1o ⊢
          refine ⟨_, rfl, _, rfl, nV q0, rfl, by show 2 ≤ sizeLine; decide, fun t2 ht2 => ?_⟩
          have k2 : Kp [] H (upd G3 t2 (stO (i, q0))) := k1.new' ht2
          refine ⟨a, t2, n, R, (i, q0), rfl, hw.kp k2, upd_same, W, hn, hqR, fun G4 fc t k4 hfc cy => ?_⟩
          have k14 := k2.trans k4
          have kk : Kp [] G3 G4 := (Kp.new ht2).trans k4
          have fd4 := fd1.kp kk
          have hs4 := kk.same _ _ hs1
          -- the least step
          have least : ∀ x, x ∈ t → lexS (i, q0) x := fun x hx => by
            have xs : stp R x := cy.st x (List.mem_cons_of_mem _ hx)
            have xn : x ∉ cs.flatten := fun hxf => by
              obtain ⟨c', hc', hxc⟩ := List.mem_flatten.mp hxf
              have := Cyc.sub cy (fd.cyc.cyc c' hc') (List.mem_cons_of_mem _ hx) hxc (i, q0) (by simp)
              exact hin2 (List.mem_flatten.mpr ⟨c', hc', this⟩)
            have h1 : ¬ x.1 < i := fun h => xn (dn x xs h)
            by_cases h2 : x.1 = i
            · refine .inr ⟨h2.symm, ?_⟩
              have xR : x.2 ∈ R i := by rw [← h2]; exact xs
              obtain ⟨m, hm⟩ := List.mem_iff_getElem?.mp (pm2.mem_iff.mpr xR)
              have h3 : ¬ m < j := fun h => xn (by
                have := dq m x.2 h hm
                have e : x = (i, x.2) := by rw [← h2]
                rw [e]; exact this)
              by_cases h4 : m = j
              · subst h4
                rw [hq0] at hm
                have := Option.some.inj hm
                show q0 ≤ x.2
                omega
              · have jl := (List.getElem?_eq_some_iff.mp hq0).1
                have ml := (List.getElem?_eq_some_iff.mp hm).1
                have := List.pairwise_iff_getElem.mp srt j m (by unfold zs; rw [List.length_map]; exact jl) (by unfold zs; rw [List.length_map]; exact ml) (by omega)
                unfold zs at this
                rw [List.getElem_map, List.getElem_map] at this
                rw [List.getElem?_eq_getElem jl] at hq0
                rw [List.getElem?_eq_getElem ml] at hm
                rw [Option.some.inj hq0, Option.some.inj hm] at this
                show q0 ≤ x.2
                omega
            · exact .inl (by show i < x.1; omega)
          have tl : Told R ((i, q0) :: t) (((i, q0) :: t).map (·.1)) := ⟨(i, q0), t, cy, fun x => Iff.rfl, least, rfl⟩
          have ep := cy.prs
          have clen := Cyc.len_le W hn cy
          generalize hlf : ((i, q0) :: t).map (·.1) = lf at hfc tl ep
          have lfl : lf.length = ((i, q0) :: t).length := by rw [← hlf, List.length_map]
          have flen := Cycs.len_le W hn fd.cyc
          refine ⟨_, rfl, fc, _, rfl, .inr (.inl hfc), _, rfl, by rw [List.length_map]; omega, by rw [List.length_map]; omega, ?_⟩
          rw [List.length_map, show ((lf.length : Nat) : Int).toNat = lf.length by omega]
          have key0 : ∀ s : S, (valV kvs (stK s.1 s.2)).isSome = true ↔ s ∈ cs.flatten ∨ ∃ k, k < 0 ∧ s = (pv' lf k, lf.getD k 0) := fun s => by
            rw [fd4.key]
            constructor
            · exact .inl
            · rintro (h | ⟨k, hk, _⟩)
              · exact h
              · exact absurd hk (Nat.not_lt_zero _)
          refine for_range (lo := 0) (n := lf.length) (fun m σ G => ∃ kvs' v7, σ = [some (.ref a), some (.ref d), some (.ref f), some (nV i), some (.ref (fr i)), some (nV q0), some (.ref fc), v7] ∧ Kp [] H G ∧ G fc = some (tuO lf) ∧ G sA = some (.lst (nVs qs)) ∧ G f = some (.lst (ts.map V.ref)) ∧ G d = some (.dT kvs') ∧ Objs G tuO ts ls ∧ kvs'.length ≤ kvs.length + m ∧
            ∀ s : S, (valV kvs' (stK s.1 s.2)).isSome = true ↔ s ∈ cs.flatten ∨ ∃ k, k < m ∧ s = (pv' lf k, lf.getD k 0)) ⟨kvs, _, rfl, k14, hfc, hs4, fd4.fl, fd4.sd, fd4.ob, Nat.le_refl _, key0⟩ (fun m σ G hm h => ?_) (fun σ G h => ?_)
          · obtain ⟨kvs', v7, rfl, kG, hfcG, hsG, hfG, hdG, obG, lk, key⟩ := h
            rw [show (0 : Int) + (m : Int) = (m : Int) by omega]
            have ag : lf[m]? = some (lf.getD m 0) := by rw [List.getD_eq_getElem?_getD, List.getElem?_eq_getElem hm]; rfl
            refine ⟨_, rfl, _, rfl, nV m, rfl, _, _, rfl, rfl, fc, _, _, _, rfl, rfl, .inr (.inl hfcG), atI_pv hm, _, rfl, nV m, rfl, fc, _, _, _, rfl, rfl, .inr (.inl hfcG), atI_nVs ag, by show 2 ≤ sizeLine; decide, fun t3 ht3 => ?_⟩
            have kk3 : Kp [] G (upd G t3 (stO (pv' lf m, lf.getD m 0))) := Kp.new ht3
            have hd3 := kk3.same _ _ hdG
            refine ⟨d, _, rfl, DPut.t (k := stK (pv' lf m) (lf.getD m 0)) hd3 upd_same (by rw [sizeLine_eq]; have := fd.len; omega), ?_⟩
            have keep : ∀ b xs, upd G t3 (stO (pv' lf m, lf.getD m 0)) b = some xs → (∀ ks, xs ≠ .dT ks) → upd (upd G t3 (stO (pv' lf m, lf.getD m 0))) d (.dT (putK kvs' (stK (pv' lf m) (lf.getD m 0)) (.bl true))) b = some xs := fun b xs e ne => by
              rw [upd_ne]
              · exact e
              · intro z
                subst z
                rw [hd3] at e
                exact ne _ (Option.some.inj e).symm
            refine ⟨_, _, rfl, (kG.trans kk3).own hd, keep _ _ (kk3.same _ _ hfcG) (fun ks z => nomatch z), keep _ _ (kk3.same _ _ hsG) (fun ks z => nomatch z), keep _ _ (kk3.same _ _ hfG) (fun ks z => nomatch z), upd_same, Paired.mapP (obG.kp kk3) (fun _ _ e => keep _ _ e (fun ks z => nomatch z)), Nat.le_trans (putK_len _ _ _) (by omega), fun s => ?_⟩
            rw [put_isSome, key]
            constructor
            · rintro (h | h | ⟨k, hk, e⟩)
              · obtain ⟨e1, e2⟩ := stK_inj h
                exact .inr ⟨m, by omega, Prod.ext e1 e2⟩
              · exact .inl h
              · exact .inr ⟨k, by omega, e⟩
            · rintro (h | ⟨k, hk, e⟩)
              · exact .inr (.inl h)
              · by_cases ek : k = m
                · subst ek
                  exact .inl (by rw [e])
                · exact .inr (.inr ⟨k, by omega, e⟩)
          · obtain ⟨kvs', v7, rfl, kG, hfcG, hsG, hfG, hdG, obG, lk, key⟩ := h
            have cyc2 : Cycs R (cs ++ [(i, q0) :: t]) := fd.cyc.add cy (List.mem_cons_self ..) hin2
            have nl := Cycs.num_le (R := R) cyc2.cyc
            have nf := Cycs.len_le W hn cyc2
            have lt2 := Paired.length fd.tld
            have lob := obG.len
            rw [List.length_append, List.length_singleton] at nl
            refine ⟨_, rfl, .inl ⟨rfl, _, SqL.of hfG⟩, _, rfl, f, _, _, rfl, rfl, hfG, by rw [List.length_map, sizeLine_eq]; omega, ?_⟩
            have fnc : fc ≠ f := fun z => by rw [z, hfG] at hfcG; cases hfcG
            have ff : (cs ++ [(i, q0) :: t]).flatten = cs.flatten ++ ((i, q0) :: t) := by simp
            refine ⟨cs ++ [(i, q0) :: t], ls ++ [lf], ts ++ [fc], kvs', _, _, _, rfl, kG.own hfH, by rw [upd_ne fsA.symm]; exact hsG, ⟨by rw [upd_same]; simp, by rw [upd_ne hfd]; exact hdG, ?_, cyc2, Paired.app fd.tld (.cons ⟨cy, tl⟩ .nil), ?_, fun s => ?_⟩, fun s hs hlt => ?_, fun m q hm hq => ?_⟩
            · refine (Objs.put obG hfG fun s => by simp).snoc ?_
              rw [upd_ne fnc]
              exact hfcG
            · rw [ff, List.length_append]
              have := fd.len
              omega
            · rw [key, ff, List.mem_append]
              have : s ∈ (i, q0) :: t ↔ ∃ k, k < lf.length ∧ s = (pv' lf k, lf.getD k 0) := by
                conv => lhs; rw [ep]
                exact prs_mem
              rw [this]
            · rw [ff]
              exact List.mem_append_left _ (dn s hs hlt)
            · rw [ff, List.mem_append]
              by_cases em : m = j
              · subst em
                rw [hq0] at hq
                obtain rfl := Option.some.inj hq
                exact .inr (by simp)
              · exact .inl (dq m q (by omega) hq)
      · obtain ⟨cs, ls, ts, kvs, v5, v6, v7, rfl, kG, hsG, fd, dn, dq⟩ := h
        rw [List.length_map] at dq
        refine ⟨cs, ls, ts, kvs, _, _, _, _, _, rfl, kG, fd, fun s hs hlt => ?_⟩
        by_cases e : s.1 = i
        · have sR : s.2 ∈ R i := by rw [← e]; exact hs
          obtain ⟨m, hm⟩ := List.mem_iff_getElem?.mp (pm2.mem_iff.mpr sR)
          have := dq m s.2 (List.getElem?_eq_some_iff.mp hm).1 hm
          have es : s = (i, s.2) := by rw [← e]
          rw [es]; exact this
        · exact dn s hs (by omega)
    · obtain ⟨cs, ls, ts, kvs, v3, v4, v5, v6, v7, rfl, kG, fd, dn⟩ := h
      rw [List.length_map, List.length_range] at dn
      have lt2 := Paired.length fd.tld
      have nl := Cycs.num_le (R := R) fd.cyc.cyc
      have nf := Cycs.len_le W hn fd.cyc
      refine ⟨_, rfl, q G f ts ls kG fd.fl fd.ob (fun e => ?_) (by omega) fun l hl => ?_⟩
      · obtain ⟨y, hy⟩ := List.exists_mem_of_ne_nil _ ne0
        have := dn (0, y) hy n0
        rw [e] at lt2
        have : cs = [] := List.length_eq_zero_iff.mp lt2
        subst this
        simp at *
      · obtain ⟨j, hj⟩ := List.mem_iff_getElem?.mp hl
        obtain ⟨c, _, h1, h2⟩ := Paired.at2 fd.tld hj
        exact ⟨c, h1, h2⟩
end
end Rd
set_option Elab.async false
set_option linter.all false
set_option maxRecDepth 100000
set_option maxHeartbeats 4000000
/-! The law's shapes. -/
namespace Rd
open PySem PySem.Spec PyProof.Rows L2 Gw
section
variable {P : Program} {w : World} {K : PySem.W.Frag} {mg : Str → Option Value} {base : Heap}
theorem right_iff (p q r : Pt) : right p q r = true ↔ Rt p q r := by unfold right Rt; exact decide_eq_true_iff
theorem sc_l_is_right : FnScope ["_law_p", "_law_q", "_law_r", "_law_far"] ["_law_p", "_law_q", "_law_r"] (defScope s_l_is_right) := ⟨rfl, rfl, rfl, by decide +kernel, rfl, by decide +kernel, by decide +kernel⟩
theorem ok_is_right (T : Txt K mg) : Ok P w K mg base 1 "_law_is_right" ["_law_p", "_law_q", "_law_r"] spRight := by
  refine def_ok T 48 rfl rfl sc_l_is_right (fun _ _ _ _ _ _ us hl => match us, hl with | [_, _, _], _ => rfl) (fun vs H Q E h => ?_) (fun cdv A outer s H vs Q E hr h => ?_)
  · obtain ⟨_, _, _, _, _, _, rfl, _⟩ := h
    rfl
  · obtain ⟨a, b, c, p, q', r, rfl, ha, hb, hc, ⟨sp1, sp2⟩, ⟨sq1, sq2⟩, ⟨sr1, sr2⟩, q⟩ := h
    refine ⟨_, (pss_cons (ps_set (i := 3) sc_l_is_right.nd rfl (by first | exact .inl rfl | exact .inr rfl) (pe_op op_mul (pe_op op_sub (pe_ix ixH (pv 1) pe_int (fun _ _ => rfl)) (pe_ix ixH (pv 0) pe_int (fun _ _ => rfl))) (pe_op op_sub (pe_ix ixH (pv 2) pe_int (fun _ _ => rfl)) (pe_ix ixH (pv 0) pe_int (fun _ _ => rfl)))))
      (pss_one (ps_ret (pe_cmpR op_lt (pv 3) (pe_op op_mul (pe_op op_sub (pe_ix ixH (pv 1) pe_int (fun _ _ => rfl)) (pe_ix ixH (pv 0) pe_int (fun _ _ => rfl))) (pe_op op_sub (pe_ix ixH (pv 2) pe_int (fun _ _ => rfl)) (pe_ix ixH (pv 0) pe_int (fun _ _ => rfl)))) (nomark _))))), ?_⟩
    have ia : Sq H a [.int p.1, .int p.2] := .inr (.inl ha)
    have ib : Sq H b [.int q'.1, .int q'.2] := .inr (.inl hb)
    have ic : Sq H c [.int r.1, .int r.2] := .inr (.inl hc)
    refine ⟨_, rfl, b, _, _, _, rfl, rfl, ib, rfl, _, rfl, a, _, _, _, rfl, rfl, ia, rfl, _, _, rfl, rfl, ?_⟩
    refine ⟨_, rfl, c, _, _, _, rfl, rfl, ic, rfl, _, rfl, a, _, _, _, rfl, rfl, ia, rfl, _, _, rfl, rfl, ?_⟩
    refine ⟨_, _, rfl, rfl, .inl (by constructor <;> omega), ?_⟩
    refine ⟨_, rfl, ?_⟩
    refine ⟨_, rfl, b, _, _, _, rfl, rfl, ib, rfl, _, rfl, a, _, _, _, rfl, rfl, ia, rfl, _, _, rfl, rfl, ?_⟩
    refine ⟨_, rfl, c, _, _, _, rfl, rfl, ic, rfl, _, rfl, a, _, _, _, rfl, rfl, ia, rfl, _, _, rfl, rfl, ?_⟩
    refine ⟨_, _, rfl, rfl, .inl (by constructor <;> omega), ?_⟩
    exact ⟨_, _, rfl, rfl, q⟩
abbrev ptD (p : Pt) : PyData := .tuple [.int p.1, .int p.2]
theorem ptD_eqv (s s' : Pt) : PyData.eqv (ptD s) (ptD s') = decide (s = s') := by
  obtain ⟨a, b⟩ := s
  obtain ⟨c, d⟩ := s'
  have e : PyData.eqv (ptD (a, b)) (ptD (c, d)) = ((a == c) && ((b == d) && true)) := rfl
  rw [e, Bool.and_true]
  by_cases h1 : a = c
  · by_cases h2 : b = d
    · subst h1; subst h2; simp
    · simp [h2]
  · simp [h1]
theorem dd_pt {H : Hp} {t : Addr} {s : Pt} (h : H t = some (ptO s)) : DD H (.ref t) (ptD s) :=
  ⟨fun K => dd_ints (ns := [s.1, s.2]) h K, by simp [SeqAt.shaped, PyData.canLay0, PyData.canLayAll0, PyData.depth, PyData.depthAll]⟩
theorem dd_pt2 {H : Hp} {t a b : Addr} {p q : Pt} (h : H t = some (.tup [.ref a, .ref b])) (ha : H a = some (ptO p)) (hb : H b = some (ptO q)) : DD H (.ref t) (.tuple [ptD p, ptD q]) :=
  ⟨fun K => .tup (SqT.of h) (.cons ((dd_pt ha).1 K) (.cons ((dd_pt hb).1 K) .nil)), by simp [SeqAt.shaped, PyData.canLay0, PyData.canLayAll0, PyData.depth, PyData.depthAll]⟩
theorem length_putK_in {κ : Type} [DecidableEq κ] {kvs : List (κ × V)} {k : κ} {v : V} (h : k ∈ kvs.map (·.1)) : (putK kvs k v).length = kvs.length := by
  unfold putK
  have : (kvs.any fun kv => decide (kv.1 = k)) = true := by
    rw [List.any_eq_true]
    obtain ⟨x, hx, e⟩ := List.mem_map.mp h
    exact ⟨x, hx, decide_eq_true e⟩
  rw [if_pos this, List.length_map]
theorem merge_nodup : ∀ (more kvs : List (List Key × V)), (kvs.map (·.1)).Nodup → (mergeT kvs more).length = kvs.length + more.length → ((kvs ++ more).map (·.1)).Nodup
  | [], kvs, h, _ => by simpa using h
  | kv :: more, kvs, h, e => by
    have e' : (mergeT (putK kvs kv.1 kv.2) more).length = kvs.length + (more.length + 1) := e
    have le := length_mergeT more (putK kvs kv.1 kv.2)
    by_cases hk : kv.1 ∈ kvs.map (·.1)
    · rw [length_putK_in hk] at le
      omega
    · have pn : putK kvs kv.1 kv.2 = kvs ++ [kv] := putK_new _ (valV_none.mpr hk)
      rw [pn] at e'
      have := merge_nodup more (kvs ++ [kv]) (by
        rw [List.map_append, List.nodup_append]
        exact ⟨h, by simp, fun a ha b hb e => by
          have : b = kv.1 := by simpa using hb
          rw [this] at e
          exact hk (e ▸ ha)⟩) (by rw [e', List.length_append, List.length_singleton]; omega)
      simpa using this
theorem of_nodup_map {α β : Type} {f : α → β} : ∀ {l : List α}, (l.map f).Nodup → l.Nodup
  | [], _ => .nil
  | x :: l, h => by
    rw [List.map_cons, List.nodup_cons] at h
    rw [List.nodup_cons]
    exact ⟨fun hm => h.1 (List.mem_map.mpr ⟨x, hm, rfl⟩), of_nodup_map h.2⟩
abbrev ptE (p : Pt) : List Key × V := ([.inl p.1, .inl p.2], .bl true)
theorem atI_back {xs : List V} {k : Nat} {v : V} (h : xs[(if k = 0 then xs.length - 1 else k - 1)]? = some v) : atI xs ((k : Int) - 1) = some v := by
  by_cases h0 : k = 0
  · subst h0
    rw [if_pos rfl] at h
    have hl := (List.getElem?_eq_some_iff.mp h).1
    have ne : xs ≠ [] := by intro e; subst e; simp at h
    have e := (List.dropLast_concat_getLast ne).symm
    have ev : xs.getLast ne = v := by
      rw [List.getLast_eq_getElem]
      rw [List.getElem?_eq_getElem hl] at h
      exact Option.some.inj h
    rw [ev] at e
    rw [e]
    exact atI_last _ v
  · rw [if_neg h0] at h
    rw [show ((k : Int) - 1) = ((k - 1 : Nat) : Int) by omega]
    exact atI_nat h
theorem sc_l_bent : FnScope ["_law_some", "_law_k", "_law_p", "_law_q", "_law_r", "_law_one"] ["_law_some"] (defScope s_l_bent) := ⟨rfl, rfl, rfl, by decide +kernel, rfl, by decide +kernel, by decide +kernel⟩
def sp_bent : Sp := fun vs H Q _ => ∃ (a : Addr) (ts : List Addr) (ps : List Pt), vs = [.ref a] ∧ H a = some (.lst (ts.map V.ref)) ∧ Objs H ptO ts ps ∧ (∀ p, p ∈ ps → small p) ∧ ps.length ≤ 100 ∧ ∀ H' b, Kp [] H H' → (b = true → Cv ps) → Q (.bl b) H'
theorem ok_bent (T : Txt K mg) : Ok P w K mg base 2 "_law_bent" ["_law_some"] sp_bent := by
  have O_l_is_right : Ok P w K mg base 1 "_law_is_right" ["_law_p", "_law_q", "_law_r"] spRight := ok_is_right T
  refine def_ok T 49 rfl rfl sc_l_bent (fun _ _ _ _ _ _ us hl => match us, hl with | [_], _ => rfl) (fun vs H Q E h => ?_) (fun cdv A outer s H vs Q E hr h => ?_)
  · obtain ⟨_, _, _, rfl, _⟩ := h
    rfl
  · obtain ⟨a, ts, ps, rfl, ha, ob, sm, l100, q⟩ := h
    have hu2 : (A.deeper (envOfC "_law_bent" (defScope s_l_bent) s.heap.objs.size (He.ga K "_law_bent") cdv)).units + 2 < cLine := Nat.lt_of_le_of_lt (Nat.add_le_add_left (by decide) _) (units200 hr)
    have hu65 : (A.deeper (envOfC "_law_bent" (defScope s_l_bent) s.heap.objs.size (He.ga K "_law_bent") cdv)).units + 65 < cLine := Nat.lt_of_le_of_lt (Nat.add_le_add_left (by decide) _) (units200 hr)
    refine ⟨_, (pss_cons (ps_for PassesOwn.never rfl (pi_range1 (by rfl) T.z_range (pa_cons (pe_callB call_lenH (by rfl) T.z_len (by decide +kernel) (pa_cons (pv 0) pa_nil)) pa_nil)) (pg_name (i := 1) sc_l_bent.nd rfl (by first | exact .inl rfl | exact .inr rfl)) (pss_cons (ps_par (i := 2) (j := 3) (by rfl) sc_l_bent.nd rfl rfl (by decide) rfl rfl (pa_cons (pe_ix ixH (pv 0) (pe_op op_sub (pv 1) pe_int) (fun _ _ => rfl)) (pa_cons (pe_ix ixH (pv 0) (pv 1) (fun _ _ => rfl)) pa_nil)) (by rfl))
      (pss_one (ps_for PassesOwn.never rfl (pi_list (pv 0)) (pg_name (i := 4) sc_l_bent.nd rfl (by first | exact .inl rfl | exact .inr rfl)) (pss_one (ps_if (PW.pt (pw_and (pt_cmpR (op_ninT hu65) (pv 4) (pe_tup (pa_cons (pv 2) (pa_cons (pv 3) pa_nil))) (by rfl)) (pw_and1 (pt_not (pt_val (pe_f O_l_is_right hr (by rfl) (pa_cons (pv 2) (pa_cons (pv 3) (pa_cons (pv 4) pa_nil))))))))) (pss_one (ps_ret pe_bl)) pss_nil))))))
      (pss_one (ps_ret (pe_cmpR op_eq (pe_callB call_len_dT (by rfl) T.z_len (by decide +kernel) (pa_cons (pe_callTy (call_dictT rfl hu2) (by rfl) T.z_dict (by decide +kernel) (pa_cons (pe_lc (own := [("_law_one", 5)]) (g := (gName 5)) rfl sc_l_bent.nd (pi_list (pv 0)) (blkOk_by (own := [("_law_one", 5)]) (N := ["_law_some", "_law_k", "_law_p", "_law_q", "_law_r", "_law_one"]) (sc := defScope s_l_bent) (by decide +kernel)) (fun _ _ _ _ _ => (pg_name (i := 5) sc_l_bent.nd rfl (by first | exact .inl rfl | exact .inr rfl))) (fun _ _ _ _ _ => pts_nil) (fun _ _ _ _ _ => (pe_tup (pa_cons (pv 5) (pa_cons pe_bl pa_nil))))) pa_nil)) pa_nil)) (pe_callB call_lenH (by rfl) T.z_len (by decide +kernel) (pa_cons (pv 0) pa_nil)) (nomark _))))), ?_⟩
    have lt := ob.len
    have e0 : (ts.map V.ref).length = ps.length := by rw [List.length_map, lt]
    refine ⟨_, rfl, a, _, rfl, .inl ha, _, rfl, by omega, by omega, ?_⟩
    rw [e0, show ((ps.length : Nat) : Int).toNat = ps.length by omega]
    refine for_range (lo := 0) (n := ps.length) (fun k σ G => ∃ v1 v2 v3 v4, σ = [some (.ref a), v1, v2, v3, v4, none] ∧ Kp [] H G ∧ ∀ i p q, i < k → ps[(if i = 0 then ps.length - 1 else i - 1)]? = some p → ps[i]? = some q → ∀ r, r ∈ ps → r ≠ p → r ≠ q → Rt p q r) ⟨_, _, _, _, rfl, Kp.refl, fun i p q hi => absurd hi (Nat.not_lt_zero _)⟩ (fun k σ G hk h => ?_) (fun σ G h => ?_)
    · obtain ⟨v1, v2, v3, v4, rfl, kG, ok⟩ := h
      rw [show (0 : Int) + (k : Int) = (k : Int) by omega]
      have at_ : ∀ i, i < ps.length → ∃ t p, ts[i]? = some t ∧ ps[i]? = some p ∧ H t = some (ptO p) := fun i hi => by
        have h1 : ps[i]? = some ps[i] := List.getElem?_eq_getElem hi
        obtain ⟨t, ht, e⟩ := Paired.at2 ob h1
        exact ⟨t, _, ht, h1, e⟩
      obtain ⟨tp, p, tp1, tp2, tp3⟩ := at_ (if k = 0 then ps.length - 1 else k - 1) (by split <;> omega)
      obtain ⟨tq, q', tq1, tq2, tq3⟩ := at_ k hk
      have sa : ∀ {G2 : Hp}, Kp [] H G2 → Sq G2 a (ts.map V.ref) := fun k2 => .inl (k2.same _ _ ha)
      refine ⟨_, rfl, nV k, rfl, _, _, rfl, rfl, a, _, _, .ref tp, rfl, rfl, sa kG, atI_back (by rw [e0, List.getElem?_map, tp1]; rfl), _, rfl, nV k, rfl, a, _, _, .ref tq, rfl, rfl, sa kG, atI_nat (by rw [List.getElem?_map, tq1]; rfl), _, _, rfl, ?_⟩
      refine ⟨_, rfl, a, rfl, ⟨_, SqL.of (kG.same _ _ ha)⟩, ?_⟩
      refine for_list (K := K) (xs := ts.map V.ref) (fun j σ G => ∃ v4, σ = [some (.ref a), some (nV k), some (.ref tp), some (.ref tq), v4, none] ∧ Kp [] H G ∧ ∀ r, r ∈ ps.take j → r ≠ p → r ≠ q' → Rt p q' r) ⟨_, rfl, kG, by simp⟩ (fun j σ G _ h => ?_) (fun j x σ G hx h => ?_) (fun σ G h => ?_)
      · obtain ⟨_, _, k, _⟩ := h
        exact SqL.of (k.same _ _ ha)
      · obtain ⟨v4, rfl, kG, ok2⟩ := h
        obtain ⟨u, r, rfl, _, hr', huo⟩ := objs_iat ob hx
        refine ⟨_, rfl, _, rfl, _, rfl, by show 2 ≤ sizeLine; decide, fun t ht => ?_⟩
        have k3 : Kp [] H (upd G t (.tup [.ref tp, .ref tq])) := kG.new' ht
        refine ⟨ptD r, [ptD p, ptD q'], dd_pt (k3.same _ _ huo), dd_pt2 upd_same (k3.same _ _ tp3) (k3.same _ _ tq3), _, rfl, ?_⟩
        have ea : ([ptD p, ptD q'].any fun z => PyData.eqv z (ptD r)) = decide (r = p ∨ r = q') := by
          rw [List.any_cons, List.any_cons, List.any_nil, Bool.or_false, ptD_eqv, ptD_eqv]
          by_cases h1 : p = r
          · simp [h1]
          · have h1' : ¬ r = p := fun e => h1 e.symm
            by_cases h2 : q' = r
            · simp [h2]
            · have h2' : ¬ r = q' := fun e => h2 e.symm
              simp [h1, h2, h1', h2']
        rw [ea]
        have tk : ∀ (Rr : Prop), (r ≠ p → r ≠ q' → Rt p q' r) → ∀ r0, r0 ∈ ps.take (j + 1) → r0 ≠ p → r0 ≠ q' → Rt p q' r0 := fun _ hh r0 h0 h1 h2 => by
          rw [take_snoc hr', List.mem_append, List.mem_singleton] at h0
          rcases h0 with h0 | h0
          · exact ok2 r0 h0 h1 h2
          · subst h0; exact hh h1 h2
        by_cases hm : r = p ∨ r = q'
        · rw [decide_eq_true hm]
          refine iteF ?_
          refine iteF ?_
          exact ⟨_, rfl, k3, tk True fun h1 h2 => (hm.elim h1 h2).elim⟩
        · rw [decide_eq_false hm]
          refine iteT ?_
          refine ⟨_, rfl, _, rfl, _, rfl, tp, tq, u, p, q', r, rfl, k3.same _ _ tp3, k3.same _ _ tq3, k3.same _ _ huo, sm _ (List.mem_of_getElem? tp2), sm _ (List.mem_of_getElem? tq2), sm _ (List.mem_of_getElem? hr'), ?_⟩
          refine ⟨_, rfl, ?_⟩
          cases hrt : right p q' r with
          | true =>
            refine iteF ?_
            exact ⟨_, rfl, k3, tk True fun _ _ => (right_iff p q' r).mp hrt⟩
          | false =>
            refine iteT ?_
            exact q _ false k3 fun e => by cases e
      · obtain ⟨v4, rfl, kG, ok2⟩ := h
        rw [List.length_map, lt, List.take_length] at ok2
        refine ⟨_, _, _, _, rfl, kG, fun i p0 q0 hi hp0 hq0 r hrm h1 h2 => ?_⟩
        by_cases e : i = k
        · subst e
          rw [tp2] at hp0
          rw [tq2] at hq0
          obtain rfl := Option.some.inj hp0
          obtain rfl := Option.some.inj hq0
          exact ok2 r hrm h1 h2
        · exact ok i p0 q0 (by omega) hp0 hq0 r hrm h1 h2
    · obtain ⟨v1, v2, v3, v4, rfl, kG, ok⟩ := h
      have ha1 := kG.same _ _ ha
      refine ⟨_, rfl, a, rfl, ⟨_, SqL.of ha1⟩, fun D hD => ?_⟩
      refine lc_list (K := K) (a := a) (xs := ts.map V.ref) (fun i F => ∃ us, F D = some (.lst (us.map V.ref)) ∧ Kp [] G F ∧ PrT F us ((ps.take i).map ptE)) ⟨[], upd_same, Kp.new hD, .nil⟩ (fun i F _ h => ?_) (fun i x F hx h => ?_) (fun F h => ?_)
      · obtain ⟨_, _, k, _⟩ := h
        exact SqL.of (k.same _ _ ha1)
      · obtain ⟨us, hD1, kF, pr⟩ := h
        obtain ⟨u, r, rfl, _, hr', huo⟩ := objs_iat ob hx
        have il := (List.getElem?_eq_some_iff.mp hr').1
        refine ⟨rfl, _, rfl, by show 2 ≤ sizeLine; decide, fun z hz => ?_⟩
        have hDz : D ≠ z := ne_of_none hD1 hz
        have hDn : upd F z (.tup [.ref u, .bl true]) D = some (.lst (us.map V.ref)) := by rw [upd_ne hDz]; exact hD1
        have lp := Paired.length pr
        rw [List.length_map, List.length_take] at lp
        have tkz : TK F (upd (upd F z (.tup [.ref u, .bl true])) D (.lst (us.map V.ref ++ [.ref z]))) := (TK.new hz).trans (TK.put hDn)
        refine ⟨us.map V.ref, hDn, by rw [List.length_map, sizeLine_eq]; omega, us ++ [z], by rw [upd_same]; simp, (kF.new' hz).own hD, ?_⟩
        rw [take_snoc hr', List.map_append]
        refine Paired.app (Paired.mapP pr fun _ _ ⟨kq, e1, e2⟩ => ⟨kq, tkz _ _ e1, tkz _ _ e2⟩) (.cons ⟨u, ?_, ?_⟩ .nil)
        · exact TK.put hDn _ _ upd_same
        · exact tkz _ _ (kF.same _ _ (kG.same _ _ huo))
      · obtain ⟨us, hD1, kF, pr⟩ := h
        rw [List.length_map, lt, List.take_length] at pr
        refine ⟨D, us, ps.map ptE, rfl, hD1, pr, fun z hz => ?_⟩
        refine ⟨z, _, rfl, upd_same, _, rfl, a, _, rfl, .inl ((kF.new' hz).same _ _ ha1), rfl, ?_⟩
        refine q _ _ ((kG.trans kF).new' hz) fun hb => ?_
        have hb' := of_decide_eq_true hb
        have el : (mergeT [] (ps.map ptE)).length = ps.length := by
          have : ((mergeT [] (ps.map ptE)).length : Int) = ((ts.map V.ref).length : Nat) := by injection hb'
          rw [e0] at this
          omega
        have nd := merge_nodup (ps.map ptE) [] (by simp) (by rw [el, List.length_map]; simp)
        rw [List.nil_append, List.map_map] at nd
        have nd2 : ps.Nodup := of_nodup_map nd
        exact Cv.of nd2 fun i p0 q0 hp0 hq0 r hrm h1 h2 => ok i p0 q0 (List.getElem?_eq_some_iff.mp hq0).1 hp0 hq0 r hrm h1 h2
end
end Rd
set_option Elab.async false
set_option linter.all false
set_option maxRecDepth 100000
set_option maxHeartbeats 4000000
/-! The law's shapes: arcs. -/
namespace Rd
open PySem PySem.Spec PyProof.Rows L2 Gw
section
variable {P : Program} {w : World} {K : PySem.W.Frag} {mg : Str → Option Value} {base : Heap}
theorem PotL.none {H : Hp} {pA b : Addr} (p : PotL H pA) (h : H b = none) : b ≠ pA := fun e => by
  obtain ⟨x, y, e2, _⟩ := p
  rw [← e, h] at e2
  cases e2
theorem Kp.fr {H G : Hp} {pA b : Addr} (k : Kp [pA] H G) (p : PotL G pA) (h : G b = none) : H b = none := k.fresh h (by simpa using p.none h)
theorem sc_l_arc : FnScope ["_law_pot_here", "_law_many", "_law_far", "_law_found", "_law_k"] ["_law_pot_here", "_law_many"] (defScope s_l_arc) := ⟨rfl, rfl, rfl, by decide +kernel, rfl, by decide +kernel, by decide +kernel⟩
def sp_arc : Sp := fun vs H Q _ => ∃ (pA : Addr) (m : Nat), vs = [.ref pA, nV m] ∧ PotL H pA ∧ 0 < m ∧ m ≤ 9 ∧ ∀ H' p ts ps, Kp [pA] H H' → PotL H' pA → H p = none → H' p = some (.lst (ts.map V.ref)) → Objs H' ptO ts ps → ps.length = m → Cv ps → (∀ p, p ∈ ps → -1000 ≤ p.1 ∧ p.1 ≤ 1000 ∧ -1000 ≤ p.2 ∧ p.2 ≤ 1000) → Q (.ref p) H'
theorem ok_arc (T : Txt K mg) : Ok P w K mg base 2 "_law_arc" ["_law_pot_here", "_law_many"] sp_arc := by
  have O_l_digit : Ok P w K mg base 1 "_law_digit" ["_law_pot_here", "_law_many"] sp_digit := ok_digit T
  refine def_ok T 50 rfl rfl sc_l_arc (fun _ _ _ _ _ _ us hl => match us, hl with | [_, _], _ => rfl) (fun vs H Q E h => ?_) (fun cdv A outer s H vs Q E hr h => ?_)
  · obtain ⟨_, _, rfl, _⟩ := h
    rfl
  · obtain ⟨pA, m, rfl, pot, m0, m9, q⟩ := h
    refine ⟨_, (pss_cons (ps_set (i := 2) sc_l_arc.nd rfl (by first | exact .inl rfl | exact .inr rfl) (pe_f O_l_digit hr (by rfl) (pa_cons (pv 0) (pa_cons pe_int pa_nil))))
      (pss_cons (ps_set (i := 3) sc_l_arc.nd rfl (by first | exact .inl rfl | exact .inr rfl) (pe_lst pa_nil))
      (pss_cons (ps_for PassesOwn.never rfl (pi_range1 (by rfl) T.z_range (pa_cons (pv 1) pa_nil)) (pg_name (i := 4) sc_l_arc.nd rfl (by first | exact .inl rfl | exact .inr rfl)) (pss_cons (ps_expr (pe_bm PySem.F.plainAttrs_list PySem.F.slot_list_append PySem.F.type_list_append mt_append (pv 3) (pa_cons (pe_tup (pa_cons (pv 2) (pa_cons (pe_op op_mul (pv 2) (pv 2)) pa_nil))) pa_nil)))
      (pss_one (ps_set (i := 2) sc_l_arc.nd rfl (by first | exact .inl rfl | exact .inr rfl) (pe_op op_sub (pe_op op_sub (pv 2) pe_int) (pe_f O_l_digit hr (by rfl) (pa_cons (pv 0) (pa_cons pe_int pa_nil))))))))
      (pss_cons (ps_set (i := 4) sc_l_arc.nd rfl (by first | exact .inl rfl | exact .inr rfl) (pe_f O_l_digit hr (by rfl) (pa_cons (pv 0) (pa_cons (pv 1) pa_nil))))
      (pss_one (ps_ret (pe_op op_cat (pe_slice sl_list (pv 3) (po_some (pv 4)) po_none) (pe_slice sl_list (pv 3) po_none (po_some (pv 4)))))))))), ?_⟩
    refine ⟨_, rfl, pA, 5, rfl, pot, by decide, by decide, fun H1 v0 k1 p1 hv0 => ?_⟩
    refine ⟨by show 0 ≤ sizeLine; decide, fun f hf => ?_⟩
    have fp := p1.none hf
    have fH := k1.fr p1 hf
    refine ⟨_, rfl, m, rfl, by omega, by omega, ?_⟩
    rw [show ((m : Nat) : Int).toNat = m by omega]
    refine for_range (lo := 0) (n := m) (fun i σ G => ∃ (far : Int) (fs : List Int) (ts : List Addr) (v4 : Option V), σ = [some (.ref pA), some (nV m), some (.int far), some (.ref f), v4] ∧ Kp [pA] H G ∧ PotL G pA ∧ G f = some (.lst (ts.map V.ref)) ∧ Objs G ptO ts (fs.map sq) ∧ fs.length = i ∧ fs.Pairwise (· > ·) ∧ (∀ x, x ∈ fs → far < x ∧ x ≤ 4) ∧ far ≤ 4 ∧ -((i : Int) * 3) ≤ far)
      ⟨(v0 : Int), [], [], _, rfl, k1.new' hf, p1.kp (Kp.new hf : Kp [] _ _) (by simp), upd_same, .nil, rfl, .nil, by simp, by omega, by omega⟩ (fun i σ G hi h => ?_) (fun σ G h => ?_)
    · obtain ⟨far, fs, ts, v4, rfl, kG, pG, hfG, ob, li, pw, bd, f4, f5⟩ := h
      refine ⟨_, rfl, .inl ⟨rfl, _, SqL.of hfG⟩, _, rfl, _, rfl, _, rfl, _, _, rfl, rfl, .inl ⟨by omega, by omega⟩, by show 2 ≤ sizeLine; decide, fun t ht => ?_⟩
      have ft : f ≠ t := ne_of_none hfG ht
      have hft : upd G t (ptO (sq far)) f = some (.lst (ts.map V.ref)) := by rw [upd_ne ft]; exact hfG
      have lob := ob.len
      rw [List.length_map] at lob
      refine ⟨f, _, _, rfl, rfl, hft, by rw [List.length_map, sizeLine_eq]; omega, ?_⟩
      have k2 : Kp [pA] H (upd (upd G t (ptO (sq far))) f (.lst (ts.map V.ref ++ [.ref t]))) := (kG.new' ht).own fH
      have p2 : PotL (upd (upd G t (ptO (sq far))) f (.lst (ts.map V.ref ++ [.ref t]))) pA := by
        obtain ⟨x, y, e, b⟩ := pG.kp (Kp.new ht (o := ptO (sq far)) : Kp [] _ _) (by simp)
        exact ⟨x, y, by rw [upd_ne fp.symm]; exact e, b⟩
      have o2 : Objs (upd (upd G t (ptO (sq far))) f (.lst (ts.map V.ref ++ [.ref t]))) ptO (ts ++ [t]) ((fs ++ [far]).map sq) := by
        rw [List.map_append]
        exact Objs.grow (o := ptO) (s := sq far) ob hfG (fun s => by simp) ht
      have hf2 : upd (upd G t (ptO (sq far))) f (.lst (ts.map V.ref ++ [.ref t])) f = some (.lst ((ts ++ [t]).map V.ref)) := by rw [upd_same]; simp
      refine ⟨_, rfl, _, _, rfl, rfl, _, rfl, pA, 3, rfl, p2, by decide, by decide, fun G3 v k3 p3 hv => ?_⟩
      refine ⟨_, _, rfl, rfl, ?_⟩
      have nf : f ∉ [pA] := by simpa using fp
      have nt : ∀ u, u ∈ ts ++ [t] → u ∉ [pA] := fun u hu e => by
        obtain ⟨j, hj⟩ := List.mem_iff_getElem?.mp hu
        obtain ⟨s', _, e2⟩ := Paired.at o2 hj
        obtain ⟨x, y, e3, _⟩ := p2
        rw [List.mem_singleton.mp e, e3] at e2
        cases e2
      refine ⟨far - 1 - (v : Int), fs ++ [far], ts ++ [t], _, rfl, k2.trans k3, p3, k3 _ _ hf2 nf, ?_, by rw [List.length_append, li]; rfl, ?_, fun x hx => ?_, by omega, by omega⟩
      · refine paired_of o2.len fun j u s' h1 h2 => ?_
        obtain ⟨s2, h3, e⟩ := Paired.at o2 h1
        rw [h2] at h3
        obtain rfl := Option.some.inj h3
        exact k3 _ _ e (nt u (List.mem_of_getElem? h1))
      · rw [List.pairwise_append]
        exact ⟨pw, by simp, fun x hx y hy => by rw [List.mem_singleton.mp hy]; exact (bd x hx).1⟩
      · rcases List.mem_append.mp hx with h | h
        · have := bd x h
          omega
        · rw [List.mem_singleton.mp h]
          omega
    · obtain ⟨far, fs, ts, v4, rfl, kG, pG, hfG, ob, li, pw, bd, f4, f5⟩ := h
      refine ⟨_, rfl, _, rfl, pA, m, rfl, pG, by omega, by omega, fun G1 k k1' p1' hk => ?_⟩
      have nf : f ∉ [pA] := by simpa using fp
      have hf1 := k1' _ _ hfG nf
      have ob1 : Objs G1 ptO ts (fs.map sq) := paired_of ob.len fun j u s' h1 h2 => by
        obtain ⟨s2, h3, e⟩ := Paired.at ob h1
        rw [h2] at h3
        obtain rfl := Option.some.inj h3
        refine k1' _ _ e fun z => ?_
        obtain ⟨x, y, e3, _⟩ := pG
        rw [List.mem_singleton.mp z, e3] at e
        cases e
      have lob := ob.len
      rw [List.length_map] at lob
      have ktl : k ≤ ts.length := by omega
      have e0 : (ts.map V.ref).length = ts.length := List.length_map _
      have kH1 := kG.trans k1'
      refine ⟨_, rfl, _, rfl, _, rfl, f, _, rfl, SqL.of hf1, fun q1 hq1 => ?_⟩
      have hf2 : upd G1 q1 (.lst (cutV (ts.map V.ref) (some (k : Int)) none)) f = some (.lst (ts.map V.ref)) := by rw [upd_ne (ne_of_none hf1 hq1)]; exact hf1
      refine ⟨_, rfl, _, rfl, _, rfl, f, _, rfl, SqL.of hf2, fun q2 hq2 => ?_⟩
      have h12 : q1 ≠ q2 := ne_of_none upd_same hq2
      rw [cut_drop _ (by rw [e0]; exact ktl), cut_take _ (by rw [e0]; exact ktl)] at *
      refine ⟨q1, q2, _, _, rfl, rfl, by rw [upd_ne h12, upd_same], upd_same, by simp only [List.length_drop, List.length_take, List.length_map, sizeLine_eq]; omega, fun q3 hq3 => ?_⟩
      have k3 : Kp [] G1 (upd (upd (upd G1 q1 (.lst ((ts.map V.ref).drop k))) q2 (.lst ((ts.map V.ref).take k))) q3 (.lst ((ts.map V.ref).drop k ++ (ts.map V.ref).take k))) := ((Kp.new hq1).new' hq2).new' hq3
      have ob3 := Paired.app (Paired.drop (ob1.kp k3) k) (Paired.take (ob1.kp k3) k)
      have cv := (Cv.arc pw).rot ⟨(fs.map sq).take k, (fs.map sq).drop k, (List.take_append_drop k _).symm, rfl⟩
      refine q _ q3 (ts.drop k ++ ts.take k) ((fs.map sq).drop k ++ (fs.map sq).take k) (kH1.trans k3.nil) (p1'.kp k3 (by simp)) ?_ ?_ ob3 ?_ cv fun p hp => ?_
      · refine kH1.fr p1' ?_
        cases e : G1 q3 with
        | none => rfl
        | some o =>
          have k2' : Kp [] G1 (upd (upd G1 q1 (.lst ((ts.map V.ref).drop k))) q2 (.lst ((ts.map V.ref).take k))) := (Kp.new hq1).new' hq2
          rw [k2'.same _ _ e] at hq3
          cases hq3
      · rw [upd_same, List.map_append, List.map_drop, List.map_take]
      · simp only [List.length_append, List.length_drop, List.length_take, List.length_map]; omega
      · have pm : p ∈ fs.map sq := by
          rcases List.mem_append.mp hp with h | h
          · exact List.mem_of_mem_drop h
          · exact List.mem_of_mem_take h
        obtain ⟨x, hx, rfl⟩ := List.mem_map.mp pm
        obtain ⟨b1, b2⟩ := bd x hx
        have x1 : -31 ≤ x := by omega
        have s1 : 0 ≤ x * x := by
          rcases Int.le_total 0 x with h | h
          · exact Int.mul_nonneg h h
          · exact Int.mul_nonneg_of_nonpos_of_nonpos h h
        have s2 : x * x ≤ 1000 := by
          have a1 : 0 ≤ (4 - x) * (x + 31) := Int.mul_nonneg (by omega) (by omega)
          have a2 : (4 - x) * (x + 31) = 124 - 27 * x - x * x := by grind
          omega
        show -1000 ≤ x ∧ x ≤ 1000 ∧ -1000 ≤ x * x ∧ x * x ≤ 1000
        omega
theorem sc_l_shape : FnScope ["_law_pot_here", "_law_many", "_law_wide", "_law_k", "_law_some", "_law_by", "_law_x", "_law_y", "_law_one"] ["_law_pot_here", "_law_many"] (defScope s_l_shape) := ⟨rfl, rfl, rfl, by decide +kernel, rfl, by decide +kernel, by decide +kernel⟩
def sp_shape : Sp := fun vs H Q _ => ∃ (pA : Addr) (m : Nat), vs = [.ref pA, nV m] ∧ PotL H pA ∧ 0 < m ∧ m ≤ 9 ∧ ∀ H' p ts ps, Kp [pA] H H' → PotL H' pA → H' p = some (.tup (ts.map V.ref)) → Objs H' ptO ts ps → ps.length = m → Cv ps → (∀ p, p ∈ ps → small p) → Q (.ref p) H'
theorem objs_off {α : Type} {G G1 : Hp} {pA : Addr} {o : α → HO} {ts : List Addr} {ss : List α} (ob : Objs G o ts ss) (k : Kp [pA] G G1) (pG : PotL G pA) (no : ∀ s l, o s ≠ .lst l) : Objs G1 o ts ss := Paired.mapP ob fun t s e => k _ _ e fun z => by
  obtain ⟨x, y, e3, _⟩ := pG
  rw [List.mem_singleton.mp z, e3] at e
  exact no _ _ (Option.some.inj e).symm
theorem Paired.rev {α β : Type} {F : α → β → Prop} {l : List α} {m : List β} (h : Paired F l m) : Paired F l.reverse m.reverse := by
  induction h with
  | nil => exact .nil
  | cons a _ ih => rw [List.reverse_cons, List.reverse_cons]; exact Paired.app ih (.cons a .nil)
/-- two ways that meet -/
theorem if_join {b : Bool} {T : Prop} {C : Addr → Hp → Prop} {a : Addr} {H : Hp} (Inv : Addr → Hp → Prop) (h3 : ∀ b G, Inv b G → C b G) (h1 : b = true → (∀ b G, Inv b G → C b G) → T) (h2 : b = false → Inv a H) : if b = true then T else C a H := by
  cases b with
  | true => exact h1 rfl h3
  | false => exact h3 a H (h2 rfl)
/-- a list of three or four numbers, by a place -/
theorem pick {H : Hp} {a : Addr} {xs : List Int} {v : Nat} (h : v < xs.length) (e : H a = some (.lst (xs.map V.int))) : ∃ x, x ∈ xs ∧ atI (xs.map V.int) (v : Int) = some (.int x) := ⟨xs[v], List.getElem_mem h, atI_nat (by rw [List.getElem?_map, List.getElem?_eq_getElem h]; rfl)⟩
theorem ok_shape (T : Txt K mg) : Ok P w K mg base 3 "_law_shape" ["_law_pot_here", "_law_many"] sp_shape := by
  have O_l_digit : Ok P w K mg base 2 "_law_digit" ["_law_pot_here", "_law_many"] sp_digit := (ok_digit T).mono (by decide)
  have O_l_bent : Ok P w K mg base 2 "_law_bent" ["_law_some"] sp_bent := ok_bent T
  have O_l_arc : Ok P w K mg base 2 "_law_arc" ["_law_pot_here", "_law_many"] sp_arc := ok_arc T
  refine def_ok T 51 rfl rfl sc_l_shape (fun _ _ _ _ _ _ us hl => match us, hl with | [_, _], _ => rfl) (fun vs H Q E h => ?_) (fun cdv A outer s H vs Q E hr h => ?_)
  · obtain ⟨_, _, rfl, _⟩ := h
    rfl
  · obtain ⟨pA, m, rfl, pot, m0, m9, q⟩ := h
    refine ⟨_, (pss_cons (ps_set (i := 2) sc_l_shape.nd rfl (by first | exact .inl rfl | exact .inr rfl) (pe_ix ixH (pe_lst (pa_cons pe_int (pa_cons pe_int (pa_cons pe_int pa_nil)))) (pe_f O_l_digit hr (by rfl) (pa_cons (pv 0) (pa_cons pe_int pa_nil))) (fun _ _ => rfl)))
      (pss_cons (ps_setLc (i := 4) (own := [("_law_k", 3)]) (g := (gName 3)) (by rfl) sc_l_shape.nd rfl rfl (sw_true rfl rfl rfl (by decide +kernel)) (pi_range1 (by rfl) T.z_range (pa_cons (pv 1) pa_nil)) (blkOk_by (own := [("_law_k", 3)]) (N := ["_law_pot_here", "_law_many", "_law_wide", "_law_k", "_law_some", "_law_by", "_law_x", "_law_y", "_law_one"]) (sc := defScope s_l_shape) (by decide +kernel)) (fun _ _ _ _ _ => (pg_name (i := 3) sc_l_shape.nd rfl (by first | exact .inl rfl | exact .inr rfl))) (fun _ _ _ _ _ => pts_nil) (fun _ _ _ _ _ => (pe_tup (pa_cons (pe_op op_sub (pe_f O_l_digit hr (by rfl) (pa_cons (pv 0) (pa_cons (pe_op op_mul pe_int (pv 2)) pa_nil))) (pv 2)) (pa_cons (pe_op op_sub (pe_f O_l_digit hr (by rfl) (pa_cons (pv 0) (pa_cons (pe_op op_mul pe_int (pv 2)) pa_nil))) (pv 2)) pa_nil)))))
      (pss_cons (ps_if (pt_not (pt_val (pe_f O_l_bent hr (by rfl) (pa_cons (pv 4) pa_nil)))) (pss_one (ps_expr (pe_bm0 PySem.F.plainAttrs_list PySem.F.slot_list_reverse PySem.F.type_list_reverse mt_reverse (pv 4)))) pss_nil)
      (pss_cons (ps_if (pt_not (pt_val (pe_f O_l_bent hr (by rfl) (pa_cons (pv 4) pa_nil)))) (pss_one (ps_set (i := 4) sc_l_shape.nd rfl (by first | exact .inl rfl | exact .inr rfl) (pe_f O_l_arc hr (by rfl) (pa_cons (pv 0) (pa_cons (pv 1) pa_nil))))) pss_nil)
      (pss_cons (ps_set (i := 5) sc_l_shape.nd rfl (by first | exact .inl rfl | exact .inr rfl) (pe_ix ixH (pe_lst (pa_cons pe_int (pa_cons pe_int (pa_cons pe_int (pa_cons pe_int pa_nil))))) (pe_f O_l_digit hr (by rfl) (pa_cons (pv 0) (pa_cons pe_int pa_nil))) (fun _ _ => rfl)))
      (pss_cons (ps_set (i := 6) sc_l_shape.nd rfl (by first | exact .inl rfl | exact .inr rfl) (pe_op op_sub (pe_f O_l_digit hr (by rfl) (pa_cons (pv 0) (pa_cons pe_int pa_nil))) pe_int))
      (pss_cons (ps_set (i := 7) sc_l_shape.nd rfl (by first | exact .inl rfl | exact .inr rfl) (pe_op op_sub (pe_f O_l_digit hr (by rfl) (pa_cons (pv 0) (pa_cons pe_int pa_nil))) pe_int))
      (pss_one (ps_ret (pe_callTy call_tupH (by rfl) T.z_tuple (by decide +kernel) (pa_cons (pe_lc (own := [("_law_one", 8)]) (g := (gName 8)) rfl sc_l_shape.nd (pi_list (pv 4)) (blkOk_by (own := [("_law_one", 8)]) (N := ["_law_pot_here", "_law_many", "_law_wide", "_law_k", "_law_some", "_law_by", "_law_x", "_law_y", "_law_one"]) (sc := defScope s_l_shape) (by decide +kernel)) (fun _ _ _ _ _ => (pg_name (i := 8) sc_l_shape.nd rfl (by first | exact .inl rfl | exact .inr rfl))) (fun _ _ _ _ _ => pts_nil) (fun _ _ _ _ _ => (pe_tup (pa_cons (pe_op op_add (pe_op op_mul (pe_ix ixH (pv 8) pe_int (fun _ _ => rfl)) (pv 5)) (pv 6)) (pa_cons (pe_op op_add (pe_op op_mul (pe_ix ixH (pv 8) pe_int (fun _ _ => rfl)) (pv 5)) (pv 7)) pa_nil))))) pa_nil))))))))))), ?_⟩
    refine ⟨by show 3 ≤ sizeLine; decide, fun a0 ha0 => ?_⟩
    have k0 : Kp [pA] H (upd H a0 (.lst [.int 5, .int 9, .int 200000])) := Kp.new ha0
    have p0 : PotL (upd H a0 (.lst [.int 5, .int 9, .int 200000])) pA := pot.kp (Kp.new ha0 : Kp [] _ _) (by simp)
    refine ⟨_, rfl, pA, 3, rfl, p0, by decide, by decide, fun H1 v k1 p1 hv => ?_⟩
    have a0p : a0 ∉ [pA] := by simpa using pot.none ha0
    have ha1 : H1 a0 = some (.lst ([5, 9, 200000].map V.int)) := k1 _ _ upd_same a0p
    obtain ⟨wide, wm, we⟩ := pick (xs := [5, 9, 200000]) (v := v) (by show v < 3; omega) ha1
    have wb : 1 ≤ wide ∧ wide ≤ 200000 := by
      simp only [List.mem_cons, List.not_mem_nil, or_false] at wm
      rcases wm with h | h | h <;> omega
    refine ⟨a0, _, _, _, rfl, rfl, .inl ha1, we, ?_⟩
    have k01 := k0.trans k1
    refine ⟨_, rfl, m, rfl, by omega, by omega, fun D hD => ?_⟩
    rw [show ((m : Nat) : Int).toNat = m by omega]
    have DH := k01.fr p1 hD
    have Dp := p1.none hD
    refine lc_range (lo := 0) (n := m) (fun i F => ∃ us ps, F D = some (.lst (us.map V.ref)) ∧ Kp [pA] H F ∧ PotL F pA ∧ Objs F ptO us ps ∧ ps.length = i ∧ ∀ p, p ∈ ps → (-200000 ≤ p.1 ∧ p.1 ≤ 200000) ∧ -200000 ≤ p.2 ∧ p.2 ≤ 200000) ⟨[], [], upd_same, k01.new' hD, p1.kp (Kp.new hD : Kp [] _ _) (by simp), .nil, rfl, by simp⟩ (fun i F hi h => ?_) (fun F h => ?_)
    · obtain ⟨us, ps, hDF, kF, pF, ob, li, bd⟩ := h
      refine ⟨rfl, _, rfl, _, rfl, _, _, rfl, rfl, .inl ⟨by decide, by decide⟩, pA, _, rfl, pF, by omega, by omega, fun F1 v1 kv1 pv1 hv1 => ?_⟩
      refine ⟨_, rfl, _, _, rfl, rfl, ?_⟩
      refine ⟨_, rfl, _, rfl, _, _, rfl, rfl, .inl ⟨by decide, by decide⟩, pA, _, rfl, pv1, by omega, by omega, fun F2 v2 kv2 pv2 hv2 => ?_⟩
      refine ⟨_, rfl, _, _, rfl, rfl, by show 2 ≤ sizeLine; decide, fun t ht => ?_⟩
      have nD : D ∉ [pA] := by simpa using Dp
      have hD2 := kv2 _ _ (kv1 _ _ hDF nD) nD
      have ob2 := objs_off (objs_off ob kv1 pF fun s l => by simp) kv2 pv1 fun s l => by simp
      have lob := ob.len
      have Dt : D ≠ t := ne_of_none hD2 ht
      refine ⟨us.map V.ref, by rw [upd_ne Dt]; exact hD2, by rw [List.length_map, sizeLine_eq]; omega, us ++ [t], ps ++ [((v1 : Int) - wide, (v2 : Int) - wide)], by rw [upd_same]; simp, ((((kF.trans kv1).trans kv2).new' ht).own DH), ?_, ?_, by rw [List.length_append, li]; rfl, fun p hp => ?_⟩
      · obtain ⟨x, y, e, b⟩ := pv2
        refine ⟨x, y, ?_, b⟩
        rw [upd_ne Dp.symm, upd_ne (ne_of_none e ht)]
        exact e
      · exact Objs.grow (o := ptO) (s := ((v1 : Int) - wide, (v2 : Int) - wide)) ob2 hD2 (fun s => by simp) ht
      · rcases List.mem_append.mp hp with h | h
        · exact bd p h
        · rw [List.mem_singleton.mp h]
          show (-200000 ≤ (v1 : Int) - wide ∧ (v1 : Int) - wide ≤ 200000) ∧ -200000 ≤ (v2 : Int) - wide ∧ (v2 : Int) - wide ≤ 200000
          omega
    · obtain ⟨us, ps, hDF, kF, pF, ob, li, bd⟩ := h
      have lob := ob.len
      have sm : ∀ ps' : List Pt, (∀ p, p ∈ ps' → (-200000 ≤ p.1 ∧ p.1 ≤ 200000) ∧ -200000 ≤ p.2 ∧ p.2 ≤ 200000) → ∀ p, p ∈ ps' → small p := fun ps' hb p hp => by
        have := hb p hp
        unfold small
        omega
      refine ⟨_, rfl, D, us, ps, rfl, hDF, ob, sm ps bd, by omega, fun G1 b1 kb1 cv1 => ?_⟩
      refine ⟨b1, rfl, ?_⟩
      have bset : ∀ ps' : List Pt, ps'.Perm ps → ∀ p, p ∈ ps' → (-200000 ≤ p.1 ∧ p.1 ≤ 200000) ∧ -200000 ≤ p.2 ∧ p.2 ≤ 200000 := fun ps' pm p hp => bd p (pm.mem_iff.mp hp)
      show if (!b1) = true then _ else _
      cases b1 with
      | true =>
        refine iteF ?_
        have kG := kF.trans kb1.nil
        have pG := pF.kp kb1 (by simp)
        have hDG := kb1.same _ _ hDF
        have ob := ob.kp kb1
        have lob := ob.len
        refine ⟨_, rfl, D, us, ps, rfl, hDG, ob, sm ps bd, by omega, fun G3 b2 kb2 cv2 => ?_⟩
        refine ⟨b2, rfl, ?_⟩
        cases b2 with
        | true =>
          refine iteF ?_
          have cv := cv2 rfl
          have kG := kG.trans kb2.nil
          have pG := pG.kp kb2 (by simp)
          have hsG := kb2.same _ _ hDG
          have ob := ob.kp kb2
          have sp : D ≠ pA := Dp
          generalize D = sA at hsG sp ⊢
          generalize G3 = G at kG pG hsG ob ⊢
          refine ⟨by show 4 ≤ sizeLine; decide, fun b0 hb0 => ?_⟩
          have pb : PotL (upd G b0 (.lst [.int 1, .int 1, .int 7, .int 100000])) pA := pG.kp (Kp.new hb0 : Kp [] _ _) (by simp)
          have b0p : b0 ∉ [pA] := by simpa using pG.none hb0
          refine ⟨_, rfl, pA, 4, rfl, pb, by decide, by decide, fun F1 v k1' p1' hv' => ?_⟩
          have hb1 : F1 b0 = some (.lst ([1, 1, 7, 100000].map V.int)) := k1' _ _ upd_same b0p
          obtain ⟨sc, scm, sce⟩ := pick (xs := [1, 1, 7, 100000]) (v := v) (by show v < 4; omega) hb1
          have scb : 1 ≤ sc ∧ sc ≤ 100000 := by
            simp only [List.mem_cons, List.not_mem_nil, or_false] at scm
            rcases scm with h | h | h | h <;> omega
          refine ⟨b0, _, _, _, rfl, rfl, .inl hb1, sce, ?_⟩
          refine ⟨_, rfl, pA, 1001, rfl, p1', by decide, by decide, fun F2 vx k2' p2' hvx => ?_⟩
          refine ⟨_, _, rfl, rfl, ?_⟩
          refine ⟨_, rfl, pA, 1001, rfl, p2', by decide, by decide, fun F3 vy k3' p3' hvy => ?_⟩
          refine ⟨_, _, rfl, rfl, ?_⟩
          have sAn : sA ∉ [pA] := by simpa using sp
          have hs3 : F3 sA = some (.lst (us.map V.ref)) := k3' _ _ (k2' _ _ (k1' _ _ ((Kp.new hb0 : Kp [] _ _).same _ _ hsG) sAn) sAn) sAn
          have ob3 := objs_off (objs_off (objs_off (ob.new (v := .lst [.int 1, .int 1, .int 7, .int 100000]) hb0) k1' pb fun s l => by simp) k2' p1' fun s l => by simp) k3' p2' fun s l => by simp
          have kF3 : Kp [pA] H F3 := (((kG.new' hb0).trans k1').trans k2').trans k3'
          refine ⟨_, rfl, sA, rfl, ⟨_, SqL.of hs3⟩, fun D2 hD2 => ?_⟩
          refine lc_list (K := K) (a := sA) (xs := us.map V.ref) (fun i F => ∃ ws, F D2 = some (.lst (ws.map V.ref)) ∧ Kp [] F3 F ∧ Objs F ptO ws ((ps.take i).map fun p => (p.1 * sc + ((vx : Int) - 500), p.2 * sc + ((vy : Int) - 500)))) ⟨[], upd_same, Kp.new hD2, .nil⟩ (fun i F _ h => ?_) (fun i x F hx h => ?_) (fun F h => ?_)
          · obtain ⟨_, _, k, _⟩ := h
            exact SqL.of (k.same _ _ hs3)
          · obtain ⟨ws, hDF2, kF2, ow⟩ := h
            obtain ⟨u, r, rfl, _, hr', huo⟩ := objs_iat ob3 hx
            have il := (List.getElem?_eq_some_iff.mp hr').1
            have iu : Sq F u [.int r.1, .int r.2] := .inr (.inl (kF2.same _ _ huo))
            refine ⟨rfl, _, rfl, u, _, 0, _, rfl, rfl, iu, rfl, _, rfl, _, _, rfl, rfl, .inr ⟨by omega, by omega⟩, _, rfl, _, _, rfl, rfl, ?_⟩
            refine ⟨_, rfl, u, _, 1, _, rfl, rfl, iu, rfl, _, rfl, _, _, rfl, rfl, .inr ⟨by omega, by omega⟩, _, rfl, _, _, rfl, rfl, by show 2 ≤ sizeLine; decide, fun z hz => ?_⟩
            have Dz : D2 ≠ z := ne_of_none hDF2 hz
            have lw := ow.len
            rw [List.length_map, List.length_take] at lw
            refine ⟨ws.map V.ref, by rw [upd_ne Dz]; exact hDF2, by rw [List.length_map, sizeLine_eq]; omega, ws ++ [z], by rw [upd_same]; simp, (kF2.new' hz).own hD2, ?_⟩
            rw [take_snoc hr', List.map_append]
            exact Objs.grow (o := ptO) (s := (r.1 * sc + ((vx : Int) - 500), r.2 * sc + ((vy : Int) - 500))) ow hDF2 (fun s => by simp) hz
          · obtain ⟨ws, hDF2, kF2, ow⟩ := h
            rw [List.length_map, lob, List.take_length] at ow
            refine ⟨D2, _, rfl, hDF2, fun t ht => ?_⟩
            have kz := kF2.new' (o := .tup (ws.map V.ref)) ht
            refine q _ t ws _ (kF3.trans kz.nil) (p3'.kp kz (by simp)) upd_same (ow.new ht) (by rw [List.length_map]; exact li) (cv.scale (by omega)) fun p hp => ?_
            obtain ⟨r, hr, rfl⟩ := List.mem_map.mp hp
            obtain ⟨⟨b1', b2'⟩, b3', b4'⟩ := bd r hr
            have m1 := Int.mul_le_mul_of_nonneg_right b1' (show 0 ≤ sc by omega)
            have m2 := Int.mul_le_mul_of_nonneg_right b2' (show 0 ≤ sc by omega)
            have m3 := Int.mul_le_mul_of_nonneg_right b3' (show 0 ≤ sc by omega)
            have m4 := Int.mul_le_mul_of_nonneg_right b4' (show 0 ≤ sc by omega)
            unfold small
            show (_ < r.1 * sc + ((vx : Int) - 500) ∧ r.1 * sc + ((vx : Int) - 500) < _) ∧ _ < r.2 * sc + ((vy : Int) - 500) ∧ r.2 * sc + ((vy : Int) - 500) < _
            generalize r.1 * sc = X1 at m1 m2 ⊢
            generalize r.2 * sc = Y1 at m3 m4 ⊢
            omega
        | false =>
          refine iteT ?_
          refine ⟨_, rfl, _, rfl, pA, m, rfl, pG.kp kb2 (by simp), m0, m9, fun G4 sA us ps kA pAr hp0 hsG ob li cv bd4 => ?_⟩
          have sp := (pG.kp kb2 (by simp)).none hp0
          have kG := (kG.trans kb2.nil).trans kA
          have pG := pAr
          have lob := ob.len
          have bd : ∀ p, p ∈ ps → (-200000 ≤ p.1 ∧ p.1 ≤ 200000) ∧ -200000 ≤ p.2 ∧ p.2 ≤ 200000 := fun p hp => by have := bd4 p hp; omega
          generalize G4 = G at kG pG hsG ob ⊢
          refine ⟨by show 4 ≤ sizeLine; decide, fun b0 hb0 => ?_⟩
          have pb : PotL (upd G b0 (.lst [.int 1, .int 1, .int 7, .int 100000])) pA := pG.kp (Kp.new hb0 : Kp [] _ _) (by simp)
          have b0p : b0 ∉ [pA] := by simpa using pG.none hb0
          refine ⟨_, rfl, pA, 4, rfl, pb, by decide, by decide, fun F1 v k1' p1' hv' => ?_⟩
          have hb1 : F1 b0 = some (.lst ([1, 1, 7, 100000].map V.int)) := k1' _ _ upd_same b0p
          obtain ⟨sc, scm, sce⟩ := pick (xs := [1, 1, 7, 100000]) (v := v) (by show v < 4; omega) hb1
          have scb : 1 ≤ sc ∧ sc ≤ 100000 := by
            simp only [List.mem_cons, List.not_mem_nil, or_false] at scm
            rcases scm with h | h | h | h <;> omega
          refine ⟨b0, _, _, _, rfl, rfl, .inl hb1, sce, ?_⟩
          refine ⟨_, rfl, pA, 1001, rfl, p1', by decide, by decide, fun F2 vx k2' p2' hvx => ?_⟩
          refine ⟨_, _, rfl, rfl, ?_⟩
          refine ⟨_, rfl, pA, 1001, rfl, p2', by decide, by decide, fun F3 vy k3' p3' hvy => ?_⟩
          refine ⟨_, _, rfl, rfl, ?_⟩
          have sAn : sA ∉ [pA] := by simpa using sp
          have hs3 : F3 sA = some (.lst (us.map V.ref)) := k3' _ _ (k2' _ _ (k1' _ _ ((Kp.new hb0 : Kp [] _ _).same _ _ hsG) sAn) sAn) sAn
          have ob3 := objs_off (objs_off (objs_off (ob.new (v := .lst [.int 1, .int 1, .int 7, .int 100000]) hb0) k1' pb fun s l => by simp) k2' p1' fun s l => by simp) k3' p2' fun s l => by simp
          have kF3 : Kp [pA] H F3 := (((kG.new' hb0).trans k1').trans k2').trans k3'
          refine ⟨_, rfl, sA, rfl, ⟨_, SqL.of hs3⟩, fun D2 hD2 => ?_⟩
          refine lc_list (K := K) (a := sA) (xs := us.map V.ref) (fun i F => ∃ ws, F D2 = some (.lst (ws.map V.ref)) ∧ Kp [] F3 F ∧ Objs F ptO ws ((ps.take i).map fun p => (p.1 * sc + ((vx : Int) - 500), p.2 * sc + ((vy : Int) - 500)))) ⟨[], upd_same, Kp.new hD2, .nil⟩ (fun i F _ h => ?_) (fun i x F hx h => ?_) (fun F h => ?_)
          · obtain ⟨_, _, k, _⟩ := h
            exact SqL.of (k.same _ _ hs3)
          · obtain ⟨ws, hDF2, kF2, ow⟩ := h
            obtain ⟨u, r, rfl, _, hr', huo⟩ := objs_iat ob3 hx
            have il := (List.getElem?_eq_some_iff.mp hr').1
            have iu : Sq F u [.int r.1, .int r.2] := .inr (.inl (kF2.same _ _ huo))
            refine ⟨rfl, _, rfl, u, _, 0, _, rfl, rfl, iu, rfl, _, rfl, _, _, rfl, rfl, .inr ⟨by omega, by omega⟩, _, rfl, _, _, rfl, rfl, ?_⟩
            refine ⟨_, rfl, u, _, 1, _, rfl, rfl, iu, rfl, _, rfl, _, _, rfl, rfl, .inr ⟨by omega, by omega⟩, _, rfl, _, _, rfl, rfl, by show 2 ≤ sizeLine; decide, fun z hz => ?_⟩
            have Dz : D2 ≠ z := ne_of_none hDF2 hz
            have lw := ow.len
            rw [List.length_map, List.length_take] at lw
            refine ⟨ws.map V.ref, by rw [upd_ne Dz]; exact hDF2, by rw [List.length_map, sizeLine_eq]; omega, ws ++ [z], by rw [upd_same]; simp, (kF2.new' hz).own hD2, ?_⟩
            rw [take_snoc hr', List.map_append]
            exact Objs.grow (o := ptO) (s := (r.1 * sc + ((vx : Int) - 500), r.2 * sc + ((vy : Int) - 500))) ow hDF2 (fun s => by simp) hz
          · obtain ⟨ws, hDF2, kF2, ow⟩ := h
            rw [List.length_map, lob, List.take_length] at ow
            refine ⟨D2, _, rfl, hDF2, fun t ht => ?_⟩
            have kz := kF2.new' (o := .tup (ws.map V.ref)) ht
            refine q _ t ws _ (kF3.trans kz.nil) (p3'.kp kz (by simp)) upd_same (ow.new ht) (by rw [List.length_map]; exact li) (cv.scale (by omega)) fun p hp => ?_
            obtain ⟨r, hr, rfl⟩ := List.mem_map.mp hp
            obtain ⟨⟨b1', b2'⟩, b3', b4'⟩ := bd r hr
            have m1 := Int.mul_le_mul_of_nonneg_right b1' (show 0 ≤ sc by omega)
            have m2 := Int.mul_le_mul_of_nonneg_right b2' (show 0 ≤ sc by omega)
            have m3 := Int.mul_le_mul_of_nonneg_right b3' (show 0 ≤ sc by omega)
            have m4 := Int.mul_le_mul_of_nonneg_right b4' (show 0 ≤ sc by omega)
            unfold small
            show (_ < r.1 * sc + ((vx : Int) - 500) ∧ r.1 * sc + ((vx : Int) - 500) < _) ∧ _ < r.2 * sc + ((vy : Int) - 500) ∧ r.2 * sc + ((vy : Int) - 500) < _
            generalize r.1 * sc = X1 at m1 m2 ⊢
            generalize r.2 * sc = Y1 at m3 m4 ⊢
            omega
      | false =>
        refine iteT ?_
        refine ⟨_, rfl, .inl ⟨rfl, _, SqL.of (kb1.same _ _ hDF)⟩, D, _, rfl, rfl, kb1.same _ _ hDF, ?_⟩
        have e1 : (us.map V.ref).reverse = us.reverse.map V.ref := List.map_reverse.symm
        have ob1 := ob.kp kb1
        have kG : Kp [pA] H (upd G1 D (.lst (us.map V.ref).reverse)) := (kF.trans kb1.nil).own DH
        have pG : PotL (upd G1 D (.lst (us.map V.ref).reverse)) pA := by
          obtain ⟨x, y, e, b⟩ := pF.kp kb1 (by simp)
          exact ⟨x, y, by rw [upd_ne Dp.symm]; exact e, b⟩
        have hDG : upd G1 D (.lst (us.map V.ref).reverse) D = some (.lst (us.reverse.map V.ref)) := by rw [upd_same, e1]
        have ob : Objs (upd G1 D (.lst (us.map V.ref).reverse)) ptO us.reverse ps.reverse := Objs.put (Paired.rev ob1) (kb1.same _ _ hDF) (fun s => by simp)
        have li : ps.reverse.length = m := by rw [List.length_reverse]; exact li
        have bd := bset _ (List.reverse_perm ps)
        generalize us.reverse = us at hDG ob
        generalize ps.reverse = ps at ob li bd
        have lob := ob.len
        refine ⟨_, rfl, D, us, ps, rfl, hDG, ob, sm ps bd, by omega, fun G3 b2 kb2 cv2 => ?_⟩
        refine ⟨b2, rfl, ?_⟩
        cases b2 with
        | true =>
          refine iteF ?_
          have cv := cv2 rfl
          have kG := kG.trans kb2.nil
          have pG := pG.kp kb2 (by simp)
          have hsG := kb2.same _ _ hDG
          have ob := ob.kp kb2
          have sp : D ≠ pA := Dp
          generalize D = sA at hsG sp ⊢
          generalize G3 = G at kG pG hsG ob ⊢
          refine ⟨by show 4 ≤ sizeLine; decide, fun b0 hb0 => ?_⟩
          have pb : PotL (upd G b0 (.lst [.int 1, .int 1, .int 7, .int 100000])) pA := pG.kp (Kp.new hb0 : Kp [] _ _) (by simp)
          have b0p : b0 ∉ [pA] := by simpa using pG.none hb0
          refine ⟨_, rfl, pA, 4, rfl, pb, by decide, by decide, fun F1 v k1' p1' hv' => ?_⟩
          have hb1 : F1 b0 = some (.lst ([1, 1, 7, 100000].map V.int)) := k1' _ _ upd_same b0p
          obtain ⟨sc, scm, sce⟩ := pick (xs := [1, 1, 7, 100000]) (v := v) (by show v < 4; omega) hb1
          have scb : 1 ≤ sc ∧ sc ≤ 100000 := by
            simp only [List.mem_cons, List.not_mem_nil, or_false] at scm
            rcases scm with h | h | h | h <;> omega
          refine ⟨b0, _, _, _, rfl, rfl, .inl hb1, sce, ?_⟩
          refine ⟨_, rfl, pA, 1001, rfl, p1', by decide, by decide, fun F2 vx k2' p2' hvx => ?_⟩
          refine ⟨_, _, rfl, rfl, ?_⟩
          refine ⟨_, rfl, pA, 1001, rfl, p2', by decide, by decide, fun F3 vy k3' p3' hvy => ?_⟩
          refine ⟨_, _, rfl, rfl, ?_⟩
          have sAn : sA ∉ [pA] := by simpa using sp
          have hs3 : F3 sA = some (.lst (us.map V.ref)) := k3' _ _ (k2' _ _ (k1' _ _ ((Kp.new hb0 : Kp [] _ _).same _ _ hsG) sAn) sAn) sAn
          have ob3 := objs_off (objs_off (objs_off (ob.new (v := .lst [.int 1, .int 1, .int 7, .int 100000]) hb0) k1' pb fun s l => by simp) k2' p1' fun s l => by simp) k3' p2' fun s l => by simp
          have kF3 : Kp [pA] H F3 := (((kG.new' hb0).trans k1').trans k2').trans k3'
          refine ⟨_, rfl, sA, rfl, ⟨_, SqL.of hs3⟩, fun D2 hD2 => ?_⟩
          refine lc_list (K := K) (a := sA) (xs := us.map V.ref) (fun i F => ∃ ws, F D2 = some (.lst (ws.map V.ref)) ∧ Kp [] F3 F ∧ Objs F ptO ws ((ps.take i).map fun p => (p.1 * sc + ((vx : Int) - 500), p.2 * sc + ((vy : Int) - 500)))) ⟨[], upd_same, Kp.new hD2, .nil⟩ (fun i F _ h => ?_) (fun i x F hx h => ?_) (fun F h => ?_)
          · obtain ⟨_, _, k, _⟩ := h
            exact SqL.of (k.same _ _ hs3)
          · obtain ⟨ws, hDF2, kF2, ow⟩ := h
            obtain ⟨u, r, rfl, _, hr', huo⟩ := objs_iat ob3 hx
            have il := (List.getElem?_eq_some_iff.mp hr').1
            have iu : Sq F u [.int r.1, .int r.2] := .inr (.inl (kF2.same _ _ huo))
            refine ⟨rfl, _, rfl, u, _, 0, _, rfl, rfl, iu, rfl, _, rfl, _, _, rfl, rfl, .inr ⟨by omega, by omega⟩, _, rfl, _, _, rfl, rfl, ?_⟩
            refine ⟨_, rfl, u, _, 1, _, rfl, rfl, iu, rfl, _, rfl, _, _, rfl, rfl, .inr ⟨by omega, by omega⟩, _, rfl, _, _, rfl, rfl, by show 2 ≤ sizeLine; decide, fun z hz => ?_⟩
            have Dz : D2 ≠ z := ne_of_none hDF2 hz
            have lw := ow.len
            rw [List.length_map, List.length_take] at lw
            refine ⟨ws.map V.ref, by rw [upd_ne Dz]; exact hDF2, by rw [List.length_map, sizeLine_eq]; omega, ws ++ [z], by rw [upd_same]; simp, (kF2.new' hz).own hD2, ?_⟩
            rw [take_snoc hr', List.map_append]
            exact Objs.grow (o := ptO) (s := (r.1 * sc + ((vx : Int) - 500), r.2 * sc + ((vy : Int) - 500))) ow hDF2 (fun s => by simp) hz
          · obtain ⟨ws, hDF2, kF2, ow⟩ := h
            rw [List.length_map, lob, List.take_length] at ow
            refine ⟨D2, _, rfl, hDF2, fun t ht => ?_⟩
            have kz := kF2.new' (o := .tup (ws.map V.ref)) ht
            refine q _ t ws _ (kF3.trans kz.nil) (p3'.kp kz (by simp)) upd_same (ow.new ht) (by rw [List.length_map]; exact li) (cv.scale (by omega)) fun p hp => ?_
            obtain ⟨r, hr, rfl⟩ := List.mem_map.mp hp
            obtain ⟨⟨b1', b2'⟩, b3', b4'⟩ := bd r hr
            have m1 := Int.mul_le_mul_of_nonneg_right b1' (show 0 ≤ sc by omega)
            have m2 := Int.mul_le_mul_of_nonneg_right b2' (show 0 ≤ sc by omega)
            have m3 := Int.mul_le_mul_of_nonneg_right b3' (show 0 ≤ sc by omega)
            have m4 := Int.mul_le_mul_of_nonneg_right b4' (show 0 ≤ sc by omega)
            unfold small
            show (_ < r.1 * sc + ((vx : Int) - 500) ∧ r.1 * sc + ((vx : Int) - 500) < _) ∧ _ < r.2 * sc + ((vy : Int) - 500) ∧ r.2 * sc + ((vy : Int) - 500) < _
            generalize r.1 * sc = X1 at m1 m2 ⊢
            generalize r.2 * sc = Y1 at m3 m4 ⊢
            omega
        | false =>
          refine iteT ?_
          refine ⟨_, rfl, _, rfl, pA, m, rfl, pG.kp kb2 (by simp), m0, m9, fun G4 sA us ps kA pAr hp0 hsG ob li cv bd4 => ?_⟩
          have sp := (pG.kp kb2 (by simp)).none hp0
          have kG := (kG.trans kb2.nil).trans kA
          have pG := pAr
          have lob := ob.len
          have bd : ∀ p, p ∈ ps → (-200000 ≤ p.1 ∧ p.1 ≤ 200000) ∧ -200000 ≤ p.2 ∧ p.2 ≤ 200000 := fun p hp => by have := bd4 p hp; omega
          generalize G4 = G at kG pG hsG ob ⊢
          refine ⟨by show 4 ≤ sizeLine; decide, fun b0 hb0 => ?_⟩
          have pb : PotL (upd G b0 (.lst [.int 1, .int 1, .int 7, .int 100000])) pA := pG.kp (Kp.new hb0 : Kp [] _ _) (by simp)
          have b0p : b0 ∉ [pA] := by simpa using pG.none hb0
          refine ⟨_, rfl, pA, 4, rfl, pb, by decide, by decide, fun F1 v k1' p1' hv' => ?_⟩
          have hb1 : F1 b0 = some (.lst ([1, 1, 7, 100000].map V.int)) := k1' _ _ upd_same b0p
          obtain ⟨sc, scm, sce⟩ := pick (xs := [1, 1, 7, 100000]) (v := v) (by show v < 4; omega) hb1
          have scb : 1 ≤ sc ∧ sc ≤ 100000 := by
            simp only [List.mem_cons, List.not_mem_nil, or_false] at scm
            rcases scm with h | h | h | h <;> omega
          refine ⟨b0, _, _, _, rfl, rfl, .inl hb1, sce, ?_⟩
          refine ⟨_, rfl, pA, 1001, rfl, p1', by decide, by decide, fun F2 vx k2' p2' hvx => ?_⟩
          refine ⟨_, _, rfl, rfl, ?_⟩
          refine ⟨_, rfl, pA, 1001, rfl, p2', by decide, by decide, fun F3 vy k3' p3' hvy => ?_⟩
          refine ⟨_, _, rfl, rfl, ?_⟩
          have sAn : sA ∉ [pA] := by simpa using sp
          have hs3 : F3 sA = some (.lst (us.map V.ref)) := k3' _ _ (k2' _ _ (k1' _ _ ((Kp.new hb0 : Kp [] _ _).same _ _ hsG) sAn) sAn) sAn
          have ob3 := objs_off (objs_off (objs_off (ob.new (v := .lst [.int 1, .int 1, .int 7, .int 100000]) hb0) k1' pb fun s l => by simp) k2' p1' fun s l => by simp) k3' p2' fun s l => by simp
          have kF3 : Kp [pA] H F3 := (((kG.new' hb0).trans k1').trans k2').trans k3'
          refine ⟨_, rfl, sA, rfl, ⟨_, SqL.of hs3⟩, fun D2 hD2 => ?_⟩
          refine lc_list (K := K) (a := sA) (xs := us.map V.ref) (fun i F => ∃ ws, F D2 = some (.lst (ws.map V.ref)) ∧ Kp [] F3 F ∧ Objs F ptO ws ((ps.take i).map fun p => (p.1 * sc + ((vx : Int) - 500), p.2 * sc + ((vy : Int) - 500)))) ⟨[], upd_same, Kp.new hD2, .nil⟩ (fun i F _ h => ?_) (fun i x F hx h => ?_) (fun F h => ?_)
          · obtain ⟨_, _, k, _⟩ := h
            exact SqL.of (k.same _ _ hs3)
          · obtain ⟨ws, hDF2, kF2, ow⟩ := h
            obtain ⟨u, r, rfl, _, hr', huo⟩ := objs_iat ob3 hx
            have il := (List.getElem?_eq_some_iff.mp hr').1
            have iu : Sq F u [.int r.1, .int r.2] := .inr (.inl (kF2.same _ _ huo))
            refine ⟨rfl, _, rfl, u, _, 0, _, rfl, rfl, iu, rfl, _, rfl, _, _, rfl, rfl, .inr ⟨by omega, by omega⟩, _, rfl, _, _, rfl, rfl, ?_⟩
            refine ⟨_, rfl, u, _, 1, _, rfl, rfl, iu, rfl, _, rfl, _, _, rfl, rfl, .inr ⟨by omega, by omega⟩, _, rfl, _, _, rfl, rfl, by show 2 ≤ sizeLine; decide, fun z hz => ?_⟩
            have Dz : D2 ≠ z := ne_of_none hDF2 hz
            have lw := ow.len
            rw [List.length_map, List.length_take] at lw
            refine ⟨ws.map V.ref, by rw [upd_ne Dz]; exact hDF2, by rw [List.length_map, sizeLine_eq]; omega, ws ++ [z], by rw [upd_same]; simp, (kF2.new' hz).own hD2, ?_⟩
            rw [take_snoc hr', List.map_append]
            exact Objs.grow (o := ptO) (s := (r.1 * sc + ((vx : Int) - 500), r.2 * sc + ((vy : Int) - 500))) ow hDF2 (fun s => by simp) hz
          · obtain ⟨ws, hDF2, kF2, ow⟩ := h
            rw [List.length_map, lob, List.take_length] at ow
            refine ⟨D2, _, rfl, hDF2, fun t ht => ?_⟩
            have kz := kF2.new' (o := .tup (ws.map V.ref)) ht
            refine q _ t ws _ (kF3.trans kz.nil) (p3'.kp kz (by simp)) upd_same (ow.new ht) (by rw [List.length_map]; exact li) (cv.scale (by omega)) fun p hp => ?_
            obtain ⟨r, hr, rfl⟩ := List.mem_map.mp hp
            obtain ⟨⟨b1', b2'⟩, b3', b4'⟩ := bd r hr
            have m1 := Int.mul_le_mul_of_nonneg_right b1' (show 0 ≤ sc by omega)
            have m2 := Int.mul_le_mul_of_nonneg_right b2' (show 0 ≤ sc by omega)
            have m3 := Int.mul_le_mul_of_nonneg_right b3' (show 0 ≤ sc by omega)
            have m4 := Int.mul_le_mul_of_nonneg_right b4' (show 0 ≤ sc by omega)
            unfold small
            show (_ < r.1 * sc + ((vx : Int) - 500) ∧ r.1 * sc + ((vx : Int) - 500) < _) ∧ _ < r.2 * sc + ((vy : Int) - 500) ∧ r.2 * sc + ((vy : Int) - 500) < _
            generalize r.1 * sc = X1 at m1 m2 ⊢
            generalize r.2 * sc = Y1 at m3 m4 ⊢
            omega
end
end Rd
set_option Elab.async false
set_option linter.all false
set_option maxRecDepth 100000
set_option maxHeartbeats 4000000
/-! The law's weights. -/
namespace Rd
open PySem PySem.Spec PyProof.Rows L2 Gw
section
variable {P : Program} {w : World} {K : PySem.W.Frag} {mg : Str → Option Value} {base : Heap}
theorem putK_mem {κ : Type} [DecidableEq κ] {kvs : List (κ × V)} {k k0 : κ} {v v0 : V} (h : (k, v) ∈ putK kvs k0 v0) : (k = k0 ∧ v = v0) ∨ (k, v) ∈ kvs := by
  unfold putK at h
  split at h
  · obtain ⟨x, hx, e⟩ := List.mem_map.mp h
    by_cases c : x.1 = k0
    · rw [if_pos c] at e
      exact .inl ⟨(congrArg Prod.fst e).symm.trans c, (congrArg Prod.snd e).symm⟩
    · rw [if_neg c] at e
      exact .inr (e ▸ hx)
  · rcases List.mem_append.mp h with h | h
    · exact .inr h
    · have := List.mem_singleton.mp h
      exact .inl ⟨congrArg Prod.fst this, congrArg Prod.snd this⟩
theorem putK_nd {κ : Type} [DecidableEq κ] {kvs : List (κ × V)} {k0 : κ} {v0 : V} (h : (kvs.map (·.1)).Nodup) : ((putK kvs k0 v0).map (·.1)).Nodup := by
  by_cases hk : k0 ∈ kvs.map (·.1)
  · have e : (putK kvs k0 v0).map (·.1) = kvs.map (·.1) := by
      unfold putK
      have : (kvs.any fun kv => decide (kv.1 = k0)) = true := by
        rw [List.any_eq_true]
        obtain ⟨x, hx, e⟩ := List.mem_map.mp hk
        exact ⟨x, hx, decide_eq_true e⟩
      rw [if_pos this, List.map_map]
      refine List.map_congr_left fun x _ => ?_
      show (if x.1 = k0 then (x.1, v0) else x).1 = x.1
      split <;> rfl
    rw [e]; exact h
  · rw [putK_new _ (valV_none.mpr hk), List.map_append, List.nodup_append]
    exact ⟨h, by simp, fun a ha b hb e => by
      have : b = k0 := by simpa using hb
      rw [this] at e
      exact hk (e ▸ ha)⟩
theorem sc_l_weights : FnScope ["_law_pot_here", "_law_web_here", "_law_rim", "_law_found", "_law_most", "_law_p", "_law_row", "_law_q"] ["_law_pot_here", "_law_web_here", "_law_rim"] (defScope s_l_weights) := ⟨rfl, rfl, rfl, by decide +kernel, rfl, by decide +kernel, by decide +kernel⟩
def sp_weights : Sp := fun vs H Q _ => ∃ (pA a b : Addr) (n : Nat) (R : Rows) (rim : List Nat), vs = [.ref pA, .ref a, .ref b] ∧ PotL H pA ∧ WebT H a n R ∧ Web n R ∧ n ≤ 9 ∧ H b = some (tuO rim) ∧ ∀ H' d kvs, Kp [pA] H H' → PotL H' pA → H' d = some (.dT kvs) → Wts n R rim kvs → Q (.ref d) H'
theorem ok_weights (T : Txt K mg) : Ok P w K mg base 2 "_law_weights" ["_law_pot_here", "_law_web_here", "_law_rim"] sp_weights := by
  have O_l_digit : Ok P w K mg base 1 "_law_digit" ["_law_pot_here", "_law_many"] sp_digit := ok_digit T
  refine def_ok T 52 rfl rfl sc_l_weights (fun _ _ _ _ _ _ us hl => match us, hl with | [_, _, _], _ => rfl) (fun vs H Q E h => ?_) (fun cdv A outer s H vs Q E hr h => ?_)
  · obtain ⟨_, _, _, _, _, _, rfl, _⟩ := h
    rfl
  · obtain ⟨pA, a, b, n, R, rim, rfl, pot, hw, W, n9, hb, q⟩ := h
    have hu : (A.deeper (envOfC "_law_weights" (defScope s_l_weights) s.heap.objs.size (He.ga K "_law_weights") cdv)).units + 1 < cLine := Nat.lt_of_le_of_lt (Nat.add_le_add_left (by decide) _) (units200 hr)
    refine ⟨_, (pss_cons (ps_set (i := 3) sc_l_weights.nd rfl (by first | exact .inl rfl | exact .inr rfl) pe_dnewT)
      (pss_cons (ps_set (i := 4) sc_l_weights.nd rfl (by first | exact .inl rfl | exact .inr rfl) (pe_ix ixH (pe_lst (pa_cons pe_int (pa_cons pe_int (pa_cons pe_int (pa_cons (pe_op op_pow pe_int pe_int) pa_nil))))) (pe_f O_l_digit hr (by rfl) (pa_cons (pv 0) (pa_cons pe_int pa_nil))) (fun _ _ => rfl)))
      (pss_cons (ps_for PassesOwn.never rfl (pi_enumT (by rfl) T.z_enumerate (pa_cons (pv 1) pa_nil)) (pg_tup (by rfl) (pgs_cons (pg_name (i := 5) sc_l_weights.nd rfl (by first | exact .inl rfl | exact .inr rfl)) (pgs_cons (pg_name (i := 6) sc_l_weights.nd rfl (by first | exact .inl rfl | exact .inr rfl)) pgs_nil))) (pss_one (ps_for PassesOwn.never rfl (pi_tup (pv 6)) (pg_name (i := 7) sc_l_weights.nd rfl (by first | exact .inl rfl | exact .inr rfl)) (pss_one (ps_if (PW.pt (pw_and (pt_cmpR op_ninH (pv 5) (pv 2) (by rfl)) (pw_and (pt_cmpR op_gt (pv 4) pe_int (nomark _)) (pw_and1 (pt_cmpR op_gt (pe_f O_l_digit hr (by rfl) (pa_cons (pv 0) (pa_cons pe_int pa_nil))) pe_int (nomark _)))))) (pss_one (ps_dput hu (pv 3) (pe_tup (pa_cons (pv 5) (pa_cons (pv 7) pa_nil))) (pe_op op_add pe_int (pe_f O_l_digit hr (by rfl) (pa_cons (pv 0) (pa_cons (pv 4) pa_nil)))) rfl)) pss_nil)))))
      (pss_one (ps_ret (pv 3)))))), ?_⟩
    obtain ⟨fr, hw1, hw2⟩ := id hw
    refine fun d hd => ?_
    have dp := pot.none hd
    have k0 : Kp [pA] H (upd H d (.dT [])) := Kp.new hd
    have p0 : PotL (upd H d (.dT [])) pA := pot.kp (Kp.new hd : Kp [] _ _) (by simp)
    refine ⟨_, _, rfl, rfl, ⟨by decide, by decide, by decide⟩, by show 4 ≤ sizeLine; decide, fun b0 hb0 => ?_⟩
    have pb : PotL (upd (upd H d (.dT [])) b0 (.lst [.int 1, .int 3, .int 60, .int (10 ^ (6 : Int).toNat)])) pA := p0.kp (Kp.new hb0 : Kp [] _ _) (by simp)
    have b0p : b0 ∉ [pA] := by simpa using p0.none hb0
    have db0 : d ≠ b0 := ne_of_none upd_same hb0
    have hd0 : upd (upd H d (.dT [])) b0 (.lst [.int 1, .int 3, .int 60, .int (10 ^ (6 : Int).toNat)]) d = some (.dT []) := by rw [upd_ne db0, upd_same]
    refine ⟨_, rfl, pA, 4, rfl, pb, by decide, by decide, fun H1 v k1 p1 hv => ?_⟩
    have hb1 : H1 b0 = some (.lst ([1, 3, 60, 10 ^ (6 : Int).toNat].map V.int)) := k1 _ _ upd_same b0p
    obtain ⟨mo, mom, moe⟩ := pick (xs := [1, 3, 60, 10 ^ (6 : Int).toNat]) (v := v) (by show v < 4; omega) hb1
    have mob : 1 ≤ mo ∧ mo ≤ 1000000 := by
      simp only [List.mem_cons, List.not_mem_nil, or_false] at mom
      rcases mom with h | h | h | h
      · omega
      · omega
      · omega
      · rw [h]; decide
    refine ⟨b0, _, _, _, rfl, rfl, .inl hb1, moe, ?_⟩
    have dn : d ∉ [pA] := by simpa using dp
    have hd1 := k1 _ _ hd0 dn
    have kH1 : Kp [pA] H H1 := (k0.new' hb0).trans k1
    have noP : ∀ {b : Addr} {o : HO}, H b = some o → (∀ l, o ≠ .lst l) → b ∉ [pA] := fun {b o} e no z => by
      obtain ⟨x, y, e3, _⟩ := pot
      rw [List.mem_singleton.mp z, e3] at e
      exact no _ (Option.some.inj e).symm
    have an := noP hw1 fun l z => nomatch z
    have bn := noP hb fun l z => nomatch z
    have rowk : ∀ {G : Hp} {i : Nat}, Kp [pA] H G → i < n → FzT G (fr i) (nVs (R i)) := fun {G i} kG hi => by
      obtain ⟨o, _, e⟩ := hw2 i hi
      exact (hw2 i hi).kp kG (noP e fun l z => nomatch z)
    refine ⟨_, rfl, a, _, rfl, kH1 _ _ hw1 an, ?_⟩
    refine for_enumT (a := a) (xs := (List.range n).map fun p => V.ref (fr p)) (fun i σ G => ∃ kvs v5 v6 v7, σ = [some (.ref pA), some (.ref a), some (.ref b), some (.ref d), some (.int mo), v5, v6, v7] ∧ Kp [pA] H G ∧ PotL G pA ∧ G d = some (.dT kvs) ∧ Wts n R rim kvs ∧ kvs.length ≤ 9 * i) ⟨[], _, _, _, rfl, kH1, p1, hd1, ⟨by simp, by simp⟩, by simp⟩ (fun i σ G h => ?_) (fun i x t σ G hx h ht => ?_) (fun σ G h => ?_)
    · obtain ⟨_, _, _, _, _, k, _⟩ := h
      exact k _ _ hw1 an
    · obtain ⟨kvs, v5, v6, v7, rfl, kG, pG, hdG, wts, lk⟩ := h
      have hin : i < n := by
        have := (List.getElem?_eq_some_iff.mp hx).1
        rwa [List.length_map, List.length_range] at this
      rw [range_at hin] at hx
      obtain rfl := Option.some.inj hx
      refine ⟨t, _, rfl, SqT.of upd_same, rfl, _, _, rfl, _, _, rfl, rfl, ?_⟩
      have kG1 : Kp [pA] H (upd G t (.tup [.int (i : Nat), .ref (fr i)])) := kG.new' ht
      have pG1 : PotL (upd G t (.tup [.int (i : Nat), .ref (fr i)])) pA := pG.kp (Kp.new ht : Kp [] _ _) (by simp)
      have hd2 : upd G t (.tup [.int (i : Nat), .ref (fr i)]) d = some (.dT kvs) := by rw [upd_ne (ne_of_none hdG ht)]; exact hdG
      generalize upd G t (.tup [.int (i : Nat), .ref (fr i)]) = G1 at kG1 pG1 hd2 ⊢
      have r9 := row_le W n9 i hin
      refine ⟨_, rfl, fr i, rfl, ⟨_, (rowk kG1 hin).t⟩, ?_⟩
      refine for_tup (K := K) (xs := nVs (R i)) (fun j σ G => ∃ kvs v7, σ = [some (.ref pA), some (.ref a), some (.ref b), some (.ref d), some (.int mo), some (nV i), some (.ref (fr i)), v7] ∧ Kp [pA] H G ∧ PotL G pA ∧ G d = some (.dT kvs) ∧ Wts n R rim kvs ∧ kvs.length ≤ 9 * i + j) ⟨kvs, _, rfl, kG1, pG1, hd2, wts, lk⟩ (fun j σ G _ h => ?_) (fun j x σ G hx h => ?_) (fun σ G h => ?_)
      · obtain ⟨_, _, _, k, _⟩ := h
        exact (rowk k hin).t
      · obtain ⟨kvs, v7, rfl, kG, pG, hdG, wts, lk⟩ := h
        rw [List.getElem?_map] at hx
        obtain ⟨y, hy, rfl⟩ := Option.map_eq_some_iff.mp hx
        have yR := List.mem_of_getElem? hy
        have jl := (List.getElem?_eq_some_iff.mp hy).1
        refine ⟨nV i, rfl, _, rfl, b, nVs rim, rfl, .inr (.inl (kG _ _ hb bn)), rfl, flat_nVs _, _, rfl, ?_⟩
        rw [inV_nVs]
        by_cases c1 : i ∈ rim
        · rw [decide_eq_true c1]
          refine iteF ?_
          refine iteF ?_
          exact ⟨kvs, _, rfl, kG, pG, hdG, wts, by omega⟩
        · rw [decide_eq_false c1]
          refine iteT ?_
          refine ⟨_, rfl, _, _, rfl, rfl, _, rfl, ?_⟩
          by_cases c2 : (1 : Int) < mo
          · rw [decide_eq_true c2]
            refine iteT ?_
            refine ⟨_, rfl, pA, 5, rfl, pG, by decide, by decide, fun G2 v2 k2 p2 hv2 => ?_⟩
            have hd2 := k2 _ _ hdG dn
            refine ⟨_, _, rfl, rfl, _, rfl, ?_⟩
            by_cases c3 : (0 : Int) < (v2 : Int)
            · rw [decide_eq_true c3]
              refine iteT ?_
              refine ⟨_, rfl, _, rfl, pA, mo, rfl, p2, by omega, by omega, fun G3 v3 k3 p3 hv3 => ?_⟩
              have hd3 := k3 _ _ hd2 dn
              refine ⟨_, _, rfl, rfl, _, rfl, nV i, rfl, nV y, rfl, by show 2 ≤ sizeLine; decide, fun t2 ht2 => ?_⟩
              have hd4 : upd G3 t2 (stO (i, y)) d = some (.dT kvs) := by rw [upd_ne (ne_of_none hd3 ht2)]; exact hd3
              refine ⟨d, _, rfl, DPut.t (k := stK i y) hd4 upd_same (by rw [sizeLine_eq]; omega), ?_⟩
              refine ⟨_, _, rfl, ((((kG.trans k2).trans k3).new' ht2).own hd), ?_, upd_same, ⟨putK_nd wts.nd, fun k v h => ?_⟩, Nat.le_trans (putK_len _ _ _) (by omega)⟩
              · obtain ⟨x, z, e, bb⟩ := p3.kp (Kp.new ht2 (o := stO (i, y)) : Kp [] _ _) (by simp)
                exact ⟨x, z, by rw [upd_ne dp.symm]; exact e, bb⟩
              · rcases putK_mem h with ⟨rfl, rfl⟩ | h
                · exact ⟨i, y, _, rfl, rfl, by show (1 : Int) ≤ 1 + (v3 : Int); omega, by show 1 + (v3 : Int) ≤ 10000000; omega, hin, c1, yR⟩
                · exact wts.ok k v h
            · rw [decide_eq_false c3]
              refine iteF ?_
              exact ⟨kvs, _, rfl, kG.trans k2, p2, hd2, wts, by omega⟩
          · rw [decide_eq_false c2]
            refine iteF ?_
            refine iteF ?_
            exact ⟨kvs, _, rfl, kG, pG, hdG, wts, by omega⟩
      · obtain ⟨kvs, v7, rfl, kG, pG, hdG, wts, lk⟩ := h
        rw [List.length_map] at lk
        exact ⟨kvs, _, _, _, rfl, kG, pG, hdG, wts, by omega⟩
    · obtain ⟨kvs, v5, v6, v7, rfl, kG, pG, hdG, wts, lk⟩ := h
      exact ⟨_, rfl, q G d kvs kG pG hdG wts⟩
end
end Rd
set_option Elab.async false
set_option linter.all false
set_option maxRecDepth 100000
set_option maxHeartbeats 4000000
/-! What a drawing is. -/
namespace Rd
open PySem PySem.Spec PyProof.Rows L2 Gw
section
variable {P : Program} {w : World} {K : PySem.W.Frag} {mg : Str → Option Value} {base : Heap}
theorem sc_l_common : FnScope ["_law_one", "_law_other", "_law_a", "_law_b"] ["_law_one", "_law_other"] (defScope s_l_common) := ⟨rfl, rfl, rfl, by decide +kernel, rfl, by decide +kernel, by decide +kernel⟩
def sp_common : Sp := fun vs H Q _ => ∃ a b : Nat, vs = [nV a, nV b] ∧ Q (nV (a.gcd b)) H
theorem ok_common (T : Txt K mg) : Ok P w K mg base 1 "_law_common" ["_law_one", "_law_other"] sp_common := by
  refine def_ok T 53 rfl rfl sc_l_common (fun _ _ _ _ _ _ us hl => match us, hl with | [_, _], _ => rfl) (fun vs H Q E h => ?_) (fun cdv A outer s H vs Q E hr h => ?_)
  · obtain ⟨a, b, rfl, _⟩ := h
    rfl
  · obtain ⟨a, b, rfl, q⟩ := h
    refine ⟨_, (pss_cons (ps_par (i := 2) (j := 3) (by rfl) sc_l_common.nd rfl rfl (by decide) rfl rfl (pa_cons (pv 0) (pa_cons (pv 1) pa_nil)) (by rfl))
      (pss_cons (ps_while PassesOwn.never (pt_cmpR op_gt (pv 3) pe_int (nomark _)) (pss_one (ps_par (i := 2) (j := 3) (by rfl) sc_l_common.nd rfl rfl (by decide) rfl rfl (pa_cons (pv 3) (pa_cons (pe_op op_modN (pv 2) (pv 3)) pa_nil)) (by rfl))))
      (pss_one (ps_ret (pv 2))))), ?_⟩
    refine ⟨_, rfl, _, rfl, _, _, rfl, ?_⟩
    refine while_by (fun σ H' => ∃ x y : Nat, σ = [some (nV a), some (nV b), some (.int x), some (.int y)] ∧ H' = H ∧ x.gcd y = a.gcd b) (fun σ _ => match σ with | [_, _, _, some (.int y)] => y.toNat | _ => 0) ⟨_, _, rfl, rfl, rfl⟩ ?_ (fun σ H Q Q' k h => ?_)
    · rintro σ H' ⟨x, y, rfl, rfl, e⟩
      refine ⟨_, rfl, _, _, rfl, rfl, _, rfl, ?_⟩
      by_cases hy : 0 < y
      · rw [decide_eq_true (show (0 : Int) < (y : Int) by omega)]
        refine iteT ?_
        refine ⟨_, rfl, _, rfl, _, rfl, _, _, rfl, rfl, by omega, _, _, rfl, ⟨y, x % y, ?_, rfl, ?_⟩, ?_⟩
        · show [some (nV a), some (nV b), some (V.int y), some (V.int ((x : Int).fmod y))] = _
          rw [Int.fmod_eq_emod_of_nonneg _ (by omega)]
          rfl
        · rw [Nat.gcd_comm y, ← Nat.gcd_rec y x, Nat.gcd_comm]
          exact e
        · show ((x : Int).fmod (y : Int)).toNat < (y : Int).toNat
          rw [Int.fmod_eq_emod_of_nonneg _ (by omega)]
          have := Nat.mod_lt x hy
          omega
      · rw [decide_eq_false (show ¬ (0 : Int) < (y : Int) by omega)]
        refine iteF ?_
        have : y = 0 := by omega
        subst this
        refine ⟨_, rfl, ?_⟩
        rw [← e, Nat.gcd_zero_right] at q
        exact q
    · obtain ⟨v, e1, i, j, e2, e3, k1, e4, h⟩ := h
      exact ⟨v, e1, i, j, e2, e3, k1, e4, k _ _ h⟩
theorem sc_l_is_fraction : FnScope ["_law_one", "_law_number"] ["_law_one"] (defScope s_l_is_fraction) := ⟨rfl, rfl, rfl, by decide +kernel, rfl, by decide +kernel, by decide +kernel⟩
def sp_is_fraction : Sp := fun vs H Q _ => ∃ (a : Addr) (p : Pt), vs = [.ref a] ∧ H a = some (ptO p) ∧ 0 < p.2 ∧ p.1.natAbs.gcd p.2.natAbs = 1 ∧ Q (.bl true) H
theorem ok_is_fraction (T : Txt K mg) : Ok P w K mg base 2 "_law_is_fraction" ["_law_one"] sp_is_fraction := by
  have O_l_common : Ok P w K mg base 1 "_law_common" ["_law_one", "_law_other"] sp_common := ok_common T
  refine def_ok T 54 rfl rfl sc_l_is_fraction (fun _ _ _ _ _ _ us hl => match us, hl with | [_], _ => rfl) (fun vs H Q E h => ?_) (fun cdv A outer s H vs Q E hr h => ?_)
  · obtain ⟨a, b, rfl, _⟩ := h
    rfl
  · obtain ⟨a, p, rfl, ha, p0, pg, q⟩ := h
    refine ⟨_, (pss_cons (ps_if (PW.pt (pw_or (pt_not (pt_val (pe_callB call_isi (by rfl) T.z_isinstance (by decide +kernel) (pa_cons (pv 0) (pa_cons (pe_bltn (v := .ty "tuple") (by rfl) T.z_tuple (by decide +kernel) rfl) pa_nil))))) (pw_or1 (pt_cmpR op_ne (pe_callB call_lenH (by rfl) T.z_len (by decide +kernel) (pa_cons (pv 0) pa_nil)) pe_int (nomark _))))) (pss_one (ps_ret pe_bl)) pss_nil)
      (pss_cons (ps_for PassesOwn.never rfl (pi_tup (pv 0)) (pg_name (i := 1) sc_l_is_fraction.nd rfl (by first | exact .inl rfl | exact .inr rfl)) (pss_one (ps_if (PW.pt (pw_or (pt_not (pt_val (pe_callB call_isi (by rfl) T.z_isinstance (by decide +kernel) (pa_cons (pv 1) (pa_cons (pe_bltn (v := .ty "int") (by rfl) T.z_int (by decide +kernel) rfl) pa_nil))))) (pw_or1 (pt_val (pe_callB call_isi (by rfl) T.z_isinstance (by decide +kernel) (pa_cons (pv 1) (pa_cons (pe_bltn (v := .ty "bool") (by rfl) T.z_bool (by decide +kernel) rfl) pa_nil))))))) (pss_one (ps_ret pe_bl)) pss_nil)))
      (pss_one (ps_ret (pe_and (pe_cmpR op_gt (pe_ix ixH (pv 0) pe_int (fun _ _ => rfl)) pe_int (nomark _)) (pe_one (pe_cmpR op_eq (pe_f O_l_common hr (by rfl) (pa_cons (pe_callB call_abs (by rfl) T.z_abs (by decide +kernel) (pa_cons (pe_ix ixH (pv 0) pe_int (fun _ _ => rfl)) pa_nil)) (pa_cons (pe_ix ixH (pv 0) pe_int (fun _ _ => rfl)) pa_nil))) pe_int (nomark _)))))))), ?_⟩
    have sa : Sq H a [.int p.1, .int p.2] := .inr (.inl ha)
    refine ⟨_, rfl, _, _, _, _, true, rfl, .ty _, .base (.tup ha), kit_ty (by decide +kernel), true, rfl, iteF ?_⟩
    refine ⟨_, rfl, a, _, rfl, sa, rfl, ?_⟩
    refine ⟨_, rfl, ?_⟩
    refine iteF ?_
    refine ⟨_, rfl, a, rfl, ⟨_, SqT.of ha⟩, ?_⟩
    refine for_tup (K := K) (xs := [.int p.1, .int p.2]) (fun i σ G => ∃ v1, σ = [some (.ref a), v1] ∧ G = H) ⟨_, rfl, rfl⟩ (fun i σ G _ h => ?_) (fun i x σ G hx h => ?_) (fun σ G h => ?_)
    · obtain ⟨_, _, rfl⟩ := h
      exact SqT.of ha
    · obtain ⟨v1, rfl, rfl⟩ := h
      obtain ⟨z, rfl⟩ : ∃ z : Int, x = .int z := by
        have := List.mem_of_getElem? hx
        simp only [List.mem_cons, List.not_mem_nil, or_false] at this
        rcases this with h | h
        · exact ⟨_, h⟩
        · exact ⟨_, h⟩
      refine ⟨_, rfl, _, _, _, _, true, rfl, .ty _, .base (.int z), kit_ty (by decide +kernel), true, rfl, iteF ?_⟩
      refine ⟨_, rfl, _, _, _, _, false, rfl, .ty _, .base (.int z), kit_ty (by decide +kernel), false, rfl, iteF ?_⟩
      exact ⟨_, rfl, rfl⟩
    · obtain ⟨v1, rfl, rfl⟩ := h
      refine ⟨_, rfl, a, _, 1, _, rfl, rfl, sa, rfl, _, _, rfl, rfl, _, rfl, ?_⟩
      rw [decide_eq_true p0]
      refine iteT ?_
      refine ⟨_, rfl, a, _, 0, _, rfl, rfl, sa, rfl, _, rfl, ?_⟩
      rw [abs_if]
      refine ⟨_, rfl, a, _, 1, _, rfl, rfl, sa, rfl, p.1.natAbs, p.2.natAbs, ?_, rfl, ?_⟩
      · show [V.int ((p.1.natAbs : Nat) : Int), V.int p.2] = [nV p.1.natAbs, nV p.2.natAbs]
        rw [show p.2 = ((p.2.natAbs : Nat) : Int) by omega]
        rfl
      · rw [pg]
        exact q
theorem sc_l_is_drawing : FnScope ["_law_found", "_law_many", "_law_point", "_law_one"] ["_law_found", "_law_many"] (defScope s_l_is_drawing) := ⟨rfl, rfl, rfl, by decide +kernel, rfl, by decide +kernel, by decide +kernel⟩
def Fr (p : Pt) : Prop := 0 < p.2 ∧ p.1.natAbs.gcd p.2.natAbs = 1
def sp_is_drawing : Sp := fun vs H Q _ => ∃ (a : Addr) (n : Nat) (f : Nat → Addr) (X Y : Nat → Pt), vs = [.ref a, nV n] ∧ H a = some (.tup ((List.range n).map fun i => V.ref (f i))) ∧ (∀ p, p < n → PtR H (f p) (X p) (Y p) ∧ Fr (X p) ∧ Fr (Y p)) ∧ ∀ H', Kp [] H H' → Q (.bl true) H'
theorem ok_is_drawing (T : Txt K mg) : Ok P w K mg base 3 "_law_is_drawing" ["_law_found", "_law_many"] sp_is_drawing := by
  have O_l_is_fraction : Ok P w K mg base 2 "_law_is_fraction" ["_law_one"] sp_is_fraction := ok_is_fraction T
  refine def_ok T 55 rfl rfl sc_l_is_drawing (fun _ _ _ _ _ _ us hl => match us, hl with | [_, _], _ => rfl) (fun vs H Q E h => ?_) (fun cdv A outer s H vs Q E hr h => ?_)
  · obtain ⟨a, _, _, _, _, rfl, _⟩ := h
    rfl
  · obtain ⟨a, n, f, X, Y, rfl, ha, pts, q⟩ := h
    refine ⟨_, (pss_cons (ps_if (PW.pt (pw_or (pt_not (pt_val (pe_callB call_isi (by rfl) T.z_isinstance (by decide +kernel) (pa_cons (pv 0) (pa_cons (pe_bltn (v := .ty "tuple") (by rfl) T.z_tuple (by decide +kernel) rfl) pa_nil))))) (pw_or1 (pt_cmpR op_ne (pe_callB call_lenH (by rfl) T.z_len (by decide +kernel) (pa_cons (pv 0) pa_nil)) (pv 1) (nomark _))))) (pss_one (ps_ret pe_bl)) pss_nil)
      (pss_cons (ps_for PassesOwn.never rfl (pi_tup (pv 0)) (pg_name (i := 2) sc_l_is_drawing.nd rfl (by first | exact .inl rfl | exact .inr rfl)) (pss_one (ps_if (PW.pt (pw_or (pt_not (pt_val (pe_callB call_isi (by rfl) T.z_isinstance (by decide +kernel) (pa_cons (pv 2) (pa_cons (pe_bltn (v := .ty "tuple") (by rfl) T.z_tuple (by decide +kernel) rfl) pa_nil))))) (pw_or (pt_cmpR op_ne (pe_callB call_lenH (by rfl) T.z_len (by decide +kernel) (pa_cons (pv 2) pa_nil)) pe_int (nomark _)) (pw_or1 (pt_not (pt_val (pe_callB (cr_all rfl) (by rfl) T.z_all (by decide +kernel) (pa_cons (pe_lc (own := [("_law_one", 3)]) (g := (gName 3)) rfl sc_l_is_drawing.nd (pi_tup (pv 2)) (blkOk_by (own := [("_law_one", 3)]) (N := ["_law_found", "_law_many", "_law_point", "_law_one"]) (sc := defScope s_l_is_drawing) (by decide +kernel)) (fun _ _ _ _ _ => (pg_name (i := 3) sc_l_is_drawing.nd rfl (by first | exact .inl rfl | exact .inr rfl))) (fun _ _ _ _ _ => pts_nil) (fun _ _ _ _ _ => (pe_f O_l_is_fraction hr (by rfl) (pa_cons (pv 3) pa_nil)))) pa_nil)))))))) (pss_one (ps_ret pe_bl)) pss_nil)))
      (pss_one (ps_ret pe_bl)))), ?_⟩
    have ln : ((List.range n).map fun i => V.ref (f i)).length = n := by rw [List.length_map, List.length_range]
    refine ⟨_, rfl, _, _, _, _, true, rfl, .ty _, .base (.tup ha), kit_ty (by decide +kernel), true, rfl, iteF ?_⟩
    refine ⟨_, rfl, a, _, rfl, .inr (.inl ha), _, rfl, rfl, _, rfl, ?_⟩
    rw [ln, decide_eq_true (show V.int (n : Int) = nV n from rfl)]
    refine iteF ?_
    refine ⟨_, rfl, a, rfl, ⟨_, SqT.of ha⟩, ?_⟩
    refine for_tup (K := K) (xs := (List.range n).map fun i => V.ref (f i)) (fun i σ G => ∃ v2, σ = [some (.ref a), some (nV n), v2, none] ∧ Kp [] H G) ⟨_, rfl, Kp.refl⟩ (fun i σ G _ h => ?_) (fun i x σ G hx h => ?_) (fun σ G h => ?_)
    · obtain ⟨_, _, k⟩ := h
      exact SqT.of (k.same _ _ ha)
    · obtain ⟨v2, rfl, kG⟩ := h
      have hin : i < n := by
        have := (List.getElem?_eq_some_iff.mp hx).1
        rwa [ln] at this
      rw [range_at hin] at hx
      obtain rfl := Option.some.inj hx
      obtain ⟨pt, fx, fy⟩ := pts i hin
      obtain ⟨t1, t2, e1, e2, e3⟩ := pt.kp kG
      refine ⟨_, rfl, _, _, _, _, true, rfl, .ty _, .base (.tup e1), kit_ty (by decide +kernel), true, rfl, iteF ?_⟩
      refine ⟨_, rfl, f i, _, rfl, .inr (.inl e1), rfl, _, rfl, iteF ?_⟩
      refine ⟨_, rfl, f i, rfl, ⟨_, SqT.of e1⟩, fun D hD => ?_⟩
      refine lc_tup (K := K) (a := f i) (xs := [.ref t1, .ref t2]) (fun j F => F = upd G D (.lst ((List.replicate j true).map V.bl))) rfl (fun j F _ h => ?_) (fun j x F hx h => ?_) (fun F h => ?_)
      · subst h
        exact SqT.of (by rw [upd_ne (ne_of_none e1 hD)]; exact e1)
      · subst h
        have jl := (List.getElem?_eq_some_iff.mp hx).1
        have mem := List.mem_of_getElem? hx
        simp only [List.mem_cons, List.not_mem_nil, or_false] at mem
        have fin : upd (upd G D (.lst ((List.replicate j true).map V.bl))) D (.lst ((List.replicate j true).map V.bl ++ [.bl true])) = upd G D (.lst ((List.replicate (j + 1) true).map V.bl)) := by
          rw [upd_upd, List.replicate_succ', List.map_append]; rfl
        have jl2 : j < 2 := jl
        rcases mem with rfl | rfl
        · exact ⟨rfl, _, rfl, t1, X i, rfl, by rw [upd_ne (ne_of_none e2 hD)]; exact e2, fx.1, fx.2, _, upd_same, by rw [List.length_map, List.length_replicate, sizeLine_eq]; omega, fin⟩
        · exact ⟨rfl, _, rfl, t2, Y i, rfl, by rw [upd_ne (ne_of_none e3 hD)]; exact e3, fy.1, fy.2, _, upd_same, by rw [List.length_map, List.length_replicate, sizeLine_eq]; omega, fin⟩
      · subst h
        refine ⟨D, _, rfl, SqL.of upd_same, true, congrArg V.bl (all_rep _), iteF ?_⟩
        exact ⟨_, rfl, kG.new' hD⟩
    · obtain ⟨v2, rfl, kG⟩ := h
      exact q G kG
end
end Rd
set_option Elab.async false
set_option linter.all false
set_option maxRecDepth 100000
set_option maxHeartbeats 4000000
/-! Where a face begins; a point and its mirror. -/
namespace Rd
open PySem PySem.Spec PyProof.Rows L2 Gw
section
variable {P : Program} {w : World} {K : PySem.W.Frag} {mg : Str → Option Value} {base : Heap}
theorem sc_l_about : FnScope ["_law_point", "_law_mirror"] ["_law_point", "_law_mirror"] (defScope s_l_about) := ⟨rfl, rfl, rfl, by decide +kernel, rfl, by decide +kernel, by decide +kernel⟩
def sp_about : Sp := fun vs H Q _ => ∃ (t : Addr) (x y : V) (b : Bool), vs = [.ref t, .bl b] ∧ H t = some (.tup [x, y]) ∧ ∀ t' H', Kp [] H H' → H' t' = some (.tup [if b then y else x, if b then x else y]) → Q (.ref t') H'
theorem ok_about (T : Txt K mg) : Ok P w K mg base 1 "_law_about" ["_law_point", "_law_mirror"] sp_about := by
  refine def_ok T 57 rfl rfl sc_l_about (fun _ _ _ _ _ _ us hl => match us, hl with | [_, _], _ => rfl) (fun vs H Q E h => ?_) (fun cdv A outer s H vs Q E hr h => ?_)
  · obtain ⟨a, _, _, _, rfl, _⟩ := h
    rfl
  · obtain ⟨a, x, y, b, rfl, e1, q⟩ := h
    refine ⟨_, (pss_cons (ps_if (pt_val (pv 1)) (pss_one (ps_ret (pe_tup (pa_cons (pe_ix ixH (pv 0) pe_int (fun _ _ => rfl)) (pa_cons (pe_ix ixH (pv 0) pe_int (fun _ _ => rfl)) pa_nil))))) pss_nil)
      (pss_one (ps_ret (pv 0)))), ?_⟩
    refine ⟨_, rfl, ?_⟩
    cases b with
    | true =>
      refine ⟨true, rfl, iteT ?_⟩
      refine ⟨_, rfl, a, _, 1, _, rfl, rfl, .inr (.inl e1), rfl, _, rfl, a, _, 0, _, rfl, rfl, .inr (.inl e1), rfl, by show 2 ≤ sizeLine; decide, fun p hp => ?_⟩
      exact q p _ (Kp.new hp) upd_same
    | false =>
      refine ⟨false, rfl, iteF ?_⟩
      exact ⟨_, rfl, q a H Kp.refl e1⟩
theorem sc_l_begun : FnScope ["_law_rim", "_law_corners", "_law_many", "_law_k", "_law_pairs"] ["_law_rim", "_law_corners"] (defScope s_l_begun) := ⟨rfl, rfl, rfl, by decide +kernel, rfl, by decide +kernel, by decide +kernel⟩
def sp_begun : Sp := fun vs H Q _ => ∃ (a b : Addr) (l : List Nat) (cs : List V), vs = [.ref a, .ref b] ∧ H a = some (.lst (nVs l)) ∧ H b = some (.lst cs) ∧ cs.length = l.length ∧ l ≠ [] ∧ l.Nodup ∧ l.length ≤ 81 ∧
  ∀ t t1 t2 k m H', Kp [] H H' → H' t = some (.tup [.ref t1, .ref t2]) → H' t1 = some (.tup (nVs (l.drop k ++ l.take k))) → H' t2 = some (.tup (cs.drop k ++ cs.take k)) → (prs l)[k]? = some m → (∀ q, q ∈ prs l → lexS m q) → Q (.ref t) H'
theorem prs_len (l : List Nat) : (prs l).length = l.length := by
  have := congrArg List.length (prs_fst (l := l))
  rwa [List.length_map] at this
theorem prs_at {l : List Nat} {k : Nat} (h : k < l.length) : (prs l)[k]? = some (l.getD k 0, l.getD ((k + 1) % l.length) 0) := by
  have h1 : ((prs l).map (·.1))[k]? = some (l.getD k 0) := by
    rw [prs_fst, List.getD_eq_getElem?_getD, List.getElem?_eq_getElem h]; rfl
  have hk : k < (prs l).length := by rw [prs_len]; exact h
  have e : prs l = l.zip (l.drop 1 ++ l.take 1) := rfl
  rw [e, List.getElem?_zip_eq_some]
  refine ⟨by rw [List.getD_eq_getElem?_getD, List.getElem?_eq_getElem h]; rfl, ?_⟩
  by_cases hl : k + 1 < l.length
  · rw [Nat.mod_eq_of_lt hl, List.getElem?_append_left (by rw [List.length_drop]; omega), List.getElem?_drop, Nat.add_comm 1 k]
    simp [List.getD_eq_getElem?_getD, List.getElem?_eq_getElem hl]
  · have : k + 1 = l.length := by omega
    rw [this, Nat.mod_self, List.getElem?_append_right (by rw [List.length_drop]; omega), List.length_drop, show k - (l.length - 1) = 0 by omega, List.getElem?_take_of_lt (by omega)]
    simp [List.getD_eq_getElem?_getD, List.getElem?_eq_getElem (by omega : 0 < l.length)]
theorem prs_nodup {l : List Nat} (h : l.Nodup) : (prs l).Nodup := by
  have : ((prs l).map (·.1)).Nodup := by rw [prs_fst]; exact h
  exact List.Pairwise.imp (fun h e => h (by rw [e])) (List.pairwise_map.mp this)
theorem nVs_at {l : List Nat} {k : Nat} (h : k < l.length) : (nVs l)[k]? = some (nV (l.getD k 0)) := by
  rw [show nVs l = l.map nV from rfl, List.getElem?_map, List.getD_eq_getElem?_getD, List.getElem?_eq_getElem h]; rfl
theorem ok_begun (T : Txt K mg) : Ok P w K mg base 1 "_law_begun" ["_law_rim", "_law_corners"] sp_begun := by
  refine def_ok T 56 rfl rfl sc_l_begun (fun _ _ _ _ _ _ us hl => match us, hl with | [_, _], _ => rfl) (fun vs H Q E h => ?_) (fun cdv A outer s H vs Q E hr h => ?_)
  · obtain ⟨a, _, _, _, rfl, _⟩ := h
    rfl
  · obtain ⟨a, b, l, cs, rfl, ha, hb, hc, ne, nd, l81, q⟩ := h
    have hu : (A.deeper (envOfC "_law_begun" (defScope s_l_begun) s.heap.objs.size (He.ga K "_law_begun") cdv)).units + 1 < cLine := Nat.lt_of_le_of_lt (Nat.add_le_add_left (by decide) _) (units200 hr)
    have hu65 : (A.deeper (envOfC "_law_begun" (defScope s_l_begun) s.heap.objs.size (He.ga K "_law_begun") cdv)).units + 65 < cLine := Nat.lt_of_le_of_lt (Nat.add_le_add_left (by decide) _) (units200 hr)
    refine ⟨_, (pss_cons (ps_set (i := 2) sc_l_begun.nd rfl (by first | exact .inl rfl | exact .inr rfl) (pe_callB call_lenH (by rfl) T.z_len (by decide +kernel) (pa_cons (pv 0) pa_nil)))
      (pss_cons (ps_setLc (i := 4) (own := [("_law_k", 3)]) (g := (gName 3)) (by rfl) sc_l_begun.nd rfl rfl (sw_true rfl rfl rfl (by decide +kernel)) (pi_range1 (by rfl) T.z_range (pa_cons (pv 2) pa_nil)) (blkOk_by (own := [("_law_k", 3)]) (N := ["_law_rim", "_law_corners", "_law_many", "_law_k", "_law_pairs"]) (sc := defScope s_l_begun) (by decide +kernel)) (fun _ _ _ _ _ => (pg_name (i := 3) sc_l_begun.nd rfl (by first | exact .inl rfl | exact .inr rfl))) (fun _ _ _ _ _ => pts_nil) (fun _ _ _ _ _ => (pe_tup (pa_cons (pe_ix ixH (pv 0) (pv 3) (fun _ _ => rfl)) (pa_cons (pe_ix ixH (pv 0) (pe_op op_modN (pe_op op_add (pv 3) pe_int) (pv 2)) (fun _ _ => rfl)) pa_nil)))))
      (pss_cons (ps_set (i := 3) sc_l_begun.nd rfl (by first | exact .inl rfl | exact .inr rfl) (pe_bm PySem.F.plainAttrs_list PySem.F.slot_list_index PySem.F.type_list_index (mt_indexD hu65) (pv 4) (pa_cons (pe_callB (cr_minT rfl hu) (by rfl) T.z_min (by decide +kernel) (pa_cons (pv 4) pa_nil)) pa_nil)))
      (pss_one (ps_ret (pe_tup (pa_cons (pe_callTy call_tupH (by rfl) T.z_tuple (by decide +kernel) (pa_cons (pe_op op_cat (pe_slice sl_list (pv 0) (po_some (pv 3)) po_none) (pe_slice sl_list (pv 0) po_none (po_some (pv 3)))) pa_nil)) (pa_cons (pe_callTy call_tupH (by rfl) T.z_tuple (by decide +kernel) (pa_cons (pe_op op_cat (pe_slice sl_list (pv 1) (po_some (pv 3)) po_none) (pe_slice sl_list (pv 1) po_none (po_some (pv 3)))) pa_nil)) pa_nil)))))))), ?_⟩
    have ll : (nVs l).length = l.length := List.length_map _
    have l0 : 0 < l.length := List.length_pos_iff.mpr ne
    refine ⟨_, rfl, a, _, rfl, .inl ha, ?_⟩
    rw [ll]
    refine ⟨_, rfl, l.length, rfl, by omega, by omega, fun D hD => ?_⟩
    rw [show ((l.length : Nat) : Int).toNat = l.length by omega]
    refine lc_range (lo := 0) (n := l.length) (fun i F => ∃ us, F D = some (.lst (us.map V.ref)) ∧ Kp [] H F ∧ Objs F stO us ((prs l).take i)) ?_ (fun i F hi h => ?_) (fun F h => ?_)
    · exact ⟨[], upd_same, Kp.new hD, .nil⟩
    · obtain ⟨us, hDF, kF, ob⟩ := h
      have haF := kF.same _ _ ha
      have hm : (i + 1) % l.length < l.length := Nat.mod_lt _ l0
      have lob := ob.len
      refine ⟨rfl, _, rfl, _, rfl, a, _, i, _, rfl, by rw [Int.zero_add], .inl haF, atI_nat (nVs_at hi), ?_⟩
      refine ⟨_, rfl, _, rfl, _, _, rfl, rfl, ?_⟩
      refine ⟨_, rfl, _, _, rfl, rfl, by omega, ?_⟩
      have em : (0 + (i : Int) + 1).fmod (l.length : Int) = (((i + 1) % l.length : Nat) : Int) := by
        rw [Int.zero_add, Int.fmod_eq_emod_of_nonneg _ (by omega)]; rfl
      refine ⟨a, _, _, _, rfl, rfl, .inl haF, (congrArg (atI (nVs l)) em).trans (atI_nat (nVs_at hm)), by show 2 ≤ sizeLine; decide, fun t ht => ?_⟩
      have Dt : D ≠ t := ne_of_none hDF ht
      refine ⟨us.map V.ref, by rw [upd_ne Dt]; exact hDF, by rw [List.length_map, sizeLine_eq, lob, List.length_take]; omega, us ++ [t], by rw [upd_same]; simp, ((kF.new' ht).own hD), ?_⟩
      rw [take_snoc (prs_at hi)]
      exact Objs.grow (o := stO) (s := (l.getD i 0, l.getD ((i + 1) % l.length) 0)) ob hDF (fun s => by simp) ht
    · obtain ⟨us, hDF, kF, ob⟩ := h
      rw [List.take_of_length_le (by rw [prs_len]; omega)] at ob
      refine ⟨_, rfl, .inl ⟨rfl, _, SqL.of hDF⟩, _, rfl, D, us, prs l, rfl, hDF, ob.len, fun i t p ht hp => ?_, fun e => ne (by have := prs_len l; rw [e] at this; exact List.length_eq_zero_iff.mp this.symm), fun k t m ht hm hle => ?_⟩
      · obtain ⟨s, hs, e⟩ := Paired.at ob ht
        rw [hp] at hs
        cases hs
        exact e
      have kl := (List.getElem?_eq_some_iff.mp hm).1
      rw [prs_len] at kl
      have hle' : ∀ q, q ∈ prs l → lexS m q := hle
      obtain ⟨s, hs, hto⟩ := Paired.at ob ht
      rw [hm] at hs
      cases hs
      refine ⟨D, _, stD m, (prs l).map stD, k, stD m, rfl, rfl, (dd_sts hDF ob).1 _, (dd_st hto).1 _, sts_shaped (prs l), (dd_st hto).2, by rw [List.getElem?_map, hm]; rfl, by rw [stD_eqv]; simp, fun j z hj hz => ?_, ?_⟩
      · rw [List.getElem?_map] at hz
        obtain ⟨y, hy, rfl⟩ := Option.map_eq_some_iff.mp hz
        rw [stD_eqv, decide_eq_false]
        intro e
        subst e
        have jl := (List.getElem?_eq_some_iff.mp hy).1
        have := (List.getElem?_inj jl (prs_nodup nd)).mp (hy.trans hm.symm)
        omega
      · have haF := kF.same _ _ ha
        have hbF := kF.same _ _ hb
        have kln : k ≤ (nVs l).length := by omega
        have klc : k ≤ cs.length := by omega
        refine ⟨_, rfl, _, rfl, _, rfl, a, _, rfl, SqL.of haF, fun p1 hp1 => ?_⟩
        have ha1 : upd F p1 (.lst (cutV (nVs l) (some (k : Int)) none)) a = some (.lst (nVs l)) := by rw [upd_ne (ne_of_none haF hp1)]; exact haF
        refine ⟨_, rfl, _, rfl, _, rfl, a, _, rfl, SqL.of ha1, fun p2 hp2 => ?_⟩
        have h12 : p1 ≠ p2 := ne_of_none upd_same hp2
        rw [cut_drop _ kln, cut_take _ kln] at *
        refine ⟨p1, p2, _, _, rfl, rfl, by rw [upd_ne h12, upd_same], upd_same, by simp only [List.length_drop, List.length_take, ll, sizeLine_eq]; omega, fun p3 hp3 => ?_⟩
        have k3 : Kp [] H (upd (upd (upd F p1 (.lst ((nVs l).drop k))) p2 (.lst ((nVs l).take k))) p3 (.lst ((nVs l).drop k ++ (nVs l).take k))) := ((kF.new' hp1).new' hp2).new' hp3
        have h3 : upd (upd (upd F p1 (.lst ((nVs l).drop k))) p2 (.lst ((nVs l).take k))) p3 (.lst ((nVs l).drop k ++ (nVs l).take k)) p3 = some (.lst (nVs (l.drop k ++ l.take k))) := by
          rw [upd_same]; simp [nVs]
        generalize upd (upd (upd F p1 (.lst ((nVs l).drop k))) p2 (.lst ((nVs l).take k))) p3 (.lst ((nVs l).drop k ++ (nVs l).take k)) = H3 at k3 h3 ⊢
        refine ⟨p3, _, rfl, h3, fun q1 hq1 => ?_⟩
        have k4 := k3.new' (o := .tup (nVs (l.drop k ++ l.take k))) hq1
        have h4 : upd H3 q1 (.tup (nVs (l.drop k ++ l.take k))) q1 = some (.tup (nVs (l.drop k ++ l.take k))) := upd_same
        generalize upd H3 q1 (.tup (nVs (l.drop k ++ l.take k))) = H4 at k4 h4 ⊢
        have hb4 := k4.same _ _ hb
        refine ⟨_, rfl, _, rfl, _, rfl, b, _, rfl, SqL.of hb4, fun p4 hp4 => ?_⟩
        have hb5 : upd H4 p4 (.lst (cutV cs (some (k : Int)) none)) b = some (.lst cs) := by rw [upd_ne (ne_of_none hb4 hp4)]; exact hb4
        refine ⟨_, rfl, _, rfl, _, rfl, b, _, rfl, SqL.of hb5, fun p5 hp5 => ?_⟩
        have h45 : p4 ≠ p5 := ne_of_none upd_same hp5
        rw [cut_drop _ klc, cut_take _ klc] at *
        refine ⟨p4, p5, _, _, rfl, rfl, by rw [upd_ne h45, upd_same], upd_same, by simp only [List.length_drop, List.length_take, sizeLine_eq]; omega, fun p6 hp6 => ?_⟩
        have k6 := ((k4.new' hp4).new' hp5).new' (p := p6) (o := .lst (cs.drop k ++ cs.take k)) hp6
        have k6' : Kp [] H4 (upd (upd (upd H4 p4 (.lst (cs.drop k))) p5 (.lst (cs.take k))) p6 (.lst (cs.drop k ++ cs.take k))) := ((Kp.new hp4).new' hp5).new' hp6
        have h6 : upd (upd (upd H4 p4 (.lst (cs.drop k))) p5 (.lst (cs.take k))) p6 (.lst (cs.drop k ++ cs.take k)) p6 = some (.lst (cs.drop k ++ cs.take k)) := upd_same
        have h46 := k6'.same _ _ h4
        generalize upd (upd (upd H4 p4 (.lst (cs.drop k))) p5 (.lst (cs.take k))) p6 (.lst (cs.drop k ++ cs.take k)) = H6 at k6 h6 h46 ⊢
        refine ⟨p6, _, rfl, h6, fun q2 hq2 => ?_⟩
        refine ⟨by show 2 ≤ sizeLine; decide, fun t ht => ?_⟩
        have n12 := ne_of_none h46 hq2
        have e1 : upd H6 q2 (.tup (cs.drop k ++ cs.take k)) q1 = some (.tup (nVs (l.drop k ++ l.take k))) := by rw [upd_ne n12]; exact h46
        refine q t q1 q2 k m _ ((k6.new' hq2).new' ht) upd_same ?_ ?_ hm hle'
        · rw [upd_ne (ne_of_none e1 ht)]; exact e1
        · rw [upd_ne (ne_of_none upd_same ht)]; exact upd_same
end
end Rd
set_option Elab.async false
set_option linter.all false
set_option maxRecDepth 100000
set_option maxHeartbeats 4000000
/-! The law: what its walk needs. -/
namespace Rd
open PySem PySem.Spec PyProof.Rows L2 Gw
theorem Kp.off {pA : Addr} {H H1 H2 : Hp} (k : Kp [] H H1) (k2 : Kp [pA] H1 H2) (h : H pA = none) : Kp [] H H2 := fun b o e _ =>
  k2 b o (k.same _ _ e) fun z => by rw [List.mem_singleton.mp z, h] at e; cases e
theorem WebT.off {H H1 : Hp} {a pA : Addr} {n : Nat} {R : Rows} (h : WebT H a n R) (k : Kp [pA] H H1) (p : PotL H pA) : WebT H1 a n R := by
  obtain ⟨x, y, e, _⟩ := p
  obtain ⟨f, h1, h2⟩ := h
  refine ⟨f, k _ _ h1 fun z => ?_, fun p hp => ?_⟩
  · rw [List.mem_singleton.mp z, e] at h1; cases h1
  · obtain ⟨o, d, h3⟩ := h2 p hp
    exact ⟨o, d, k _ _ h3 fun z => by rw [List.mem_singleton.mp z, e] at h3; cases h3⟩
theorem at_off {H H1 : Hp} {a pA : Addr} {o : HO} (h : H a = some o) (k : Kp [pA] H H1) (n : a ≠ pA) : H1 a = some o := k _ _ h (by simpa using n)
theorem pot_ne {H : Hp} {a pA : Addr} {xs : List V} (p : PotL H pA) (h : H a = some (.tup xs)) : a ≠ pA := fun z => by
  obtain ⟨x, y, e, _⟩ := p
  rw [z, e] at h
  cases h
theorem pot_neT {H : Hp} {a pA : Addr} {xs : List (List Key × V)} (p : PotL H pA) (h : H a = some (.dT xs)) : a ≠ pA := fun z => by
  obtain ⟨x, y, e, _⟩ := p
  rw [z, e] at h
  cases h
theorem pot_neL {H : Hp} {a pA : Addr} {ts : List Addr} (p : PotL H pA) (h : H a = some (.lst (ts.map V.ref))) : a ≠ pA := fun z => by
  obtain ⟨x, y, e, _⟩ := p
  rw [z, e] at h
  cases ts <;> simp at h
theorem sqL_kp {K : PySem.W.Frag} {H H' : Hp} {a : Addr} {xs : List V} (h : SqL K H a xs) (k : Kp [] H H') : SqL K H' a xs := by
  rcases h with (h | ⟨u, h⟩) | h
  · exact .inl (.inl (k.same _ _ h))
  · exact .inl (.inr ⟨u, k.same _ _ h⟩)
  · exact .inr h
theorem fun_snoc (g : Nat → Addr) (z : Addr) (i : Nat) : some (HO.lst (((List.range i).map fun j => V.ref (g j)) ++ [.ref z])) = some (.lst ((List.range (i + 1)).map fun j => V.ref (if j = i then z else g j))) := by
  rw [List.range_succ, List.map_append]
  have e1 : (List.range i).map (fun j => V.ref (if j = i then z else g j)) = (List.range i).map fun j => V.ref (g j) := by
    refine List.map_congr_left fun j hj => ?_
    have : j ≠ i := by have := List.mem_range.mp hj; omega
    simp [this]
  rw [e1]
  simp
theorem inj_snoc {g : Nat → Addr} {z : Addr} {i : Nat} (inj : ∀ j k, j < i → k < i → g j = g k → j = k) (gz : ∀ j, j < i → g j ≠ z) {j k : Nat} (hj : j < i + 1) (hk : k < i + 1) (e : (if j = i then z else g j) = if k = i then z else g k) : j = k := by
  by_cases e1 : j = i
  · by_cases e2 : k = i
    · omega
    · simp only [e1, e2, if_true, if_false] at e
      exact absurd e.symm (gz k (by omega))
  · by_cases e2 : k = i
    · simp only [e1, e2, if_true, if_false] at e
      exact absurd e (gz j (by omega))
    · simp only [e1, e2, if_false] at e
      exact inj j k (by omega) (by omega) e
/-- two ways that meet, the one slot apart -/
theorem if_joinS {b : Bool} {T : Prop} {D : Ends} {σ : L2.St} {j : Nat} {a : Addr} {H : Hp} (Inv : Addr → Hp → Prop) (h3 : ∀ b G, Inv b G → tNext D (List.set σ j (some (.ref b))) G) (h1 : b = true → (∀ b G, Inv b G → tNext D (List.set σ j (some (.ref b))) G) → T) (h2 : b = false → Inv a H) : if b = true then T else tNext D (List.set σ j (some (.ref a))) H := by
  cases b with
  | true => exact h1 rfl h3
  | false => exact h3 a H (h2 rfl)
theorem wipe2 (σ : L2.St) {i j : Nat} (x y : Option V) (h : i ≠ j) : wipe (List.set (List.set (wipe σ [i, j]) i x) j y) [i, j] = wipe σ [i, j] := by
  apply List.ext_getElem?
  intro k
  simp only [wipe, List.getElem?_set, List.length_set]
  by_cases h1 : i = k
  · simp [h1]
  · by_cases h2 : j = k
    · simp [h2, h1]
    · simp [h1, h2]
/-! ### weights by their steps -/
abbrev wE (f : Nat → Nat) (e : S × Int) : List Key × V := (stK (f e.1.1) (f e.1.2), .int e.2)
theorem es_of {Pr : S × Int → Prop} : ∀ {kvs : List (List Key × V)}, (∀ k v, (k, v) ∈ kvs → ∃ e : S × Int, (k, v) = wE id e ∧ Pr e) → ∃ es : List (S × Int), kvs = es.map (wE id) ∧ ∀ e, e ∈ es → Pr e
  | [], _ => ⟨[], rfl, fun e h => nomatch h⟩
  | kv :: kvs, h => by
    obtain ⟨e, he, pe⟩ := h kv.1 kv.2 (by simp)
    obtain ⟨es, h1, h2⟩ := es_of (Pr := Pr) (kvs := kvs) fun k v hm => h k v (List.mem_cons_of_mem _ hm)
    refine ⟨e :: es, by rw [List.map_cons, ← he, ← h1], fun x hx => ?_⟩
    rcases List.mem_cons.mp hx with q | q
    · rw [q]; exact pe
    · exact h2 x q
structure WtE (n : Nat) (R : Rows) (rim : List Nat) (e : S × Int) : Prop where
  one : 1 ≤ e.2
  big : e.2 ≤ 10000000
  lt : e.1.1 < n
  off : e.1.1 ∉ rim
  step : e.1.2 ∈ R e.1.1
theorem Wts.es {n : Nat} {R : Rows} {rim : List Nat} {kvs : List (List Key × V)} (h : Wts n R rim kvs) : ∃ es : List (S × Int), kvs = es.map (wE id) ∧ (∀ e, e ∈ es → WtE n R rim e) ∧ (es.map (·.1)).Nodup := by
  obtain ⟨es, h1, h2⟩ := es_of (Pr := WtE n R rim) (kvs := kvs) fun k v hm => by
    obtain ⟨p, q, x, rfl, rfl, a, b, c, d, e⟩ := h.ok k v hm
    exact ⟨((p, q), x), rfl, ⟨a, b, c, d, e⟩⟩
  refine ⟨es, h1, h2, ?_⟩
  have nd := h.nd
  rw [h1, List.map_map] at nd
  have e : (fun e : S × Int => (wE id e).1) = (fun s : S => stK s.1 s.2) ∘ (·.1) := rfl
  have nd2 : ((es.map (·.1)).map fun s : S => stK s.1 s.2).Nodup := by
    rw [List.map_map]
    exact nd
  exact List.Pairwise.imp (fun h e => h (by rw [e])) (List.pairwise_map.mp nd2)
section
variable {n : Nat} {R R2 : Rows} {π : Nat → Nat} {m : Bool} {rim rim2 : List Nat} {es : List (S × Int)}
theorem Wts.ren (r : Ren n R R2 π m) (w : Web n R) (h : ∀ e, e ∈ es → WtE n R rim e) (nd : (es.map (·.1)).Nodup) (hl : ∀ q, q < n → (π q ∈ rim2 ↔ q ∈ rim)) : Wts n R2 rim2 (es.map (wE π)) := by
  refine ⟨?_, fun k v hm => ?_⟩
  · rw [List.map_map]
    have : (es.map fun e => (wE π e).1) = (es.map (·.1)).map fun s : S => stK (π s.1) (π s.2) := by rw [List.map_map]; rfl
    show (es.map fun e => (wE π e).1).Nodup
    rw [this]
    refine nodup_on nd fun x hx y hy e => ?_
    obtain ⟨ex, hex, rfl⟩ := List.mem_map.mp hx
    obtain ⟨ey, hey, rfl⟩ := List.mem_map.mp hy
    obtain ⟨e1, e2⟩ := stK_inj e
    have wx := h ex hex
    have wy := h ey hey
    exact Prod.ext (r.inj _ _ wx.lt wy.lt e1) (r.inj _ _ (w.lt2 wx.step) (w.lt2 wy.step) e2)
  · obtain ⟨e, he, z⟩ := List.mem_map.mp hm
    have we := h e he
    refine ⟨π e.1.1, π e.1.2, e.2, (congrArg Prod.fst z).symm, (congrArg Prod.snd z).symm, we.one, we.big, r.lt _ we.lt, fun q => we.off ((hl _ we.lt).mp q), (r.mem' w we.lt (w.lt2 we.step)).mpr we.step⟩
theorem wt_ren (r : Ren n R R2 π m) (w : Web n R) {p q : Nat} (hp : p < n) (hq : q < n) : ∀ {es : List (S × Int)}, (∀ e, e ∈ es → WtE n R rim e) → valV (es.map (wE π)) (stK (π p) (π q)) = valV (es.map (wE id)) (stK p q)
  | [], _ => rfl
  | e :: es, h => by
    rw [List.map_cons, List.map_cons]
    have we := h e (by simp)
    by_cases c : e.1.1 = p ∧ e.1.2 = q
    · have c1 : (wE π e).1 = stK (π p) (π q) := by show stK (π e.1.1) (π e.1.2) = _; rw [c.1, c.2]
      have c2 : (wE id e).1 = stK p q := by show stK e.1.1 e.1.2 = _; rw [c.1, c.2]
      rw [valV_pos c1, valV_pos c2]
    · have c1 : ¬ (wE π e).1 = stK (π p) (π q) := fun z => by
        obtain ⟨z1, z2⟩ := stK_inj z
        exact c ⟨r.inj _ _ we.lt hp z1, r.inj _ _ (w.lt2 we.step) hq z2⟩
      have c2 : ¬ (wE id e).1 = stK p q := fun z => c (stK_inj z)
      rw [valV_neg c1, valV_neg c2]
      exact wt_ren r w hp hq fun x hx => h x (List.mem_cons_of_mem _ hx)
theorem wt_ren' (r : Ren n R R2 π m) (w : Web n R) (h : ∀ e, e ∈ es → WtE n R rim e) {p q : Nat} (hp : p < n) (hq : q < n) : wt (es.map (wE π)) (π p) (π q) = wt (es.map (wE id)) p q := by
  unfold wt
  rw [wt_ren r w hp hq h]
theorem es_merge (r : Ren n R R2 π m) (w : Web n R) (h : ∀ e, e ∈ es → WtE n R rim e) (nd : (es.map (·.1)).Nodup) (hl : ∀ q, q < n → (π q ∈ rim2 ↔ q ∈ rim)) : mergeT [] (es.map (wE π)) = es.map (wE π) :=
  (fold_new _ [] (by rw [List.nil_append]; exact (Wts.ren r w h nd hl).nd)).trans (List.nil_append _)
end
theorem PrT.put {H : Hp} {D : Addr} {u v : HO} {ts : List Addr} {kvs : List (List Key × V)} (h : PrT H ts kvs) (e : H D = some u) (ne : ∀ xs, u ≠ .tup xs) : PrT (upd H D v) ts kvs :=
  Paired.mapP h fun _ _ ⟨kq, e1, e2⟩ => ⟨kq, by rw [upd_ne (fun z => by rw [z, e] at e1; exact ne _ (Option.some.inj e1))]; exact e1, by rw [upd_ne (fun z => by rw [z, e] at e2; exact ne _ (Option.some.inj e2))]; exact e2⟩
theorem PrT.kp {H H' : Hp} {ts : List Addr} {kvs : List (List Key × V)} (h : PrT H ts kvs) (k : Kp [] H H') : PrT H' ts kvs := Paired.mapP h fun _ _ ⟨kq, e1, e2⟩ => ⟨kq, k.same _ _ e1, k.same _ _ e2⟩
/-! ### names -/
theorem names_lt {n : Nat} {l : List Nat} (pm : l.Perm (List.range n)) {p : Nat} (hp : p < n) : nm l p < n ∧ l[p]? = some (nm l p) := by
  have ll : l.length = n := by rw [pm.length_eq, List.length_range]
  have e := nm_get (l := l) (p := p) (by omega)
  exact ⟨List.mem_range.mp (pm.mem_iff.mp (List.mem_of_getElem? e)), e⟩
theorem names_inj {n : Nat} {l : List Nat} (pm : l.Perm (List.range n)) {p q : Nat} (hp : p < n) (hq : q < n) (e : nm l p = nm l q) : p = q := by
  have ll : l.length = n := by rw [pm.length_eq, List.length_range]
  have lnd : l.Nodup := pm.nodup_iff.mpr List.nodup_range
  refine (List.getElem?_inj (by omega) lnd).mp ?_
  rw [nm_get (by omega), nm_get (by omega), e]
theorem ren_of {n : Nat} {R R2 : Rows} {l : List Nat} {m : Bool} (pm : l.Perm (List.range n)) (rows : ∀ p, p < n → ∃ l1 l2, (tur m (R p)).map (nm l) = l1 ++ l2 ∧ R2 (nm l p) = l2 ++ l1) (out : ∀ y, n ≤ y → R2 y = []) : Ren n R R2 (nm l) m := by
  have ll : l.length = n := by rw [pm.length_eq, List.length_range]
  have lnd : l.Nodup := pm.nodup_iff.mpr List.nodup_range
  exact {
    lt := fun x hx => (names_lt pm hx).1
    inj := fun x y hx hy e => by
      refine (List.getElem?_inj (by omega) lnd).mp ?_
      rw [nm_get (by omega), nm_get (by omega), e]
    sur := fun y hy => by
      have ym : y ∈ l := pm.mem_iff.mpr (List.mem_range.mpr hy)
      have il := List.idxOf_lt_length_iff.mpr ym
      refine ⟨l.idxOf y, by omega, ?_⟩
      have := nm_get il
      rw [List.getElem?_eq_getElem il, List.getElem_idxOf il] at this
      exact (Option.some.inj this).symm
    row := rows
    out := out }
/-! ### corners that bend -/
theorem bend_of {ps : List Pt} (h : Cv ps) : Bend ps := fun k j p q r hp hq hr h1 h2 => decide_eq_true (Cv.at h hp hq hr h1 h2)
theorem small_swp {p : Pt} {m : Bool} (h : small p) : small (swp1 m p) := by
  cases m with
  | false => exact h
  | true => exact ⟨h.2, h.1⟩
theorem told_ne {n : Nat} {R : Rows} {c : List S} {l : List Nat} (W : Web n R) (t : Told R c l) : l ≠ [] ∧ ∀ x, x ∈ l → x < n := by
  obtain ⟨s, t, cy, mm, le, el⟩ := t.ex
  refine ⟨by rw [el]; simp, fun x hx => ?_⟩
  rw [el] at hx
  obtain ⟨s', hs', rfl⟩ := List.mem_map.mp hx
  exact W.lt _ _ (cy.st s' hs')
theorem low_fr (a : Int) {d : Int} (hd : 0 < d) : Fr (lowF a d) := by
  obtain ⟨g, x, y, _, _, _, y0, co, e⟩ := low_form a hd
  rw [e]
  exact ⟨y0, co⟩
end Rd
set_option Elab.async false
set_option linter.all false
set_option maxRecDepth 100000
set_option maxHeartbeats 4000000
/-! The law. -/
namespace Rd
open PySem PySem.Spec PyProof.Rows L2 Gw
section
variable {P : Program} {w : World} {K : PySem.W.Frag} {mg : Str → Option Value} {base : Heap}
theorem sc_law : FnScope ["_law_script", "_law_k", "_law_pot_here", "_law_web_here", "_law_some", "_law_rim", "_law_corners", "_law_weights_here", "_law_names_here", "_law_mirror", "_law_p", "_law_called", "_law_corner", "_law_spots", "_law_row", "_law_rows", "_law_other_rim", "_law_other_corners", "_law_q", "_law_other_weights", "_law_found", "_law_other"] ["_law_script"] (defScope s_law) := ⟨rfl, rfl, rfl, by decide +kernel, rfl, by decide +kernel, by decide +kernel⟩
/-- the second half of the for's body -/
def lawTail : List Stmt := match defBody s_law with
  | (.For _ _ body _ _) :: _ => body.drop 12
  | _ => []
structure LawSt (G : Hp) (wA lA cA dA nA D1 D2 D3 : Addr) (n : Nat) (R : Rows) (c : List S) (l : List Nat) (cs : List Addr) (ps : List Pt) (kvs : List (List Key × V)) (nl : List Nat) (m : Bool) (us2 : List Addr) (g2 : Nat → Addr) : Prop where
  n4 : 4 ≤ n
  n9 : n ≤ 9
  good : Good n R
  plain : Plain R
  cyc : Cyc R c
  told : Told R c l
  hw : WebT G wA n R
  hl : G lA = some (tuO l)
  hc : G cA = some (.tup (cs.map V.ref))
  oc : Objs G ptO cs ps
  lps : ps.length = l.length
  cv : Cv ps
  sm : ∀ p, p ∈ ps → small p
  hd : G dA = some (.dT kvs)
  wts : Wts n R l kvs
  hn : G nA = some (.lst (nVs nl))
  pm : nl.Perm (List.range n)
  hDa : G D1 = some (.lst (nVs (tur m (l.map (nm nl)))))
  hDb : G D2 = some (.lst (us2.map V.ref))
  ou : Objs G ptO us2 (turP m ps)
  rf : RowsF G D3 n (fun p => tur m (R p)) g2
theorem law_tail (T : Txt K mg) {cdv : Value} {A : Around} {outer : List Env} {s : Shared} {H : Hp} {E : XK} (hr : Room 7 (A.deeper (envOfC "law" (defScope s_law) s.heap.objs.size (He.ga K "law") cdv))) :
    ∃ t, PSs (cxOf CX0 P w K mg base ["_law_script", "_law_k", "_law_pot_here", "_law_web_here", "_law_some", "_law_rim", "_law_corners", "_law_weights_here", "_law_names_here", "_law_mirror", "_law_p", "_law_called", "_law_corner", "_law_spots", "_law_row", "_law_rows", "_law_other_rim", "_law_other_corners", "_law_q", "_law_other_weights", "_law_found", "_law_other"] "law" (defScope s_law) (He.ga K "law") cdv A outer s H E).nox lawTail t ∧
      ∀ (D : Ends) (G : Hp) (wA lA cA dA nA D1 D2 b' : Addr) (n : Nat) (R : Rows) (c : List S) (l : List Nat) (cs : List Addr) (ps : List Pt) (kvs : List (List Key × V)) (nl : List Nat) (m : Bool) (us2 : List Addr) (g2 : Nat → Addr) (v0 v1 v2 v4 v16 v17 v19 v20 v21 : Option V), LawSt G wA lA cA dA nA D1 D2 b' n R c l cs ps kvs nl m us2 g2 →
        (∀ G' v16 v17 v19 v20 v21, Kp [] G G' → D.nx [v0, v1, v2, some (.ref wA), v4, some (.ref lA), some (.ref cA), some (.ref dA), some (.ref nA), some (.bl m), none, some (.ref D1), none, some (.ref D2), none, some (.ref b'), v16, v17, none, v19, v20, v21] G') →
        t D [v0, v1, v2, some (.ref wA), v4, some (.ref lA), some (.ref cA), some (.ref dA), some (.ref nA), some (.bl m), none, some (.ref D1), none, some (.ref D2), none, some (.ref b'), v16, v17, none, v19, v20, v21] G := by
  have O_l_begun : Ok P w K mg base 7 "_law_begun" ["_law_rim", "_law_corners"] sp_begun := (ok_begun T).mono (by decide)
  have O_at_rest : Ok P w K mg base 7 "at_rest" ["web", "rim", "corners", "weights"] sp_at_rest := ok_at_rest T
  have O_l_web : Ok P w K mg base 7 "_law_web" ["_law_rows", "_law_names_here"] sp_web := (ok_web T).mono (by decide)
  have O_l_about : Ok P w K mg base 7 "_law_about" ["_law_point", "_law_mirror"] sp_about := (ok_about T).mono (by decide)
  have O_l_is_drawing : Ok P w K mg base 7 "_law_is_drawing" ["_law_found", "_law_many"] sp_is_drawing := (ok_is_drawing T).mono (by decide)
  have hu : (A.deeper (envOfC "law" (defScope s_law) s.heap.objs.size (He.ga K "law") cdv)).units + 1 < cLine := Nat.lt_of_le_of_lt (Nat.add_le_add_left (by decide) _) (units200 hr)
  have hu2 : (A.deeper (envOfC "law" (defScope s_law) s.heap.objs.size (He.ga K "law") cdv)).units + 2 < cLine := Nat.lt_of_le_of_lt (Nat.add_le_add_left (by decide) _) (units200 hr)
  have hu64 : (A.deeper (envOfC "law" (defScope s_law) s.heap.objs.size (He.ga K "law") cdv)).units + 64 < cLine := Nat.lt_of_le_of_lt (Nat.add_le_add_left (by decide) _) (units200 hr)
  refine ⟨_, (pss_cons (ps_asg (pe_f O_l_begun hr (by rfl) (pa_cons (pv 11) (pa_cons (pv 13) pa_nil))) (pg_tup (by rfl) (pgs_cons (pg_name (i := 16) sc_law.nd rfl (by first | exact .inl rfl | exact .inr rfl)) (pgs_cons (pg_name (i := 17) sc_law.nd rfl (by first | exact .inl rfl | exact .inr rfl)) pgs_nil))))
      (pss_cons (ps_set (i := 19) sc_law.nd rfl (by first | exact .inl rfl | exact .inr rfl) (pe_callTy (call_dictT rfl hu2) (by rfl) T.z_dict (by decide +kernel) (pa_cons (pe_lock (pe_lc (own := [("_law_p", 10), ("_law_q", 18)]) (g := (gTup K 2 (gCons (gName 10) (gCons (gName 18) gNil)))) rfl sc_law.nd (pi_keys (pv 7)) (blkOk_by (own := [("_law_p", 10), ("_law_q", 18)]) (N := ["_law_script", "_law_k", "_law_pot_here", "_law_web_here", "_law_some", "_law_rim", "_law_corners", "_law_weights_here", "_law_names_here", "_law_mirror", "_law_p", "_law_called", "_law_corner", "_law_spots", "_law_row", "_law_rows", "_law_other_rim", "_law_other_corners", "_law_q", "_law_other_weights", "_law_found", "_law_other"]) (sc := defScope s_law) (by decide +kernel)) (fun _ _ _ _ _ => (pg_tup (by rfl) (pgs_cons (pg_name (i := 10) sc_law.nd rfl (by first | exact .inl rfl | exact .inr rfl)) (pgs_cons (pg_name (i := 18) sc_law.nd rfl (by first | exact .inl rfl | exact .inr rfl)) pgs_nil)))) (fun _ _ _ _ _ => pts_nil) (fun _ _ _ _ _ => (pe_tup (pa_cons (pe_tup (pa_cons (pe_ix ixH (pv 8) (pv 10) (fun _ _ => rfl)) (pa_cons (pe_ix ixH (pv 8) (pv 18) (fun _ _ => rfl)) pa_nil))) (pa_cons (pe_dget hu (pv 7) (pe_tup (pa_cons (pv 10) (pa_cons (pv 18) pa_nil))) (fun _ _ => rfl)) pa_nil)))))) pa_nil)))
      (pss_cons (ps_set (i := 20) sc_law.nd rfl (by first | exact .inl rfl | exact .inr rfl) (pe_f O_at_rest hr (by rfl) (pa_cons (pv 3) (pa_cons (pv 5) (pa_cons (pv 6) (pa_cons (pv 7) pa_nil))))))
      (pss_cons (ps_set (i := 21) sc_law.nd rfl (by first | exact .inl rfl | exact .inr rfl) (pe_f O_at_rest hr (by rfl) (pa_cons (pe_f O_l_web hr (by rfl) (pa_cons (pv 15) (pa_cons (pv 8) pa_nil))) (pa_cons (pv 16) (pa_cons (pv 17) (pa_cons (pv 19) pa_nil))))))
      (pss_cons (ps_if (PW.pt (pw_or (pt_not (pt_val (pe_f O_l_is_drawing hr (by rfl) (pa_cons (pv 20) (pa_cons (pe_callB call_lenH (by rfl) T.z_len (by decide +kernel) (pa_cons (pv 3) pa_nil)) pa_nil))))) (pw_or1 (pt_not (pt_val (pe_f O_l_is_drawing hr (by rfl) (pa_cons (pv 21) (pa_cons (pe_callB call_lenH (by rfl) T.z_len (by decide +kernel) (pa_cons (pv 3) pa_nil)) pa_nil)))))))) (pss_one (ps_ret pe_bl)) pss_nil)
      (pss_one (ps_if (pt_not (pt_val (pe_callB (cr_all rfl) (by rfl) T.z_all (by decide +kernel) (pa_cons (pe_lc (own := [("_law_p", 10)]) (g := (gName 10)) rfl sc_law.nd (pi_range1 (by rfl) T.z_range (pa_cons (pe_callB call_lenH (by rfl) T.z_len (by decide +kernel) (pa_cons (pv 3) pa_nil)) pa_nil)) (blkOk_by (own := [("_law_p", 10)]) (N := ["_law_script", "_law_k", "_law_pot_here", "_law_web_here", "_law_some", "_law_rim", "_law_corners", "_law_weights_here", "_law_names_here", "_law_mirror", "_law_p", "_law_called", "_law_corner", "_law_spots", "_law_row", "_law_rows", "_law_other_rim", "_law_other_corners", "_law_q", "_law_other_weights", "_law_found", "_law_other"]) (sc := defScope s_law) (by decide +kernel)) (fun _ _ _ _ _ => (pg_name (i := 10) sc_law.nd rfl (by first | exact .inl rfl | exact .inr rfl))) (fun _ _ _ _ _ => pts_nil) (fun _ _ _ _ _ => (pe_cmpR (op_eqH hu64) (pe_ix ixH (pv 21) (pe_ix ixH (pv 8) (pv 10) (fun _ _ => rfl)) (fun _ _ => rfl)) (pe_f O_l_about hr (by rfl) (pa_cons (pe_ix ixH (pv 20) (pv 10) (fun _ _ => rfl)) (pa_cons (pv 9) pa_nil))) (nomark _)))) pa_nil)))) (pss_one (ps_ret pe_bl)) pss_nil))))))), ?_⟩
  intro D G wA lA cA dA nA D1 D2 b' n R c l cs ps kvs nl m us2 g2 v0 v1 v2 v4 v16 v17 v19 v20 v21 h q
  obtain ⟨n4, n9, Gd, Pl, cyc, tl, hw, hl, hc, oc, lps, cv, sm, hd, wts, hnm, pm, hDa, hDb, ou2, rf⟩ := h
  have W := Gd.toWeb
  obtain ⟨lne', llt⟩ := told_ne W tl
  have lnd : l.Nodup := by
    obtain ⟨s0, t0, cy0, _, _, el⟩ := tl.ex
    rw [el]
    exact Pl _ cy0
  have ll9 : l.length ≤ 9 := Nat.le_trans (nd_le lnd llt) n9
  have l0 : 0 < l.length := List.length_pos_iff.mpr lne'
  have tlen : (tur m (l.map (nm nl))).length = l.length := by rw [(tur_perm m _).length_eq, List.length_map]
  have tne : tur m (l.map (nm nl)) ≠ [] := fun z => by rw [z] at tlen; simp at tlen; omega
  have tnd : (tur m (l.map (nm nl))).Nodup := (tur_perm m _).nodup_iff.mpr (nodup_on lnd fun x hx y hy e => names_inj pm (llt x hx) (llt y hy) e)
  have plen : (turP m ps).length = ps.length := by
    rw [turP_is]
    split <;> simp
  have lus : us2.length = ps.length := by rw [ou2.len, plen]
  -- from the least step on
  refine ⟨_, rfl, _, rfl, D1, D2, tur m (l.map (nm nl)), us2.map V.ref, rfl, hDa, hDb, by rw [List.length_map]; omega, tne, tnd, by omega, fun t t1 t2 kq st G2 kB ht ht1 ht2 hk hle => ?_⟩
  refine ⟨t, _, rfl, SqT.of ht, rfl, _, _, rfl, _, _, rfl, rfl, ?_⟩
  have hd2 := kB.same _ _ hd
  have hn2 := kB.same _ _ hnm
  obtain ⟨es, rfl, eok, end_⟩ := wts.es
  -- the weights
  refine ⟨dA, _, hd2, trivial, fun od => ?_⟩
  have k3 : Kp [dA] G2 (upd G2 dA (.frz od (.dT (es.map (wE id))))) := Kp.put (by simp)
  have hd3 : upd G2 dA (.frz od (.dT (es.map (wE id)))) dA = some (.frz od (.dT (es.map (wE id)))) := upd_same
  have hn3 : upd G2 dA (.frz od (.dT (es.map (wE id)))) nA = some (.lst (nVs nl)) := by
    rw [upd_ne (fun z => by rw [z, hd2] at hn2; cases hn2)]; exact hn2
  generalize upd G2 dA (.frz od (.dT (es.map (wE id)))) = G3 at k3 hd3 hn3 ⊢
  refine ⟨_, rfl, dA, od, rfl, .inr ⟨_, hd3, fun D4 hD4 => ?_⟩⟩
  have les : es.length ≤ 81 := by
    have h1 := path_le W end_ fun x hx => by
      obtain ⟨e, he, rfl⟩ := List.mem_map.mp hx
      exact (eok e he).step
    have h2 := total_le W n9
    rw [List.length_map] at h1
    omega
  refine lc_it walk_keysT (fun i F => ∃ ts, F D4 = some (.lst (ts.map V.ref)) ∧ Kp [] G3 F ∧ PrT F ts ((es.take i).map (wE (nm nl)))) ⟨[], upd_same, Kp.new hD4, .nil⟩ (fun i F _ h => ?_) (fun i x F F' hi h y => ?_) (fun F h => ?_)
  · obtain ⟨_, _, k, _⟩ := h
    exact k.same _ _ hd3
  · obtain ⟨ts, hDF, kF, pr⟩ := h
    obtain ⟨rfl, kk, v, qA, hk, rfl, hq⟩ := y
    rw [List.getElem?_map] at hk
    obtain ⟨e, he, ek⟩ := Option.map_eq_some_iff.mp hk
    obtain ⟨rfl, rfl⟩ : stK e.1.1 e.1.2 = kk ∧ V.int e.2 = v := ⟨congrArg Prod.fst ek, congrArg Prod.snd ek⟩
    have we := eok e (List.mem_of_getElem? he)
    have hdF := kF.same _ _ hd3
    have hnF := kF.same _ _ hn3
    have lpr := Paired.length pr
    rw [List.length_map, List.length_take] at lpr
    refine ⟨qA, _, rfl, SqT.of hq, rfl, _, _, rfl, _, _, rfl, rfl, ?_⟩
    refine ⟨wipe2 _ _ _ (by decide), ?_⟩
    refine ⟨_, rfl, _, rfl, nA, _, _, _, rfl, rfl, .inl hnF, atI_nVs (names_lt pm we.lt).2, ?_⟩
    refine ⟨_, rfl, _, rfl, nA, _, _, _, rfl, rfl, .inl hnF, atI_nVs (names_lt pm (W.lt2 we.step)).2, by show 2 ≤ sizeLine; decide, fun z1 hz1 => ?_⟩
    have kz1 : Kp [] F' (upd F' z1 (.tup [nV (nm nl e.1.1), nV (nm nl e.1.2)])) := Kp.new hz1
    have a1 : upd F' z1 (.tup [nV (nm nl e.1.1), nV (nm nl e.1.2)]) z1 = some (stO (nm nl e.1.1, nm nl e.1.2)) := upd_same
    generalize upd F' z1 (.tup [nV (nm nl e.1.1), nV (nm nl e.1.2)]) = F1 at kz1 a1 ⊢
    refine ⟨_, rfl, _, rfl, _, rfl, by show 2 ≤ sizeLine; decide, fun z2 hz2 => ?_⟩
    have kz2 : Kp [] F1 (upd F1 z2 (.tup [nV e.1.1, nV e.1.2])) := Kp.new hz2
    have a2 : upd F1 z2 (.tup [nV e.1.1, nV e.1.2]) z2 = some (.tup ((stK e.1.1 e.1.2).map kV)) := upd_same
    have hkE : (es.map (wE id))[i]? = some (stK e.1.1 e.1.2, V.int e.2) := by rw [List.getElem?_map, he]; rfl
    have kF2 := (kF.trans kz1).trans kz2
    refine ⟨dA, V.int e.2, rfl, .inr ⟨es.map (wE id), stK e.1.1 e.1.2, z2, .inr ⟨od, kF2.same _ _ hd3⟩, rfl, a2, (valV_get wts.nd hkE).symm⟩, by show 2 ≤ sizeLine; decide, fun z3 hz3 => ?_⟩
    have hD2' := (kz1.trans kz2).same _ _ hDF
    have hD3' : upd (upd F1 z2 (.tup [nV e.1.1, nV e.1.2])) z3 (.tup [.ref z1, .int e.2]) D4 = some (.lst (ts.map V.ref)) := by rw [upd_ne (ne_of_none hD2' hz3)]; exact hD2'
    have hz1' : upd (upd F1 z2 (.tup [nV e.1.1, nV e.1.2])) z3 (.tup [.ref z1, .int e.2]) z1 = some (stO (nm nl e.1.1, nm nl e.1.2)) := by rw [upd_ne (ne_of_none (kz2.same _ _ a1) hz3)]; exact kz2.same _ _ a1
    refine ⟨ts.map V.ref, hD3', by rw [List.length_map, sizeLine_eq]; omega, ts ++ [z3], by rw [upd_same]; simp, (kF2.new' hz3).own hD4, ?_⟩
    rw [take_snoc he, List.map_append]
    refine PrT.put (u := .lst (ts.map V.ref)) (Paired.app (pr.kp ((kz1.trans kz2).new' hz3)) (.cons ⟨z1, upd_same, hz1'⟩ .nil)) hD3' fun xs z => by cases z
  · obtain ⟨ts, hDF, kF, pr⟩ := h
    rw [List.length_map, List.take_length] at pr
    have hdF := kF.same _ _ hd3
    refine ⟨hdF, ?_⟩
    have k4 : Kp [] G2 (upd F dA (.dT (es.map (wE id)))) := Kp.unlock (k3.trans kF.nil) hd2
    have hD4' : upd F dA (.dT (es.map (wE id))) D4 = some (.lst (ts.map V.ref)) := by rw [upd_ne (fun z => by rw [z, hdF] at hDF; cases hDF)]; exact hDF
    have pr4 : PrT (upd F dA (.dT (es.map (wE id)))) ts (es.map (wE (nm nl))) := PrT.put pr hdF fun xs z => by cases z
    generalize upd F dA (.dT (es.map (wE id))) = G4 at k4 hD4' pr4 ⊢
    refine ⟨D4, ts, _, rfl, hD4', pr4, fun oA hoA => ?_⟩
    have k5 : Kp [] G2 (upd G4 oA (.dT (mergeT [] (es.map (wE (nm nl)))))) := k4.new' hoA
    have ho5 : upd G4 oA (.dT (mergeT [] (es.map (wE (nm nl))))) oA = some (.dT (mergeT [] (es.map (wE (nm nl))))) := upd_same
    generalize upd G4 oA (.dT (mergeT [] (es.map (wE (nm nl))))) = G5 at k5 ho5 ⊢
    clear k4 pr4 hD4' hoA pr hDF hdF kF hD4 k3 hd3 hn3
    have kG5 := kB.trans k5
    -- the first drawing
    refine ⟨_, rfl, _, rfl, _, rfl, _, rfl, wA, lA, cA, dA, n, R, c, l, cs, ps, es.map (wE id), rfl, hw.kp kG5, Gd, n4, n9, kG5.same _ _ hl, cyc, tl, lnd, kG5.same _ _ hc, oc.kp kG5, lps.symm, sm, bend_of cv, kG5.same _ _ hd, wts, fun G6 fA f d X Y k6 hf6 d0 rX rY pts => ?_⟩
    have k56 := k5.trans k6
    have kG6 := kG5.trans k6
    -- the other web
    have full : ∀ p, p < n → (fun p => tur m (R p)) p ≠ [] ∧ ((fun p => tur m (R p)) p).length ≤ 20 ∧ ∀ q, q ∈ (fun p => tur m (R p)) p → q < n := fun p hp => by
      have pp := tur_perm m (R p)
      refine ⟨fun z => Gd.full p hp (List.length_eq_zero_iff.mp ?_), ?_, fun q hq => W.lt2 (pp.mem_iff.mp hq)⟩
      · rw [← pp.length_eq]
        show (tur m (R p)).length = 0
        rw [show tur m (R p) = [] from z]
        rfl
      · show (tur m (R p)).length ≤ 20
        rw [pp.length_eq]
        have := row_le W n9 p hp
        omega
    refine ⟨_, rfl, _, rfl, b', nA, n, _, g2, nl, rfl, rf.kp kG6 (by simp), kG6.same _ _ hnm, pm, n9, full, fun G7 tW R2 k7 hw7 rows2 out2 => ?_⟩
    have ren : Ren n R R2 (nm nl) m := ren_of pm rows2 out2
    obtain ⟨c2, cy2, tl2⟩ := ren.told W tl (k := kq) (st := st) rfl hk hle
    obtain ⟨nd2, mem2⟩ := ren.told_nd lnd llt kq
    have kG7 := kG6.trans k7
    have k57 : Kp [] G5 G7 := k6.trans k7
    rw [es_merge ren W eok end_ mem2] at ho5
    have wts2 := Wts.ren ren W eok end_ mem2
    -- the second drawing
    refine ⟨_, rfl, _, rfl, _, rfl, tW, t1, t2, oA, n, R2, c2, (tur m (l.map (nm nl))).drop kq ++ (tur m (l.map (nm nl))).take kq, us2.drop kq ++ us2.take kq, (turP m ps).drop kq ++ (turP m ps).take kq, es.map (wE (nm nl)), rfl, hw7, ren.good Gd, n4, n9, (k5.trans k57).same _ _ ht1, cy2, tl2, nd2, ?_, Objs.kp (Paired.app (Paired.drop ou2 kq) (Paired.take ou2 kq)) kG7, ?_, fun p hp => ?_, bend_of (turP_cv cv kq), k57.same _ _ ho5, wts2, fun G8 tF f2 d2 X2 Y2 k8 hf8 d20 rX2 rY2 pts2 => ?_⟩
    · rw [List.map_append, List.map_drop, List.map_take]
      exact (k5.trans k57).same _ _ ht2
    · simp only [List.length_append, List.length_drop, List.length_take]
      omega
    · obtain ⟨p', hp', rfl⟩ := turP_mem hp
      exact small_swp (sm p' hp')
    have k68 := k7.trans k8
    have kG8 := kG7.trans k8
    have hw8 := hw.kp kG8
    obtain ⟨xs8, hx8, lx8⟩ := hw8.len
    have hf68 := k68.same _ _ hf6
    refine ⟨_, rfl, _, rfl, wA, xs8, rfl, .inr (.inl hx8), fA, n, f, fun p => lowF (X p) d, fun p => lowF (Y p) d, by rw [lx8]; rfl, hf68, fun p hp => ⟨(pts p hp).kp k68, low_fr _ d0, low_fr _ d0⟩, fun G9 k9 => ?_⟩
    refine ⟨true, rfl, iteF ?_⟩
    refine ⟨_, rfl, _, rfl, wA, xs8, rfl, .inr (.inl (k9.same _ _ hx8)), tF, n, f2, fun p => lowF (X2 p) d2, fun p => lowF (Y2 p) d2, by rw [lx8]; rfl, k9.same _ _ hf8, fun p hp => ⟨(pts2 p hp).kp k9, low_fr _ d20, low_fr _ d20⟩, fun G10 k10 => ?_⟩
    refine ⟨true, rfl, iteF ?_⟩
    have k810 := k9.trans k10
    have hx10 := k810.same _ _ hx8
    have hf10 := k810.same _ _ hf68
    have hf20 := k810.same _ _ hf8
    have kG10 := kG8.trans k810
    have hn10 := kG10.same _ _ hnm
    -- they are one
    have hl0 : ∃ b, b ∈ l := List.exists_mem_of_ne_nil _ lne'
    obtain ⟨b0, hb0⟩ := hl0
    have one : ∀ p, p < n → lowF (X2 (nm nl p)) d2 = (if m then lowF (Y p) d else lowF (X p) d) ∧ lowF (Y2 (nm nl p)) d2 = (if m then lowF (X p) d else lowF (Y p) d) := by
      have crr : ∀ q, q ∈ l → cor ((tur m (l.map (nm nl))).drop kq ++ (tur m (l.map (nm nl))).take kq) ((turP m ps).drop kq ++ (turP m ps).take kq) (nm nl q) = swp1 m (cor l ps q) := fun q hq => cr_ren lnd lps.symm nd2 hq
      have wtw : ∀ p q, p < n → q < n → wt (es.map (wE (nm nl))) (nm nl p) (nm nl q) = wt (es.map (wE id)) p q := fun p q hp hq => wt_ren' ren W eok hp hq
      have hw1 : ∀ p q, q ∈ R p → 1 ≤ wt (es.map (wE id)) p q := fun p q _ => (wts.get p q).2.1
      have pull : ∀ {cx2 cx X2 X : Nat → Int}, (∀ q, q ∈ l → cx2 (nm nl q) = cx q) → Rest n R2 ((tur m (l.map (nm nl))).drop kq ++ (tur m (l.map (nm nl))).take kq) (wt (es.map (wE (nm nl)))) d2 cx2 X2 → Rest n R l (wt (es.map (wE id))) d cx X → ∀ p, p < n → lowF (X2 (nm nl p)) d2 = lowF (X p) d :=
        fun hc r2 r p hp => two_same W Gd.tied (by omega) hb0 (llt b0 hb0) hw1 d0 d20 r (ren.rest W mem2 llt wtw hc r2) hp
      cases m with
      | false => exact fun p hp => ⟨pull (fun q hq => congrArg Prod.fst (crr q hq)) rX2 rX p hp, pull (fun q hq => congrArg Prod.snd (crr q hq)) rY2 rY p hp⟩
      | true => exact fun p hp => ⟨pull (fun q hq => congrArg Prod.fst (crr q hq)) rX2 rY p hp, pull (fun q hq => congrArg Prod.snd (crr q hq)) rY2 rX p hp⟩
    refine ⟨_, rfl, wA, xs8, rfl, .inr (.inl hx10), _, rfl, by omega, by omega, fun D5 hD5 => ?_⟩
    rw [show ((xs8.length : Nat) : Int).toNat = n by omega]
    refine lc_range (lo := 0) (fun i F => F D5 = some (.lst ((List.replicate i true).map V.bl)) ∧ Kp [] G10 F) ⟨upd_same, Kp.new hD5⟩ (fun i F hi h => ?_) (fun F h => ?_)
    · obtain ⟨hDF, kF⟩ := h
      rw [show (0 : Int) + (i : Int) = (i : Int) by omega]
      have ilt := names_lt pm hi
      obtain ⟨p1, p2⟩ := one i hi
      obtain ⟨u1, u2, e1, e2, e3⟩ := (pts2 (nm nl i) ilt.1).kp (k810.trans kF)
      obtain ⟨w1, w2, g1, g2', g3⟩ := (pts i hi).kp ((k68.trans k810).trans kF)
      refine ⟨rfl, _, rfl, _, rfl, _, rfl, nA, _, _, _, rfl, rfl, .inl (kF.same _ _ hn10), atI_nVs ilt.2, tF, _, _, _, rfl, rfl, .inr (.inl (kF.same _ _ hf20)), atI_range ilt.1, ?_⟩
      refine ⟨_, rfl, _, rfl, fA, _, _, _, rfl, rfl, .inr (.inl (kF.same _ _ hf10)), atI_range hi, _, rfl, f i, .ref w1, .ref w2, m, rfl, g1, fun t' F1 kF1 ht' => ?_⟩
      have key : ∀ a b : Pt, PyData.eqv (.tuple [ptD a, ptD b]) (.tuple [ptD a, ptD b]) = true := fun a b => by
        have e : PyData.eqv (.tuple [ptD a, ptD b]) (.tuple [ptD a, ptD b]) = (PyData.eqv (ptD a) (ptD a) && (PyData.eqv (ptD b) (ptD b) && true)) := rfl
        rw [e, ptD_eqv, ptD_eqv]
        simp
      have dr : DD F1 (.ref t') (.tuple [ptD (if m then lowF (Y i) d else lowF (X i) d), ptD (if m then lowF (X i) d else lowF (Y i) d)]) := by
        cases m with
        | false => exact dd_pt2 ht' (kF1.same _ _ g2') (kF1.same _ _ g3)
        | true => exact dd_pt2 ht' (kF1.same _ _ g3) (kF1.same _ _ g2')
      have dl := dd_pt2 (kF1.same _ _ e1) (kF1.same _ _ e2) (kF1.same _ _ e3)
      rw [p1, p2] at dl
      refine ⟨_, _, dl, dr, ?_⟩
      rw [key]
      have hD1' := kF1.same _ _ hDF
      refine ⟨_, hD1', by rw [List.length_map, List.length_replicate, sizeLine_eq]; omega, ?_, (kF.trans kF1).own hD5⟩
      rw [upd_same, List.replicate_succ', List.map_append]
      rfl
    · obtain ⟨hDF, kF⟩ := h
      refine ⟨D5, _, rfl, SqL.of hDF, true, congrArg V.bl (all_rep _), iteF ?_⟩
      exact q _ _ _ _ _ _ (kG10.trans kF)
end
end Rd
set_option Elab.async false
set_option linter.all false
set_option maxRecDepth 100000
set_option maxHeartbeats 4000000
/-! The law. -/
namespace Rd
open PySem PySem.Spec PyProof.Rows L2 Gw
section
variable {P : Program} {w : World} {K : PySem.W.Frag} {mg : Str → Option Value} {base : Heap}
def sp_law (K : PySem.W.Frag) : Sp := fun vs H Q _ => ∃ (a : Addr) (ns : List Int), vs = [.ref a] ∧ SqL K H a (ns.map V.int) ∧ ns.length ≤ 1000 ∧ ∀ H', Q (.bl true) H'
theorem law_body (T : Txt K mg) (cdv : Value) (A : Around) (outer : List Env) (s : Shared) (H : Hp) (vs : List V) (Q : VK) (E : XK) (hr : Room 7 (A.deeper (envOfC "law" (defScope s_law) s.heap.objs.size (He.ga K "law") cdv))) (h : sp_law K vs H Q E) :
    ∃ t, PSs (cxOf CX0 P w K mg base ["_law_script", "_law_k", "_law_pot_here", "_law_web_here", "_law_some", "_law_rim", "_law_corners", "_law_weights_here", "_law_names_here", "_law_mirror", "_law_p", "_law_called", "_law_corner", "_law_spots", "_law_row", "_law_rows", "_law_other_rim", "_law_other_corners", "_law_q", "_law_other_weights", "_law_found", "_law_other"] "law" (defScope s_law) (He.ga K "law") cdv A outer s H E).nox (defBody s_law) t ∧ t { nx := fun _ H' => Q .non H', rt := Q } (start ["_law_script", "_law_k", "_law_pot_here", "_law_web_here", "_law_some", "_law_rim", "_law_corners", "_law_weights_here", "_law_names_here", "_law_mirror", "_law_p", "_law_called", "_law_corner", "_law_spots", "_law_row", "_law_rows", "_law_other_rim", "_law_other_corners", "_law_q", "_law_other_weights", "_law_found", "_law_other"] vs) H := by
  have O_l_pot : Ok P w K mg base 7 "_law_pot" ["_law_script", "_law_k"] (sp_pot K) := (ok_pot T).mono (by decide)
  have O_l_tied : Ok P w K mg base 7 "_law_tied" ["_law_pot_here", "_law_n"] sp_tied := (ok_tied T).mono (by decide)
  have O_l_digit : Ok P w K mg base 7 "_law_digit" ["_law_pot_here", "_law_many"] sp_digit := (ok_digit T).mono (by decide)
  have O_l_faces : Ok P w K mg base 7 "_law_faces" ["_law_web_here"] sp_faces2 := (ok_faces2 T).mono (by decide)
  have O_l_shape : Ok P w K mg base 7 "_law_shape" ["_law_pot_here", "_law_many"] sp_shape := (ok_shape T).mono (by decide)
  have O_l_weights : Ok P w K mg base 7 "_law_weights" ["_law_pot_here", "_law_web_here", "_law_rim"] sp_weights := (ok_weights T).mono (by decide)
  have O_l_names : Ok P w K mg base 7 "_law_names" ["_law_pot_here", "_law_n"] sp_names := (ok_names T).mono (by decide)
  have O_l_about : Ok P w K mg base 7 "_law_about" ["_law_point", "_law_mirror"] sp_about := (ok_about T).mono (by decide)
  · obtain ⟨a, ns, rfl, ha, l1000, q⟩ := h
    obtain ⟨tT, hT, runT⟩ := law_tail (P := P) (w := w) (base := base) (cdv := cdv) (outer := outer) (H := H) (E := E) T hr
    refine ⟨_, (pss_cons (ps_for PassesOwn.never rfl (pi_range1 (by rfl) T.z_range (pa_cons (pe_callB (call_max2 rfl) (by rfl) T.z_max (by decide +kernel) (pa_cons pe_int (pa_cons (pe_callB (call_min2 rfl) (by rfl) T.z_min (by decide +kernel) (pa_cons (pe_callB call_len_seq (by rfl) T.z_len (by decide +kernel) (pa_cons (pv 0) pa_nil)) (pa_cons pe_int pa_nil))) pa_nil))) pa_nil)) (pg_name (i := 1) sc_law.nd rfl (by first | exact .inl rfl | exact .inr rfl)) (pss_cons (ps_set (i := 2) sc_law.nd rfl (by first | exact .inl rfl | exact .inr rfl) (pe_f O_l_pot hr (by rfl) (pa_cons (pv 0) (pa_cons (pv 1) pa_nil))))
      (pss_cons (ps_set (i := 3) sc_law.nd rfl (by first | exact .inl rfl | exact .inr rfl) (pe_f O_l_tied hr (by rfl) (pa_cons (pv 2) (pa_cons (pe_op op_add pe_int (pe_f O_l_digit hr (by rfl) (pa_cons (pv 2) (pa_cons pe_int pa_nil)))) pa_nil))))
      (pss_cons (ps_set (i := 4) sc_law.nd rfl (by first | exact .inl rfl | exact .inr rfl) (pe_f O_l_faces hr (by rfl) (pa_cons (pv 3) pa_nil)))
      (pss_cons (ps_set (i := 5) sc_law.nd rfl (by first | exact .inl rfl | exact .inr rfl) (pe_ix ixH (pv 4) (pe_f O_l_digit hr (by rfl) (pa_cons (pv 2) (pa_cons (pe_callB call_lenH (by rfl) T.z_len (by decide +kernel) (pa_cons (pv 4) pa_nil)) pa_nil))) (fun _ _ => rfl)))
      (pss_cons (ps_set (i := 6) sc_law.nd rfl (by first | exact .inl rfl | exact .inr rfl) (pe_f O_l_shape hr (by rfl) (pa_cons (pv 2) (pa_cons (pe_callB call_lenH (by rfl) T.z_len (by decide +kernel) (pa_cons (pv 5) pa_nil)) pa_nil))))
      (pss_cons (ps_set (i := 7) sc_law.nd rfl (by first | exact .inl rfl | exact .inr rfl) (pe_f O_l_weights hr (by rfl) (pa_cons (pv 2) (pa_cons (pv 3) (pa_cons (pv 5) pa_nil)))))
      (pss_cons (ps_set (i := 8) sc_law.nd rfl (by first | exact .inl rfl | exact .inr rfl) (pe_f O_l_names hr (by rfl) (pa_cons (pv 2) (pa_cons (pe_callB call_lenH (by rfl) T.z_len (by decide +kernel) (pa_cons (pv 3) pa_nil)) pa_nil))))
      (pss_cons (ps_set (i := 9) sc_law.nd rfl (by first | exact .inl rfl | exact .inr rfl) (pe_cmpR op_eq (pe_f O_l_digit hr (by rfl) (pa_cons (pv 2) (pa_cons pe_int pa_nil))) pe_int (nomark _)))
      (pss_cons (ps_setLc (i := 11) (own := [("_law_p", 10)]) (g := (gName 10)) (by rfl) sc_law.nd rfl rfl (sw_true rfl rfl rfl (by decide +kernel)) (pi_tup (pv 5)) (blkOk_by (own := [("_law_p", 10)]) (N := ["_law_script", "_law_k", "_law_pot_here", "_law_web_here", "_law_some", "_law_rim", "_law_corners", "_law_weights_here", "_law_names_here", "_law_mirror", "_law_p", "_law_called", "_law_corner", "_law_spots", "_law_row", "_law_rows", "_law_other_rim", "_law_other_corners", "_law_q", "_law_other_weights", "_law_found", "_law_other"]) (sc := defScope s_law) (by decide +kernel)) (fun _ _ _ _ _ => (pg_name (i := 10) sc_law.nd rfl (by first | exact .inl rfl | exact .inr rfl))) (fun _ _ _ _ _ => pts_nil) (fun _ _ _ _ _ => (pe_ix ixH (pv 8) (pv 10) (fun _ _ => rfl))))
      (pss_cons (ps_setLc (i := 13) (own := [("_law_corner", 12)]) (g := (gName 12)) (by rfl) sc_law.nd rfl rfl (sw_true rfl rfl rfl (by decide +kernel)) (pi_tup (pv 6)) (blkOk_by (own := [("_law_corner", 12)]) (N := ["_law_script", "_law_k", "_law_pot_here", "_law_web_here", "_law_some", "_law_rim", "_law_corners", "_law_weights_here", "_law_names_here", "_law_mirror", "_law_p", "_law_called", "_law_corner", "_law_spots", "_law_row", "_law_rows", "_law_other_rim", "_law_other_corners", "_law_q", "_law_other_weights", "_law_found", "_law_other"]) (sc := defScope s_law) (by decide +kernel)) (fun _ _ _ _ _ => (pg_name (i := 12) sc_law.nd rfl (by first | exact .inl rfl | exact .inr rfl))) (fun _ _ _ _ _ => pts_nil) (fun _ _ _ _ _ => (pe_f O_l_about hr (by rfl) (pa_cons (pv 12) (pa_cons (pv 9) pa_nil)))))
      (pss_cons (ps_setLc (i := 15) (own := [("_law_row", 14)]) (g := (gName 14)) (by rfl) sc_law.nd rfl rfl (sw_true rfl rfl rfl (by decide +kernel)) (pi_tup (pv 3)) (blkOk_by (own := [("_law_row", 14)]) (N := ["_law_script", "_law_k", "_law_pot_here", "_law_web_here", "_law_some", "_law_rim", "_law_corners", "_law_weights_here", "_law_names_here", "_law_mirror", "_law_p", "_law_called", "_law_corner", "_law_spots", "_law_row", "_law_rows", "_law_other_rim", "_law_other_corners", "_law_q", "_law_other_weights", "_law_found", "_law_other"]) (sc := defScope s_law) (by decide +kernel)) (fun _ _ _ _ _ => (pg_name (i := 14) sc_law.nd rfl (by first | exact .inl rfl | exact .inr rfl))) (fun _ _ _ _ _ => pts_nil) (fun _ _ _ _ _ => (pe_callTy call_listH (by rfl) T.z_list (by decide +kernel) (pa_cons (pv 14) pa_nil))))
      (pss_cons (ps_if (pt_val (pv 9)) (pss_cons (ps_expr (pe_bm0 PySem.F.plainAttrs_list PySem.F.slot_list_reverse PySem.F.type_list_reverse mt_reverse (pv 11)))
      (pss_cons (ps_expr (pe_bm0 PySem.F.plainAttrs_list PySem.F.slot_list_reverse PySem.F.type_list_reverse mt_reverse (pv 13)))
      (pss_one (ps_setLc (i := 15) (own := [("_law_row", 14)]) (g := (gName 14)) (by rfl) sc_law.nd rfl rfl (sw_true rfl rfl rfl (by decide +kernel)) (pi_list (pv 15)) (blkOk_by (own := [("_law_row", 14)]) (N := ["_law_script", "_law_k", "_law_pot_here", "_law_web_here", "_law_some", "_law_rim", "_law_corners", "_law_weights_here", "_law_names_here", "_law_mirror", "_law_p", "_law_called", "_law_corner", "_law_spots", "_law_row", "_law_rows", "_law_other_rim", "_law_other_corners", "_law_q", "_law_other_weights", "_law_found", "_law_other"]) (sc := defScope s_law) (by decide +kernel)) (fun _ _ _ _ _ => (pg_name (i := 14) sc_law.nd rfl (by first | exact .inl rfl | exact .inr rfl))) (fun _ _ _ _ _ => pts_nil) (fun _ _ _ _ _ => (pe_listRev rfl (by rfl) T.z_list (by rfl) T.z_reversed (pv 14))))))) pss_nil)
      hT)))))))))))))
      (pss_one (ps_ret pe_bl))), ?_⟩
    have nl : ((ns.map V.int).length : Int) = (ns.length : Int) := by rw [List.length_map]
    refine ⟨_, rfl, a, _, rfl, .inl ha, _, _, rfl, _, _, rfl, _, rfl, by split <;> split <;> omega, by split <;> split <;> omega, ?_⟩
    refine for_range (lo := 0) (fun i σ G => ∃ v1 v2 v3 v4 v5 v6 v7 v8 v9 v11 v13 v15 v16 v17 v19 v20 v21, σ = [some (.ref a), v1, v2, v3, v4, v5, v6, v7, v8, v9, none, v11, none, v13, none, v15, v16, v17, none, v19, v20, v21] ∧ SqL K G a (ns.map V.int)) ⟨_, _, _, _, _, _, _, _, _, _, _, _, _, _, _, _, _, rfl, ha⟩ (fun i σ G hi h => ?_) (fun σ G h => ?_)
    · obtain ⟨v1, v2, v3, v4, v5, v6, v7, v8, v9, v11, v13, v15, v16, v17, v19, v20, v21, rfl, haG⟩ := h
      have i2 : i < 2 := by revert hi; split <;> split <;> omega
      clear hi
      rw [show (0 : Int) + (i : Int) = (i : Int) by omega]
      refine ⟨_, rfl, _, rfl, a, ns, i, rfl, haG, l1000, by omega, fun H1 pA k1 p0n pot => ?_⟩
      refine ⟨_, rfl, _, rfl, pA, 6, rfl, pot, by decide, by decide, fun H2 v k2 pot2 hv => ?_⟩
      refine ⟨_, _, rfl, rfl, pA, 4 + v, rfl, pot2, by omega, by omega, fun H3 wA R k3 pot3 hw3 Gd Pl => ?_⟩
      have n4 : 4 ≤ 4 + v := by omega
      have n9 : 4 + v ≤ 9 := by omega
      generalize 4 + v = n at *
      have W := Gd.toWeb
      -- the faces, the rim
      refine ⟨_, rfl, wA, n, R, rfl, hw3, W, by omega, n9, Gd.full 0 (by omega), fun H4 fA ts ls k4 hf4 ofs lne l81 told => ?_⟩
      have hw4 := hw3.kp k4
      have pot4 := pot3.kp k4 (by simp)
      have lts := ofs.len
      have ls0 : 0 < ls.length := List.length_pos_iff.mpr lne
      refine ⟨_, rfl, _, rfl, _, rfl, fA, _, rfl, .inl hf4, pA, _, rfl, pot4, by rw [List.length_map]; omega, by rw [List.length_map]; omega, fun H5 kk k5 pot5 hkk => ?_⟩
      have kkl : kk < ls.length := by rw [List.length_map] at hkk; omega
      obtain ⟨lA, tl1, tl2⟩ := Paired.at2 ofs (List.getElem?_eq_getElem kkl)
      obtain ⟨c, cyc, tl⟩ := told _ (List.getElem_mem kkl)
      generalize ls[kk] = l at tl tl2
      refine ⟨fA, _, _, .ref lA, rfl, rfl, .inl (at_off hf4 k5 (pot_neL pot4 hf4)), atI_nat (by rw [List.getElem?_map, tl1]; rfl), ?_⟩
      have hl5 := at_off tl2 k5 (pot_ne pot4 tl2)
      have hw5 := hw4.off k5 pot4
      obtain ⟨lne', llt⟩ := told_ne W tl
      have lnd : l.Nodup := by
        obtain ⟨s0, t0, cy0, _, _, el⟩ := tl.ex
        rw [el]
        exact Pl _ cy0
      have ll9 : l.length ≤ 9 := Nat.le_trans (nd_le lnd llt) n9
      have l0 : 0 < l.length := List.length_pos_iff.mpr lne'
      -- corners, weights, names
      refine ⟨_, rfl, _, rfl, lA, _, rfl, .inr (.inl hl5), pA, l.length, by rw [List.length_map]; rfl, pot5, l0, ll9, fun H6 cA cs ps k6 pot6 hc6 oc6 lps cv sm => ?_⟩
      have hw6 := hw5.off k6 pot5
      have hl6 := at_off hl5 k6 (pot_ne pot5 hl5)
      refine ⟨_, rfl, _, rfl, _, rfl, pA, wA, lA, n, R, l, rfl, pot6, hw6, W, n9, hl6, fun H7 dA kvs k7 pot7 hd7 wts => ?_⟩
      have hw7 := hw6.off k7 pot6
      have hl7 := at_off hl6 k7 (pot_ne pot6 hl6)
      have hc7 := at_off hc6 k7 (pot_ne pot6 hc6)
      have oc7 := objs_off oc6 k7 pot6 fun s l => by simp
      obtain ⟨xs7, hx7, lx7⟩ := hw7.len
      refine ⟨_, rfl, _, rfl, wA, xs7, rfl, .inr (.inl hx7), pA, n, by rw [lx7]; rfl, pot7, by omega, fun H8 nA nl k8 pot8 nA0 hn8 pm => ?_⟩
      have hw8 := hw7.off k8 pot7
      have hl8 := at_off hl7 k8 (pot_ne pot7 hl7)
      have hc8 := at_off hc7 k8 (pot_ne pot7 hc7)
      have oc8 := objs_off oc7 k8 pot7 fun s l => by simp
      have hd8 := at_off hd7 k8 (pot_neT pot7 hd7)
      have nAp : nA ≠ pA := pot7.none nA0
      refine ⟨_, rfl, pA, 2, rfl, pot8, by decide, by decide, fun H9 mv k9 pot9 hmv => ?_⟩
      have hw9 := hw8.off k9 pot8
      have hl9 := at_off hl8 k9 (pot_ne pot8 hl8)
      have hc9 := at_off hc8 k9 (pot_ne pot8 hc8)
      have oc9 := objs_off oc8 k9 pot8 fun s l => by simp
      have hd9 := at_off hd8 k9 (pot_neT pot8 hd8)
      have hn9 := at_off hn8 k9 nAp
      have haB : SqL K H9 a (ns.map V.int) := sqL_kp haG (k1.off (((((((k2.trans k3).trans k4.nil).trans k5).trans k6).trans k7).trans k8).trans k9) p0n)
      refine ⟨rfl, ?_⟩
      generalize decide (nV mv = V.int 1) = m
      clear haG ha k1 k2 k3 k4 k5 k6 k7 k8 k9 pot pot2 pot3 pot4 pot5 pot6 pot7 pot8 pot9 hw3 hw4 hw5 hw6 hw7 hw8 hl5 hl6 hl7 hl8 hc6 hc7 hc8 oc6 oc7 oc8 hd7 hd8 hn8 hf4 ofs tl1 tl2 hx7 nA0 p0n nAp hmv
      obtain ⟨fw, hw9a, hw9b⟩ := id hw9
      have nll : nl.length = n := by rw [pm.length_eq, List.length_range]
      -- the names of the rim
      refine ⟨_, rfl, lA, rfl, ⟨_, SqT.of hl9⟩, fun D1 hD1 => ?_⟩
      refine lc_tup (K := K) (a := lA) (xs := nVs l) (fun j F => F = upd H9 D1 (.lst (nVs ((l.take j).map (nm nl))))) rfl (fun j F _ h => ?_) (fun j x F hx h => ?_) (fun F h => ?_)
      · subst h
        exact SqT.of (by rw [upd_ne (ne_of_none hl9 hD1)]; exact hl9)
      · subst h
        rw [List.getElem?_map] at hx
        obtain ⟨z, hz, rfl⟩ := Option.map_eq_some_iff.mp hx
        have zn := llt z (List.mem_of_getElem? hz)
        have jl := (List.getElem?_eq_some_iff.mp hz).1
        refine ⟨rfl, _, rfl, _, rfl, nA, _, _, _, rfl, rfl, .inl (by rw [upd_ne (ne_of_none hn9 hD1)]; exact hn9), atI_nVs (names_lt pm zn).2, _, upd_same, ?_, ?_⟩
        · simp only [List.length_map, List.length_take, sizeLine_eq]; omega
        · rw [upd_upd, take_snoc hz]
          simp [nVs]
      rw [List.length_map, List.take_length] at h
      have k10 : Kp [] H9 F := by rw [h]; exact Kp.new hD1
      have hD10 : F D1 = some (.lst (nVs (l.map (nm nl)))) := by rw [h]; exact upd_same
      clear h
      generalize F = H10 at k10 hD10 ⊢
      have hc10 := k10.same _ _ hc9
      have oc10 := oc9.kp k10
      -- the corners, mirrored
      refine ⟨_, rfl, cA, rfl, ⟨_, SqT.of hc10⟩, fun D2 hD2 => ?_⟩
      refine lc_tup (K := K) (a := cA) (xs := cs.map V.ref) (fun j F => ∃ us, F D2 = some (.lst (us.map V.ref)) ∧ Kp [] H10 F ∧ Objs F ptO us ((ps.take j).map (swp1 m))) ⟨[], upd_same, Kp.new hD2, .nil⟩ (fun j F _ h => ?_) (fun j x F hx h => ?_) (fun F h => ?_)
      · obtain ⟨_, _, k, _⟩ := h
        exact SqT.of (k.same _ _ hc10)
      · obtain ⟨us, hDF, kF, ob⟩ := h
        obtain ⟨u, r, rfl, _, hr', huo⟩ := objs_iat oc10 hx
        have il := (List.getElem?_eq_some_iff.mp hr').1
        refine ⟨rfl, _, rfl, _, rfl, u, .int r.1, .int r.2, m, rfl, kF.same _ _ huo, fun t F1 kF1 ht => ?_⟩
        have hD1' := kF1.same _ _ hDF
        have lob := ob.len
        rw [List.length_map, List.length_take] at lob
        have tD : t ≠ D2 := fun z => by rw [z, hD1'] at ht; cases ht
        refine ⟨us.map V.ref, hD1', by rw [List.length_map, sizeLine_eq]; omega, us ++ [t], by rw [upd_same]; simp, (kF.trans kF1).own hD2, ?_⟩
        rw [take_snoc hr', List.map_append]
        refine ((ob.kp kF1).put (u := .lst (us.map V.ref)) hD1' (fun s => by simp)).snoc (s := swp1 m r) ?_
        rw [upd_ne tD, ht]
        cases m <;> rfl
      obtain ⟨us, hD11, k11, ou⟩ := h
      have lcs := oc9.len
      rw [List.length_map, lcs, List.take_length] at ou
      have D12 : D1 ≠ D2 := ne_of_none hD10 hD2
      have D2H := k10.free hD2
      have k911 := k10.trans k11
      have hD1b := k11.same _ _ hD10
      generalize F = H11 at hD11 k11 ou k911 hD1b ⊢
      have hw11 := k911.same _ _ hw9a
      have hwr11 : ∀ p, p < n → FzT H11 (fw p) (nVs (R p)) := fun p hp => (hw9b p hp).kp k911 (by simp)
      -- the rows
      refine ⟨_, rfl, wA, rfl, ⟨_, SqT.of hw11⟩, fun D3 hD3 => ?_⟩
      have ln : ((List.range n).map fun p => V.ref (fw p)).length = n := by rw [List.length_map, List.length_range]
      refine lc_tup (K := K) (a := wA) (xs := (List.range n).map fun p => V.ref (fw p)) (fun i G => ∃ g : Nat → Addr, G D3 = some (.lst ((List.range i).map fun j => V.ref (g j))) ∧ Kp [] H11 G ∧ (∀ j, j < i → G (g j) = some (.lst (nVs (R j))) ∧ g j ≠ D3 ∧ H11 (g j) = none) ∧ ∀ j k, j < i → k < i → g j = g k → j = k)
        ⟨fun _ => 0, upd_same, Kp.new hD3, fun j hj => absurd hj (Nat.not_lt_zero _), fun j k hj => absurd hj (Nat.not_lt_zero _)⟩ (fun i G _ h => ?_) (fun i x G hx h => ?_) (fun G h => ?_)
      · obtain ⟨_, _, k, _⟩ := h
        exact SqT.of (k.same _ _ hw11)
      · obtain ⟨g, hDG, kG, hg, inj⟩ := h
        have hin : i < n := by
          have := (List.getElem?_eq_some_iff.mp hx).1
          rwa [ln] at this
        rw [range_at hin] at hx
        obtain rfl := Option.some.inj hx
        refine ⟨rfl, _, rfl, fw i, _, rfl, ((hwr11 i hin).kp kG (by simp)).sq, fun z hz => ?_⟩
        have zD : D3 ≠ z := ne_of_none hDG hz
        have hzn := kG.free hz
        have gz : ∀ j, j < i → g j ≠ z := fun j hj => ne_of_none (hg j hj).1 hz
        refine ⟨_, by rw [upd_ne zD]; exact hDG, by rw [List.length_map, List.length_range, sizeLine_eq]; omega, fun j => if j = i then z else g j, ?_, (kG.new' hz).own hD3, fun j hj => ?_, fun j k hj hk e => ?_⟩
        · rw [upd_same]
          exact fun_snoc g z i
        · by_cases e : j = i
          · subst e
            simp only [if_true]
            exact ⟨by rw [upd_ne zD.symm, upd_same], zD.symm, hzn⟩
          · simp only [e, if_false]
            obtain ⟨h1, h2, h3⟩ := hg j (by omega)
            exact ⟨by rw [upd_ne h2, upd_ne (gz j (by omega))]; exact h1, h2, h3⟩
        · exact inj_snoc inj gz hj hk e
      obtain ⟨g, hD13, k12, hg, inj⟩ := h
      rw [ln] at hD13 hg inj
      have rg : RowsF G D3 n R g := ⟨hD13, fun j hj => (hg j hj).1, fun j hj => (hg j hj).2.1, inj⟩
      have gH : ∀ j, j < n → H9 (g j) = none := fun j hj => k911.free (hg j hj).2.2
      have D3H := k911.free hD3
      have offD : ∀ b, b ∈ own D3 n g → b ∉ [D1, D2] := fun b hb z => by
        have hbn : H11 b = none := by
          rcases own_cases hb with e | ⟨p, hp, e⟩
          · rw [e]; exact hD3
          · rw [e]; exact (hg p hp).2.2
        simp only [List.mem_cons, List.not_mem_nil, or_false] at z
        rcases z with e | e
        · rw [e, hD1b] at hbn; cases hbn
        · rw [e, hD11] at hbn; cases hbn
      have k912 := k911.trans k12
      have hD1c := k12.same _ _ hD1b
      have hD2c := k12.same _ _ hD11
      have ou12 := ou.kp k12
      generalize G = H12 at *
      clear hD13 hg inj k12 k911 k11 k10 ou hwr11 hw11 hD11 hD1b hc10 oc10 hD10
      refine ⟨_, rfl, m, rfl, ?_⟩
      show if m = true then _ else _
      refine if_joinS (a := D3) (H := H12) (fun b' G => Kp [] H9 G ∧ G D1 = some (.lst (nVs (tur m (l.map (nm nl))))) ∧ (∃ us, G D2 = some (.lst (us.map V.ref)) ∧ Objs G ptO us (turP m ps)) ∧ ∃ g, RowsF G b' n (fun p => tur m (R p)) g) (fun b' G h => ?_) (fun hm k => ?_) (fun hm => ?_)
      rotate_left
      · subst hm
        refine ⟨_, rfl, .inl ⟨rfl, _, SqL.of hD1c⟩, D1, _, rfl, rfl, hD1c, ?_⟩
        have hD2d : upd H12 D1 (.lst (nVs (l.map (nm nl))).reverse) D2 = some (.lst (us.map V.ref)) := by rw [upd_ne D12.symm]; exact hD2c
        refine ⟨_, rfl, .inl ⟨rfl, _, SqL.of hD2d⟩, D2, _, rfl, rfl, hD2d, ?_⟩
        have kM : Kp [D1, D2] H12 (upd (upd H12 D1 (.lst (nVs (l.map (nm nl))).reverse)) D2 (.lst (us.map V.ref).reverse)) := (Kp.put (by simp)).trans (Kp.put (by simp))
        have k13 : Kp [] H9 (upd (upd H12 D1 (.lst (nVs (l.map (nm nl))).reverse)) D2 (.lst (us.map V.ref).reverse)) := (k912.own hD1).own D2H
        have hD1e : upd (upd H12 D1 (.lst (nVs (l.map (nm nl))).reverse)) D2 (.lst (us.map V.ref).reverse) D1 = some (.lst (nVs (tur true (l.map (nm nl))))) := by
          rw [upd_ne D12, upd_same]
          show _ = some (HO.lst (nVs (l.map (nm nl)).reverse))
          simp [nVs]
        have hD2e : upd (upd H12 D1 (.lst (nVs (l.map (nm nl))).reverse)) D2 (.lst (us.map V.ref).reverse) D2 = some (.lst (us.reverse.map V.ref)) := by
          rw [upd_same, List.map_reverse]
        have ou13 := (ou12.put (D := D1) (v := .lst (nVs (l.map (nm nl))).reverse) hD1c (fun s => by simp)).put (D := D2) (v := .lst (us.map V.ref).reverse) hD2d (fun s => by simp)
        have rg13 := rg.kp kM offD
        generalize upd (upd H12 D1 (.lst (nVs (l.map (nm nl))).reverse)) D2 (.lst (us.map V.ref).reverse) = H13 at k13 hD1e hD2e ou13 rg13 ⊢
        clear kM hD2d
        refine ⟨_, rfl, D3, rfl, ⟨_, SqL.of rg13.top⟩, fun D4 hD4 => ?_⟩
        refine lc_list (K := K) (a := D3) (xs := (List.range n).map fun p => V.ref (g p)) (fun i G => ∃ g : Nat → Addr, G D4 = some (.lst ((List.range i).map fun j => V.ref (g j))) ∧ Kp [] H13 G ∧ (∀ j, j < i → G (g j) = some (.lst (nVs (tur true (R j)))) ∧ g j ≠ D4 ∧ H13 (g j) = none) ∧ ∀ j k, j < i → k < i → g j = g k → j = k)
          ⟨fun _ => 0, upd_same, Kp.new hD4, fun j hj => absurd hj (Nat.not_lt_zero _), fun j k hj => absurd hj (Nat.not_lt_zero _)⟩ (fun i G _ h => ?_) (fun i x G hx h => ?_) (fun G h => ?_)
        · obtain ⟨_, _, k, _⟩ := h
          exact SqL.of (k.same _ _ rg13.top)
        · obtain ⟨g2, hDG, kG, hg, inj⟩ := h
          have hin : i < n := by
            have := (List.getElem?_eq_some_iff.mp hx).1
            rwa [List.length_map, List.length_range] at this
          rw [range_at hin] at hx
          obtain rfl := Option.some.inj hx
          refine ⟨rfl, _, rfl, g i, _, rfl, kG.same _ _ (rg13.row i hin), fun z hz => ?_⟩
          have er : (nVs (R i)).reverse = nVs (tur true (R i)) := by
            show _ = nVs (R i).reverse
            simp [nVs]
          rw [er]
          have zD : D4 ≠ z := ne_of_none hDG hz
          have hzn := kG.free hz
          have gz : ∀ j, j < i → g2 j ≠ z := fun j hj => ne_of_none (hg j hj).1 hz
          refine ⟨_, by rw [upd_ne zD]; exact hDG, by rw [List.length_map, List.length_range, sizeLine_eq]; omega, fun j => if j = i then z else g2 j, ?_, (kG.new' hz).own hD4, fun j hj => ?_, fun j k hj hk e => ?_⟩
          · rw [upd_same]
            exact fun_snoc g2 z i
          · by_cases e : j = i
            · subst e
              simp only [if_true]
              exact ⟨by rw [upd_ne zD.symm, upd_same], zD.symm, hzn⟩
            · simp only [e, if_false]
              obtain ⟨h1, h2, h3⟩ := hg j (by omega)
              exact ⟨by rw [upd_ne h2, upd_ne (gz j (by omega))]; exact h1, h2, h3⟩
          · exact inj_snoc inj gz hj hk e
        · obtain ⟨g2, hDG, kG, hg, inj⟩ := h
          rw [List.length_map, List.length_range] at hDG hg inj
          refine k D4 G ⟨k13.trans kG, kG.same _ _ hD1e, ⟨us.reverse, kG.same _ _ hD2e, ?_⟩, g2, hDG, fun j hj => (hg j hj).1, fun j hj => (hg j hj).2.1, inj⟩
          rw [turP_is]
          exact Paired.rev (ou13.kp kG)
      · subst hm
        refine ⟨k912, hD1c, ⟨us, hD2c, ?_⟩, g, rg⟩
        rw [turP_is]
        exact ou12
      · show tNext _ [some (V.ref a), some (nV i), some (V.ref pA), some (V.ref wA), some (V.ref fA), some (V.ref lA), some (V.ref cA), some (V.ref dA), some (V.ref nA), some (V.bl m), none, some (V.ref D1), none, some (V.ref D2), none, some (V.ref b'), v16, v17, none, v19, v20, v21] G
        obtain ⟨kG, hDa, ⟨us2, hDb, ou2⟩, g2, rf⟩ := h
        refine runT _ G wA lA cA dA nA D1 D2 b' n R c l cs ps kvs nl m us2 g2 _ _ _ _ _ _ _ _ _ ⟨n4, n9, Gd, Pl, cyc, tl, hw9.kp kG, kG.same _ _ hl9, kG.same _ _ hc9, oc9.kp kG, lps, cv, sm, kG.same _ _ hd9, wts, kG.same _ _ hn9, pm, hDa, hDb, ou2, rf⟩ fun G' v16 v17 v19 v20 v21 kE => ?_
        exact ⟨_, _, _, _, _, _, _, _, _, _, _, _, _, _, _, _, _, rfl, sqL_kp haB (kG.trans kE)⟩
    · obtain ⟨v1, v2, v3, v4, v5, v6, v7, v8, v9, v11, v13, v15, v16, v17, v19, v20, v21, rfl, haG⟩ := h
      exact q G
theorem ok_law (T : Txt K mg) : ∃ fd : FuncData, (∀ (s : Shared) (v : Value), BindsTo s fd ⟨[v], []⟩ [("_law_script", v)]) ∧ ∀ base : Heap, FnOk P w K mg base CX0 8 (He.ga K "law") fd ["_law_script"] (sp_law K) := by
  obtain ⟨fd, F⟩ := T.c.def_ 58 (d := d_law) rfl
  refine ⟨fd, fun s v => (FunD.bindsA (ps := ["_law_script"]) F fun _ _ _ _ _ _ us hl => match us, hl with | [_], _ => rfl) s [v] rfl, fun base => ?_⟩
  refine F.ok sc_law (fun vs H Q E h => ?_) (fun cdv A outer s H vs Q E hr hs => ?_)
  · obtain ⟨_, _, rfl, _⟩ := h
    rfl
  · obtain ⟨t, a, b⟩ := law_body (base := base) T cdv A outer s H vs Q E hr hs
    exact ⟨t, a.nox, b⟩
end
end Rd
set_option Elab.async false
set_option linter.all false
set_option maxRecDepth 100000
set_option maxHeartbeats 0
/-! The end: the law's own run gives True. -/
open PySem PySem.W PySem.Calls PyProof.Rows
theorem PySem.Challenge.cw_restdraw_k35_whole_renamed_and_mirrored_holds : PySem.Challenge.rw_restdraw_k35_whole_renamed_and_mirrored.Holds := by
  w_on; o_law
  refine HandSHeadRun.head_any (r := OpenLaw.row PySem.Challenge.rw_restdraw_k35_whole_renamed_and_mirrored) (q := view (OpenLaw.row PySem.Challenge.rw_restdraw_k35_whole_renamed_and_mirrored).prog [73]) (H := Rd.hk) (ob := Rd.ob) (M := 6000) (loose := Rd.loose) (d := HandSHeadRun.topDef (OpenLaw.row PySem.Challenge.rw_restdraw_k35_whole_renamed_and_mirrored).prog 73) (kwd := []) Rd.ob_eq
    (by kernel_rfl) (fun s => by kernel_rfl) Rd.run (by kernel_rfl) (by kernel_rfl) (by kernel_rfl) (by rfl) (by first | assumption | decide +kernel) (by decide +kernel) ⟨rfl, rfl, rfl, rfl, rfl, by decide +kernel⟩ ?hw ?hc
  case hw => w_witness2
  case hc =>
    refine L2.walk_ofE (l := PySem.Challenge.rw_restdraw_k35_whole_renamed_and_mirrored) (n := 63) (k := 8) (x := "_law_script") (CX := L2.CX0) rfl (by decide) (by kernel_rfl) ⟨rfl, by decide, by decide⟩ ?F (fun _ _ _ _ z => z)
    intro w mg fa h Y G hmg0
    obtain ⟨K, KX, c⟩ := Y
    have hmg : mg ("law" : PySem.Str) = some (.ref fa) := by
      have e : (HandSHeadRun.topDef (OpenLaw.row PySem.Challenge.rw_restdraw_k35_whole_renamed_and_mirrored).prog 73).name = ("law" : PySem.Str) := by kernel_rfl
      rw [← e]
      exact hmg0
    have T : Rd.Txt K mg := Rd.txt_mk KX G c
    obtain ⟨fd, hb, hF⟩ := Rd.ok_law (P := (PySem.Challenge.rw_restdraw_k35_whole_renamed_and_mirrored).prog) (w := w) T
    have hfa : fa = He.ga K "law" := by
      have e := hmg.symm.trans (T.g "law" (List.mem_of_getElem? (i := 58) rfl))
      cases e
      rfl
    subst hfa
    exact ⟨K, fd, Rd.sp_law K, KX, hb, fun H a ns hl _ hS => ⟨a, ns, rfl, hS, by omega, fun _ => rfl⟩, fun base _ _ => hF base⟩
